import PyProof.Rows.All
import Wide.All
import OpenK.AllK
import Wide.FinOn
import HandS.ForMost
import HandS.Exc
import HandS.ExcOwn
import HandS.WordsExc
import HandS.Lambda
import HandS.Defaults
import HandS.Style
import HandS.IsInst
import HandS.Strs
import HandS.Conv
import HandS.Flow
import HandS.TryMany
import HandS.Walk
import HandS.Iter
import HandS.Zip
import HandS.Comp
import KE.GoesComp
import HandS.List
import HandS.Dict
import HandS.Ends
import HandS.EndTab
import HandS.HeadWalk
import HandS.HeadHook4
import KE.DataEq
import HandS.Text
import HandS.FStr
import HandS.AnyAll
import KE.GoesEnum
import HandS.DictComp
import HandS.More
import PyProof.StrOps2
import KE.KDictPairs
import HandS.ListItems
import KE.KDictZip
import PySem.Challenge.RW_chipstack_k18_waves_as_texts
import KE.KStateDown
import Lean
import HandS.Head0
import HandS.Head1
import HandS.Head2
import HandS.HeadEnd
import HandS.HeadHook1
import HandS.HeadHook2
import HandS.HeadHook3
set_option Elab.async false
set_option linter.all false
set_option maxRecDepth 100000
set_option maxHeartbeats 1000000
/-! Y1: data by value, objects by number; how these stand beside the abstract heap. -/
namespace Y
open PySem PySem.Spec PyProof.Rows L2

/-- a value of the mirror: tuples by value, mutable objects by their number; fro: a list that is never written; ktp: a tuple of the module's own -/
inductive D where
  | non | bl (b : Bool) | int (i : Int) | str (s : Str) | tup (l : List D) | adr (i : Nat) | fro (l : List D) | ktp (l : List D) | gtp (l : List D)
/-- a mutable object of the mirror -/
inductive MO where
  | lst (l : List D)
  | dic (l : List (Key × D))
  | dit (l : List (List Key × D))
  | ins (c : Str) (fs : List (Str × D))

/-- the mirror's store: objects 0 to n less 1 -/
structure Sr where
  n : Nat
  f : Nat → Option MO
def Sr.put (S : Sr) (i : Nat) (m : MO) : Sr := ⟨S.n, fun j => if j = i then some m else S.f j⟩
def Sr.alloc (S : Sr) (m : MO) : Sr := ⟨S.n + 1, fun j => if j = S.n then some m else S.f j⟩

inductive R (α : Type) where
  | ok (a : α) (S : Sr) | exc (c : Str) (S : Sr) | bad
abbrev SM (α : Type) := Sr → R α
def SM.pure {α : Type} (a : α) : SM α := fun S => .ok a S
def SM.bind {α β : Type} (m : SM α) (k : α → SM β) : SM β := fun S => match m S with
  | .ok a S' => k a S'
  | .exc c S' => .exc c S'
  | .bad => .bad
instance : Monad SM where
  pure := SM.pure
  bind := SM.bind
abbrev Gm := List (Option D)
abbrev ME := Gm → SM D
abbrev MA := Gm → SM (List D)
abbrev MT := Gm → SM Bool
inductive RS where
  | nx (g : Gm) (S : Sr) | rt (d : D) (S : Sr) | bk (g : Gm) (S : Sr) | ct (g : Gm) (S : Sr) | ex (c : Str) (S : Sr) | bad
abbrev MS := Gm → Sr → RS

/-- what is fixed: the written part, the classes by name, the tables of code objects -/
structure Ct where
  K : PySem.W.Frag
  cls : Str → Addr
  T : List (Addr × Str)

/-- a list that is never written: frozen, or of the written part -/
def SqF (K : PySem.W.Frag) (H : Hp) (a : Addr) (xs : List V) : Prop :=
  (∃ o, H a = some (.frz o (.lst xs))) ∨
    ∃ (o : Obj) (its : Array Value) (n : Nat), K.lookup a = some o ∧ o.cls = .type "list" ∧ o.dict = none ∧ o.data = .seq its n ∧ its.size ≤ sizeLine ∧ Vals xs its.toList
/-- a tuple of the written part -/
def KT (K : PySem.W.Frag) (a : Addr) (xs : List V) : Prop :=
  ∃ (o : Obj) (its : Array Value) (n : Nat), K.lookup a = some o ∧ o.cls = .type "tuple" ∧ o.dict = none ∧ o.data = .seq its n ∧ its.size ≤ sizeLine ∧ Vals xs its.toList
theorem KT.sq {K : PySem.W.Frag} {H : Hp} {a : Addr} {xs : List V} (h : KT K a xs) : SqT K H a xs := by
  obtain ⟨o, its, n, h1, h2, _, h3, h4, h5⟩ := h
  exact .inr ⟨o, its, n, h1, h2, h3, h4, h5⟩
theorem SqF.sq {K : PySem.W.Frag} {H : Hp} {a : Addr} {xs : List V} (h : SqF K H a xs) : SqL K H a xs := by
  rcases h with ⟨o, h⟩ | h
  · exact .inl (.inr ⟨o, h⟩)
  · exact .inr h

/-- a tuple known with its object -/
def GT (H : Hp) (a : Addr) (xs : List V) : Prop := ∃ o : Obj, H a = some (.frz o (.tup xs)) ∧ o.dict = none
theorem GT.sq {K : PySem.W.Frag} {H : Hp} {a : Addr} {xs : List V} (h : GT H a xs) : SqT K H a xs := by
  obtain ⟨o, h, _⟩ := h
  exact .inl (.inr ⟨o, h⟩)
section
variable (c : Ct) (m : Nat → Addr) (n : Nat) (H : Hp)
mutual
def RelD : D → V → Prop
  | .non, v => v = .non
  | .bl b, v => v = .bl b
  | .int i, v => v = .int i
  | .str s, v => v = .str s
  | .tup ds, v => ∃ a vs, v = .ref a ∧ H a = some (.tup vs) ∧ RelDs ds vs
  | .ktp ds, v => ∃ a vs, v = .ref a ∧ KT c.K a vs ∧ RelDs ds vs
  | .adr i, v => v = .ref (m i) ∧ i < n
  | .fro ds, v => ∃ a vs, v = .ref a ∧ SqF c.K H a vs ∧ RelDs ds vs
  | .gtp ds, v => ∃ a vs, v = .ref a ∧ GT H a vs ∧ RelDs ds vs
def RelDs : List D → List V → Prop
  | [], vs => vs = []
  | d :: ds, vs => ∃ v r, vs = v :: r ∧ RelD d v ∧ RelDs ds r
end
def RelK {κ : Type} : List (κ × D) → List (κ × V) → Prop
  | [], vs => vs = []
  | p :: ds, vs => ∃ v r, vs = (p.1, v) :: r ∧ RelD c m n H p.2 v ∧ RelK ds r
def RelO : MO → HO → Prop
  | .lst ds, o => ∃ vs, o = .lst vs ∧ RelDs c m n H ds vs
  | .dic ds, o => ∃ vs, o = .dK vs ∧ RelK c m n H ds vs
  | .dit ds, o => ∃ vs, o = .dT vs ∧ RelK c m n H ds vs
  | .ins q fs, o => ∃ dx vs, o = .ins (c.cls q) dx vs ∧ RelK c m n H fs vs
def RelG (g : Gm) (σ : L2.St) : Prop := g.length = σ.length ∧ ∀ (i : Nat) (d : D), g[i]? = some (some d) → ∃ v, σ[i]? = some (some v) ∧ RelD c m n H d v
end

/-- what stays readable -/
def Kp (H H' : Hp) : Prop := (∀ a xs, H a = some (.tup xs) → H' a = some (.tup xs)) ∧ ∀ a o u, H a = some (.frz o u) → H' a = some (.frz o u)
theorem Kp.refl (H : Hp) : Kp H H := ⟨fun _ _ h => h, fun _ _ _ h => h⟩
theorem Kp.trans {H H1 H2 : Hp} (a : Kp H H1) (b : Kp H1 H2) : Kp H H2 := ⟨fun p xs h => b.1 p xs (a.1 p xs h), fun p o u h => b.2 p o u (a.2 p o u h)⟩
theorem Kp.sqT {K : PySem.W.Frag} {H H' : Hp} (k : Kp H H') {a : Addr} {xs : List V} (h : SqT K H a xs) : SqT K H' a xs := by
  rcases h with (h | ⟨o, h⟩) | h
  · exact .inl (.inl (k.1 a xs h))
  · exact .inl (.inr ⟨o, k.2 a o _ h⟩)
  · exact .inr h
theorem Kp.sqF {K : PySem.W.Frag} {H H' : Hp} (k : Kp H H') {a : Addr} {xs : List V} (h : SqF K H a xs) : SqF K H' a xs := by
  rcases h with ⟨o, h⟩ | h
  · exact .inl ⟨o, k.2 a o _ h⟩
  · exact .inr h
section
variable {c : Ct} {m m' : Nat → Addr} {n n' : Nat} {H H' : Hp}
mutual
theorem RelD.mono (hm : ∀ i, i < n → m' i = m i) (hn : n ≤ n') (k : Kp H H') : ∀ {d : D} {v : V}, RelD c m n H d v → RelD c m' n' H' d v
  | .non, _, h => h
  | .bl _, _, h => h
  | .int _, _, h => h
  | .str _, _, h => h
  | .tup ds, _, h => by
    unfold RelD at h ⊢
    obtain ⟨a, vs, e, h1, h2⟩ := h
    exact ⟨a, vs, e, k.1 a vs h1, RelDs.mono hm hn k h2⟩
  | .ktp ds, _, h => by
    unfold RelD at h ⊢
    obtain ⟨a, vs, e, h1, h2⟩ := h
    exact ⟨a, vs, e, h1, RelDs.mono hm hn k h2⟩
  | .adr i, _, h => by
    unfold RelD at h ⊢
    exact ⟨by rw [h.1, hm i h.2], Nat.lt_of_lt_of_le h.2 hn⟩
  | .fro ds, _, h => by
    unfold RelD at h ⊢
    obtain ⟨a, vs, e, h1, h2⟩ := h
    exact ⟨a, vs, e, k.sqF h1, RelDs.mono hm hn k h2⟩
  | .gtp ds, _, h => by
    unfold RelD at h ⊢
    obtain ⟨a, vs, e, ⟨o, h1, hd⟩, h2⟩ := h
    exact ⟨a, vs, e, ⟨o, k.2 a o _ h1, hd⟩, RelDs.mono hm hn k h2⟩
theorem RelDs.mono (hm : ∀ i, i < n → m' i = m i) (hn : n ≤ n') (k : Kp H H') : ∀ {ds : List D} {vs : List V}, RelDs c m n H ds vs → RelDs c m' n' H' ds vs
  | [], _, h => h
  | d :: ds, _, h => by
    unfold RelDs at h ⊢
    obtain ⟨v, r, e, h1, h2⟩ := h
    exact ⟨v, r, e, RelD.mono hm hn k h1, RelDs.mono hm hn k h2⟩
end
theorem RelK.mono {κ : Type} (hm : ∀ i, i < n → m' i = m i) (hn : n ≤ n') (k : Kp H H') : ∀ {ds : List (κ × D)} {vs : List (κ × V)}, RelK c m n H ds vs → RelK c m' n' H' ds vs
  | [], _, h => h
  | p :: ds, _, h => by
    unfold RelK at h ⊢
    obtain ⟨v, r, e, h1, h2⟩ := h
    exact ⟨v, r, e, RelD.mono hm hn k h1, RelK.mono hm hn k h2⟩
theorem RelO.mono (hm : ∀ i, i < n → m' i = m i) (hn : n ≤ n') (k : Kp H H') : ∀ {x : MO} {o : HO}, RelO c m n H x o → RelO c m' n' H' x o
  | .lst _, _, ⟨vs, e, h⟩ => ⟨vs, e, h.mono hm hn k⟩
  | .dic _, _, ⟨vs, e, h⟩ => ⟨vs, e, h.mono hm hn k⟩
  | .dit _, _, ⟨vs, e, h⟩ => ⟨vs, e, h.mono hm hn k⟩
  | .ins _ _, _, ⟨dx, vs, e, h⟩ => ⟨dx, vs, e, h.mono hm hn k⟩
theorem RelG.mono (hm : ∀ i, i < n → m' i = m i) (hn : n ≤ n') (k : Kp H H') {g : Gm} {σ : L2.St} (h : RelG c m n H g σ) : RelG c m' n' H' g σ := ⟨h.1, fun i d e => by
  obtain ⟨v, e1, r⟩ := h.2 i d e
  exact ⟨v, e1, r.mono hm hn k⟩⟩
theorem RelO.mut {x : MO} {o : HO} (h : RelO c m n H x o) : Mut (some o) ∧ (∀ xs, o ≠ .tup xs) ∧ (∀ a u, o ≠ .frz a u) ∧ ∀ ps, o ≠ .tbl ps := by
  cases x with
  | lst _ => obtain ⟨_, e, _⟩ := h; subst e; exact ⟨trivial, (fun _ z => nomatch z), (fun _ _ z => nomatch z), (fun _ z => nomatch z)⟩
  | dic _ => obtain ⟨_, e, _⟩ := h; subst e; exact ⟨trivial, (fun _ z => nomatch z), (fun _ _ z => nomatch z), (fun _ z => nomatch z)⟩
  | dit _ => obtain ⟨_, e, _⟩ := h; subst e; exact ⟨trivial, (fun _ z => nomatch z), (fun _ _ z => nomatch z), (fun _ z => nomatch z)⟩
  | ins _ _ => obtain ⟨_, _, e, _⟩ := h; subst e; exact ⟨trivial, (fun _ z => nomatch z), (fun _ _ z => nomatch z), (fun _ z => nomatch z)⟩
end

/-- the store stands in the heap, the i-th object at m i -/
structure Sim (c : Ct) (m : Nat → Addr) (S : Sr) (H : Hp) : Prop where
  dom : ∀ i x, S.f i = some x → i < S.n
  all : ∀ i, i < S.n → ∃ x, S.f i = some x
  inj : ∀ i j, i < S.n → j < S.n → m i = m j → i = j
  at_ : ∀ i x, S.f i = some x → ∃ o, H (m i) = some o ∧ RelO c m S.n H x o
  tabs : LamX.Tabs c.T H
theorem Sim.some_ {c : Ct} {m : Nat → Addr} {S : Sr} {H : Hp} (s : Sim c m S H) {i : Nat} (h : i < S.n) : ∃ o, H (m i) = some o ∧ Mut (some o) ∧ (∀ xs, o ≠ .tup xs) ∧ (∀ a u, o ≠ .frz a u) ∧ ∀ ps, o ≠ .tbl ps := by
  obtain ⟨x, e⟩ := s.all i h
  obtain ⟨o, e1, r⟩ := s.at_ i x e
  exact ⟨o, e1, r.mut⟩
theorem Sim.ne {c : Ct} {m : Nat → Addr} {S : Sr} {H : Hp} (s : Sim c m S H) {i : Nat} (h : i < S.n) {p : Addr} (hp : H p = none) : p ≠ m i := fun e => by
  obtain ⟨o, e1, _⟩ := s.some_ h
  rw [← e, hp] at e1
  cases e1
/-- from a store in a heap to another -/
structure Nxt (c : Ct) (m : Nat → Addr) (S : Sr) (H : Hp) (m' : Nat → Addr) (S' : Sr) (H' : Hp) : Prop where
  sim : Sim c m' S' H'
  mu : ∀ i, i < S.n → m' i = m i
  le : S.n ≤ S'.n
  new : ∀ i, S.n ≤ i → i < S'.n → ∀ o, H (m' i) = some o → ∃ ps, o = .tbl ps
  kp : Kp H H'
  fr : ∀ a o, (∀ i, i < S.n → a ≠ m i) → H a = some o → (∀ ps, o ≠ .tbl ps) → H' a = some o
section
variable {c : Ct} {m m1 m2 : Nat → Addr} {S S1 S2 : Sr} {H H1 H2 : Hp}
theorem Nxt.refl (s : Sim c m S H) : Nxt c m S H m S H :=
  ⟨s, fun _ _ => rfl, Nat.le_refl _, fun i h1 h2 => absurd (Nat.lt_of_lt_of_le h2 h1) (Nat.lt_irrefl _), Kp.refl H, fun _ _ _ h _ => h⟩
theorem Nxt.trans (s : Sim c m S H) (a : Nxt c m S H m1 S1 H1) (b : Nxt c m1 S1 H1 m2 S2 H2) : Nxt c m S H m2 S2 H2 := by
  refine ⟨b.sim, fun i h => (b.mu i (Nat.lt_of_lt_of_le h a.le)).trans (a.mu i h), Nat.le_trans a.le b.le, fun i h1 h2 o q => ?_, a.kp.trans b.kp, fun p o hp e ht => ?_⟩
  · by_cases hi : i < S1.n
    · rw [b.mu i hi] at q
      exact a.new i h1 hi o q
    · have hn := b.new i (Nat.le_of_not_lt hi) h2
      by_cases ht : ∃ ps, o = .tbl ps
      · exact ht
      · by_cases hj : ∃ j, j < S.n ∧ m2 i = m j
        · exfalso
          obtain ⟨j, hj, e⟩ := hj
          rw [← a.mu j hj] at e
          obtain ⟨o', e1, _, _, _, nt⟩ := a.sim.some_ (Nat.lt_of_lt_of_le hj a.le)
          rw [← e] at e1
          obtain ⟨ps, e2⟩ := hn o' e1
          exact nt ps e2
        · exact hn o (a.fr (m2 i) o (fun j hl e => hj ⟨j, hl, e⟩) q fun ps e => ht ⟨ps, e⟩)
  · refine b.fr p o (fun i hi e1 => ?_) (a.fr p o hp e ht) ht
    by_cases h : i < S.n
    · rw [a.mu i h] at e1
      exact hp i h e1
    · rw [e1] at e
      obtain ⟨ps, e2⟩ := a.new i (Nat.le_of_not_lt h) hi o e
      exact ht ps e2
theorem Nxt.relD (a : Nxt c m S H m1 S1 H1) {d : D} {v : V} (r : RelD c m S.n H d v) : RelD c m1 S1.n H1 d v := r.mono a.mu a.le a.kp
theorem Nxt.relDs (a : Nxt c m S H m1 S1 H1) {d : List D} {v : List V} (r : RelDs c m S.n H d v) : RelDs c m1 S1.n H1 d v := r.mono a.mu a.le a.kp
theorem Nxt.relG (a : Nxt c m S H m1 S1 H1) {g : Gm} {σ : L2.St} (r : RelG c m S.n H g σ) : RelG c m1 S1.n H1 g σ := r.mono a.mu a.le a.kp
end
end Y

set_option Elab.async false
set_option linter.all false
set_option maxRecDepth 100000
set_option maxHeartbeats 1000000
/-! Y2: the mirror's readings, and how they are put together. -/
namespace Y
open PySem PySem.Spec PyProof.Rows L2
section
variable {c : Ct} {m m1 m2 : Nat → Addr} {S S1 S2 : Sr} {H H1 H2 : Hp}
theorem kp_upd {p : Addr} {o : HO} (hp : ∀ q, H p = some q → (∀ b v, q ≠ .frz b v) ∧ ∀ xs, q ≠ .tup xs) : Kp H (upd H p o) := by
  refine ⟨fun a xs e => ?_, fun a b u e => ?_⟩
  · rw [upd_ne (fun z => ?_)]
    · exact e
    · subst z
      exact (hp _ e).2 xs rfl
  · rw [upd_ne (fun z => ?_)]
    · exact e
    · subst z
      exact (hp _ e).1 b u rfl
theorem tabs_upd {T : List (Addr × Str)} {p : Addr} {o : HO} (t : LamX.Tabs T H) (hp : ∀ q, H p = some q → (∀ ps, q ≠ .tbl ps) ∧ ∀ c q', q ≠ LamX.CodeO c q') : LamX.Tabs T (upd H p o) := fun q hq => by
  obtain ⟨ps, h1, h2, h3⟩ := t q hq
  refine ⟨ps, ?_, h2, fun pos cv hc => ?_⟩
  · rw [upd_ne (fun z => ?_)]
    · exact h1
    · rw [z] at h1
      exact (hp _ h1).1 ps rfl
  · obtain ⟨b, e1, e2⟩ := h3 pos cv hc
    refine ⟨b, e1, ?_⟩
    rw [upd_ne (fun z => ?_)]
    · exact e2
    · rw [z] at e2
      exact (hp _ e2).2 _ _ rfl
theorem none_any {p : Addr} (h : H p = none) {P : HO → Prop} : ∀ q, H p = some q → P q := fun q e => by
  rw [h] at e
  cases e
/-- a new object -/
def ext (m : Nat → Addr) (n : Nat) (p : Addr) : Nat → Addr := fun i => if i = n then p else m i
theorem ext_lt {n i : Nat} {p : Addr} (h : i < n) : ext m n p i = m i := if_neg (Nat.ne_of_lt h)
theorem ext_same {n : Nat} {p : Addr} : ext m n p n = p := if_pos rfl
theorem Nxt.alloc (s : Sim c m S H) {p : Addr} {x : MO} {o : HO} (hp : H p = none) (r : RelO c m S.n H x o) : Nxt c m S H (ext m S.n p) (S.alloc x) (upd H p o) := by
  have k : Kp H (upd H p o) := kp_upd (none_any hp)
  have mu : ∀ i, i < S.n → ext m S.n p i = m i := fun i h => ext_lt h
  refine ⟨⟨fun i y e => ?_, fun i h => ?_, fun i j hi hj e => ?_, fun i y e => ?_, tabs_upd s.tabs (none_any hp)⟩, mu, Nat.le_succ _, fun i h1 h2 u e => ?_, k, fun a u ha e _ => ?_⟩
  · show i < S.n + 1
    by_cases h : i = S.n
    · omega
    · have e' : S.f i = some y := (if_neg h).symm.trans e
      have := s.dom i y e'
      omega
  · have h : i < S.n + 1 := h
    by_cases q : i = S.n
    · exact ⟨x, if_pos q⟩
    · obtain ⟨y, e⟩ := s.all i (by omega)
      exact ⟨y, (if_neg q).trans e⟩
  · have hi : i < S.n + 1 := hi
    have hj : j < S.n + 1 := hj
    by_cases qi : i = S.n
    · by_cases qj : j = S.n
      · omega
      · rw [qi, ext_same, ext_lt (show j < S.n by omega)] at e
        exact absurd e (s.ne (by omega) hp)
    · by_cases qj : j = S.n
      · rw [qj, ext_same, ext_lt (show i < S.n by omega)] at e
        exact absurd e.symm (s.ne (by omega) hp)
      · rw [ext_lt (show i < S.n by omega), ext_lt (show j < S.n by omega)] at e
        exact s.inj i j (by omega) (by omega) e
  · by_cases h : i = S.n
    · have e' : some x = some y := (if_pos h).symm.trans e
      cases e'
      refine ⟨o, ?_, r.mono mu (Nat.le_succ _) k⟩
      rw [h, ext_same]
      exact upd_same
    · have e' : S.f i = some y := (if_neg h).symm.trans e
      have hi := s.dom i y e'
      obtain ⟨u, e1, r1⟩ := s.at_ i y e'
      refine ⟨u, ?_, r1.mono mu (Nat.le_succ _) k⟩
      rw [ext_lt hi, upd_ne (Ne.symm (s.ne hi hp))]
      exact e1
  · have h2 : i < S.n + 1 := h2
    have h : i = S.n := by omega
    rw [h, ext_same, hp] at e
    cases e
  · rw [upd_ne (ne_of_none e hp)]
    exact e
/-- a new tuple, or anything else that is new and no object of the store -/
theorem Nxt.fresh (s : Sim c m S H) {p : Addr} {o : HO} (hp : H p = none) : Nxt c m S H m S (upd H p o) := by
  have k : Kp H (upd H p o) := kp_upd (none_any hp)
  refine ⟨⟨s.dom, s.all, s.inj, fun i y e => ?_, tabs_upd s.tabs (none_any hp)⟩, fun _ _ => rfl, Nat.le_refl _, fun i h1 h2 => absurd (Nat.lt_of_lt_of_le h2 h1) (Nat.lt_irrefl _), k, fun a u _ e _ => ?_⟩
  · obtain ⟨u, e1, r1⟩ := s.at_ i y e
    refine ⟨u, ?_, r1.mono (fun _ _ => rfl) (Nat.le_refl _) k⟩
    rw [upd_ne (ne_of_none e1 hp)]
    exact e1
  · rw [upd_ne (ne_of_none e hp)]
    exact e
theorem codeO_not {x : MO} {o : HO} {n : Nat} (r : RelO c m n H x o) : ∀ b q, o ≠ LamX.CodeO b q := by
  intro b q z
  unfold LamX.CodeO at z
  cases x <;> (obtain ⟨_, r⟩ := r; first | (obtain ⟨e, _⟩ := r; rw [e] at z; cases z) | (obtain ⟨_, e, _⟩ := r; rw [e] at z; cases z))
/-- an object is changed -/
theorem Nxt.put (s : Sim c m S H) {i : Nat} {x0 x : MO} {o : HO} (hi : S.f i = some x0) (r : RelO c m S.n H x o) : Nxt c m S H m (S.put i x) (upd H (m i) o) := by
  have hl := s.dom i x0 hi
  obtain ⟨o0, e0, r0⟩ := s.at_ i x0 hi
  have q0 : ∀ q, H (m i) = some q → q = o0 := fun q e => by
    rw [e0] at e
    exact (Option.some.inj e).symm
  have k : Kp H (upd H (m i) o) := kp_upd fun q e => by
    rw [q0 q e]
    exact ⟨r0.mut.2.2.1, r0.mut.2.1⟩
  refine ⟨⟨fun j y e => ?_, fun j h => ?_, s.inj, fun j y e => ?_, tabs_upd s.tabs fun q e => by rw [q0 q e]; exact ⟨r0.mut.2.2.2, codeO_not r0⟩⟩, fun _ _ => rfl, Nat.le_refl _, fun i h1 h2 => absurd (Nat.lt_of_lt_of_le h2 h1) (Nat.lt_irrefl _), k, fun a u ha e _ => ?_⟩
  · show j < S.n
    by_cases h : j = i
    · rw [h]; exact hl
    · have e' : S.f j = some y := (if_neg h).symm.trans e
      exact s.dom j y e'
  · by_cases q : j = i
    · exact ⟨x, if_pos q⟩
    · obtain ⟨y, e⟩ := s.all j h
      exact ⟨y, (if_neg q).trans e⟩
  · by_cases h : j = i
    · have e' : some x = some y := (if_pos h).symm.trans e
      cases e'
      rw [h]
      exact ⟨o, upd_same, r.mono (fun _ _ => rfl) (Nat.le_refl _) k⟩
    · have e' : S.f j = some y := (if_neg h).symm.trans e
      obtain ⟨u, e1, r1⟩ := s.at_ j y e'
      refine ⟨u, ?_, r1.mono (fun _ _ => rfl) (Nat.le_refl _) k⟩
      rw [upd_ne (fun z => h (s.inj j i (s.dom j y e') hl z))]
      exact e1
  · rw [upd_ne (ha i hl)]
    exact e
/-- all but the tables stay -/
theorem Nxt.extN (s : Sim c m S H) (e : LamX.ExtN H H1) (t : LamX.Tabs c.T H1) : Nxt c m S H m S H1 := by
  have k : Kp H H1 := ⟨fun a xs h => e a _ h (fun _ z => nomatch z), fun a o u h => e a _ h (fun _ z => nomatch z)⟩
  refine ⟨⟨s.dom, s.all, s.inj, fun i y h => ?_, t⟩, fun _ _ => rfl, Nat.le_refl _, fun i h1 h2 => absurd (Nat.lt_of_lt_of_le h2 h1) (Nat.lt_irrefl _), k, fun a u _ h n => e a u h n⟩
  obtain ⟨o, e1, r⟩ := s.at_ i y h
  exact ⟨o, e (m i) o e1 r.mut.2.2.2, r.mono (fun _ _ => rfl) (Nat.le_refl _) k⟩
end

/-! ### what follows -/
section
variable (c : Ct) (E : XK) (m : Nat → Addr) (S : Sr) (H : Hp)
def PoE (Q : VK) : R D → Prop
  | .ok d S' => ∀ m' H' v, Nxt c m S H m' S' H' → RelD c m' S'.n H' d v → Q v H'
  | .exc q S' => ∀ m' H', Nxt c m S H m' S' H' → E (.ref (c.cls q)) none H'
  | .bad => False
def PoA (Q : List V → Hp → Prop) : R (List D) → Prop
  | .ok d S' => ∀ m' H' v, Nxt c m S H m' S' H' → RelDs c m' S'.n H' d v → Q v H'
  | .exc q S' => ∀ m' H', Nxt c m S H m' S' H' → E (.ref (c.cls q)) none H'
  | .bad => False
def PoT (Q : Bool → Hp → Prop) : R Bool → Prop
  | .ok b S' => ∀ m' H', Nxt c m S H m' S' H' → Q b H'
  | .exc q S' => ∀ m' H', Nxt c m S H m' S' H' → E (.ref (c.cls q)) none H'
  | .bad => False
def PoS (Z : Ends) : RS → Prop
  | .nx g S' => ∀ m' H' σ', Nxt c m S H m' S' H' → RelG c m' S'.n H' g σ' → Z.nx σ' H'
  | .rt d S' => ∀ m' H' v, Nxt c m S H m' S' H' → RelD c m' S'.n H' d v → Z.rt v H'
  | .bk g S' => ∀ m' H' σ', Nxt c m S H m' S' H' → RelG c m' S'.n H' g σ' → Z.bk σ' H'
  | .ct g S' => ∀ m' H' σ', Nxt c m S H m' S' H' → RelG c m' S'.n H' g σ' → Z.ct σ' H'
  | .ex q S' => ∀ m' H', Nxt c m S H m' S' H' → E (.ref (c.cls q)) none H'
  | .bad => False
end
section
variable {c : Ct} {E : XK} {m m1 : Nat → Addr} {S S1 : Sr} {H H1 : Hp}
theorem PoE.go (s : Sim c m S H) (a : Nxt c m S H m1 S1 H1) {Q : VK} {r : R D} (h : PoE c E m S H Q r) : PoE c E m1 S1 H1 Q r := by
  cases r with
  | ok d S' => exact fun m' H' v b r => h m' H' v (a.trans s b) r
  | exc q S' => exact fun m' H' b => h m' H' (a.trans s b)
  | bad => exact h
theorem PoA.go (s : Sim c m S H) (a : Nxt c m S H m1 S1 H1) {Q : List V → Hp → Prop} {r : R (List D)} (h : PoA c E m S H Q r) : PoA c E m1 S1 H1 Q r := by
  cases r with
  | ok d S' => exact fun m' H' v b r => h m' H' v (a.trans s b) r
  | exc q S' => exact fun m' H' b => h m' H' (a.trans s b)
  | bad => exact h
theorem PoT.go (s : Sim c m S H) (a : Nxt c m S H m1 S1 H1) {Q : Bool → Hp → Prop} {r : R Bool} (h : PoT c E m S H Q r) : PoT c E m1 S1 H1 Q r := by
  cases r with
  | ok d S' => exact fun m' H' b => h m' H' (a.trans s b)
  | exc q S' => exact fun m' H' b => h m' H' (a.trans s b)
  | bad => exact h
theorem PoS.go (s : Sim c m S H) (a : Nxt c m S H m1 S1 H1) {Z : Ends} {r : RS} (h : PoS c E m S H Z r) : PoS c E m1 S1 H1 Z r := by
  cases r with
  | nx g S' => exact fun m' H' v b r => h m' H' v (a.trans s b) r
  | rt d S' => exact fun m' H' v b r => h m' H' v (a.trans s b) r
  | bk g S' => exact fun m' H' v b r => h m' H' v (a.trans s b) r
  | ct g S' => exact fun m' H' v b r => h m' H' v (a.trans s b) r
  | ex q S' => exact fun m' H' b => h m' H' (a.trans s b)
  | bad => exact h
end
/-! ### readings of the mirror -/
section
variable (c : Ct) (E : XK)
def rdE (x : ME) : TE := fun σ H Q => ∃ m S g, Sim c m S H ∧ RelG c m S.n H g σ ∧ PoE c E m S H Q (x g S)
def rdA (x : MA) : TA := fun σ H Q => ∃ m S g, Sim c m S H ∧ RelG c m S.n H g σ ∧ PoA c E m S H Q (x g S)
def rdT (x : MT) : TT := fun σ H Q => ∃ m S g, Sim c m S H ∧ RelG c m S.n H g σ ∧ PoT c E m S H Q (x g S)
def rdS (x : MS) : TS := fun Z σ H => ∃ m S g, Sim c m S H ∧ RelG c m S.n H g σ ∧ PoS c E m S H Z (x g S)
end
/-! ### one after another -/
def mE (x : ME) (k : D → ME) : ME := fun g => SM.bind (x g) fun d => k d g
section
variable {c : Ct} {E : XK} {m : Nat → Addr} {S : Sr} {H : Hp} {g : Gm} {σ : L2.St}
theorem PoE.bind {α : Type} {Q : VK} {r : R α} {k : α → SM D} {d : α} {S1 : Sr} (e : r = .ok d S1) (h : PoE c E m S H Q (match r with | .ok a S' => k a S' | .exc q S' => .exc q S' | .bad => .bad)) : PoE c E m S H Q (k d S1) := by
  subst e
  exact h
/-- an expression, then what its value makes -/
theorem seqE {x : ME} {k : D → SM D} {Q QQ : VK} (s : Sim c m S H) (rg : RelG c m S.n H g σ) (h : PoE c E m S H Q (SM.bind (x g) k S))
    (hk : ∀ m1 S1 H1 d v, Nxt c m S H m1 S1 H1 → RelD c m1 S1.n H1 d v → PoE c E m1 S1 H1 Q (k d S1) → QQ v H1) : rdE c E x σ H QQ := by
  refine ⟨m, S, g, s, rg, ?_⟩
  unfold SM.bind at h
  cases e : x g S with
  | ok d S1 =>
    rw [e] at h
    exact fun m1 H1 v a r => hk m1 S1 H1 d v a r (PoE.go s a h)
  | exc q S1 =>
    rw [e] at h
    exact h
  | bad =>
    rw [e] at h
    exact h
theorem seqEA {x : MA} {k : List D → SM D} {Q : VK} {QQ : List V → Hp → Prop} (s : Sim c m S H) (rg : RelG c m S.n H g σ) (h : PoE c E m S H Q (SM.bind (x g) k S))
    (hk : ∀ m1 S1 H1 d v, Nxt c m S H m1 S1 H1 → RelDs c m1 S1.n H1 d v → PoE c E m1 S1 H1 Q (k d S1) → QQ v H1) : rdA c E x σ H QQ := by
  refine ⟨m, S, g, s, rg, ?_⟩
  unfold SM.bind at h
  cases e : x g S with
  | ok d S1 =>
    rw [e] at h
    exact fun m1 H1 v a r => hk m1 S1 H1 d v a r (PoE.go s a h)
  | exc q S1 =>
    rw [e] at h
    exact h
  | bad =>
    rw [e] at h
    exact h
theorem seqET {x : MT} {k : Bool → SM D} {Q : VK} {QQ : Bool → Hp → Prop} (s : Sim c m S H) (rg : RelG c m S.n H g σ) (h : PoE c E m S H Q (SM.bind (x g) k S))
    (hk : ∀ m1 S1 H1 b, Nxt c m S H m1 S1 H1 → PoE c E m1 S1 H1 Q (k b S1) → QQ b H1) : rdT c E x σ H QQ := by
  refine ⟨m, S, g, s, rg, ?_⟩
  unfold SM.bind at h
  cases e : x g S with
  | ok d S1 =>
    rw [e] at h
    exact fun m1 H1 a => hk m1 S1 H1 d a (PoE.go s a h)
  | exc q S1 =>
    rw [e] at h
    exact h
  | bad =>
    rw [e] at h
    exact h
theorem seqAE {x : ME} {k : D → SM (List D)} {Q : List V → Hp → Prop} {QQ : VK} (s : Sim c m S H) (rg : RelG c m S.n H g σ) (h : PoA c E m S H Q (SM.bind (x g) k S))
    (hk : ∀ m1 S1 H1 d v, Nxt c m S H m1 S1 H1 → RelD c m1 S1.n H1 d v → PoA c E m1 S1 H1 Q (k d S1) → QQ v H1) : rdE c E x σ H QQ := by
  refine ⟨m, S, g, s, rg, ?_⟩
  unfold SM.bind at h
  cases e : x g S with
  | ok d S1 =>
    rw [e] at h
    exact fun m1 H1 v a r => hk m1 S1 H1 d v a r (PoA.go s a h)
  | exc q S1 =>
    rw [e] at h
    exact h
  | bad =>
    rw [e] at h
    exact h
theorem seqAA {x : MA} {k : List D → SM (List D)} {Q : List V → Hp → Prop} {QQ : List V → Hp → Prop} (s : Sim c m S H) (rg : RelG c m S.n H g σ) (h : PoA c E m S H Q (SM.bind (x g) k S))
    (hk : ∀ m1 S1 H1 d v, Nxt c m S H m1 S1 H1 → RelDs c m1 S1.n H1 d v → PoA c E m1 S1 H1 Q (k d S1) → QQ v H1) : rdA c E x σ H QQ := by
  refine ⟨m, S, g, s, rg, ?_⟩
  unfold SM.bind at h
  cases e : x g S with
  | ok d S1 =>
    rw [e] at h
    exact fun m1 H1 v a r => hk m1 S1 H1 d v a r (PoA.go s a h)
  | exc q S1 =>
    rw [e] at h
    exact h
  | bad =>
    rw [e] at h
    exact h
theorem seqTE {x : ME} {k : D → SM Bool} {Q : Bool → Hp → Prop} {QQ : VK} (s : Sim c m S H) (rg : RelG c m S.n H g σ) (h : PoT c E m S H Q (SM.bind (x g) k S))
    (hk : ∀ m1 S1 H1 d v, Nxt c m S H m1 S1 H1 → RelD c m1 S1.n H1 d v → PoT c E m1 S1 H1 Q (k d S1) → QQ v H1) : rdE c E x σ H QQ := by
  refine ⟨m, S, g, s, rg, ?_⟩
  unfold SM.bind at h
  cases e : x g S with
  | ok d S1 =>
    rw [e] at h
    exact fun m1 H1 v a r => hk m1 S1 H1 d v a r (PoT.go s a h)
  | exc q S1 =>
    rw [e] at h
    exact h
  | bad =>
    rw [e] at h
    exact h
theorem seqTT {x : MT} {k : Bool → SM Bool} {Q : Bool → Hp → Prop} {QQ : Bool → Hp → Prop} (s : Sim c m S H) (rg : RelG c m S.n H g σ) (h : PoT c E m S H Q (SM.bind (x g) k S))
    (hk : ∀ m1 S1 H1 d, Nxt c m S H m1 S1 H1 → PoT c E m1 S1 H1 Q (k d S1) → QQ d H1) : rdT c E x σ H QQ := by
  refine ⟨m, S, g, s, rg, ?_⟩
  unfold SM.bind at h
  cases e : x g S with
  | ok d S1 =>
    rw [e] at h
    exact fun m1 H1 a => hk m1 S1 H1 d a (PoT.go s a h)
  | exc q S1 =>
    rw [e] at h
    exact h
  | bad =>
    rw [e] at h
    exact h
/-- .. within a statement -/
def toRS (r : R D) (k : D → Sr → RS) : RS := match r with
  | .ok d S => k d S
  | .exc q S => .ex q S
  | .bad => .bad
def toRSA (r : R (List D)) (k : List D → Sr → RS) : RS := match r with
  | .ok d S => k d S
  | .exc q S => .ex q S
  | .bad => .bad
def toRST (r : R Bool) (k : Bool → Sr → RS) : RS := match r with
  | .ok d S => k d S
  | .exc q S => .ex q S
  | .bad => .bad
theorem seqSE {x : ME} {k : D → Sr → RS} {Z : Ends} {QQ : VK} (s : Sim c m S H) (rg : RelG c m S.n H g σ) (h : PoS c E m S H Z (toRS (x g S) k))
    (hk : ∀ m1 S1 H1 d v, Nxt c m S H m1 S1 H1 → RelD c m1 S1.n H1 d v → PoS c E m1 S1 H1 Z (k d S1) → QQ v H1) : rdE c E x σ H QQ := by
  refine ⟨m, S, g, s, rg, ?_⟩
  cases e : x g S with
  | ok d S1 =>
    rw [e] at h
    exact fun m1 H1 v a r => hk m1 S1 H1 d v a r (PoS.go s a h)
  | exc q S1 =>
    rw [e] at h
    exact h
  | bad =>
    rw [e] at h
    exact h
theorem seqSA {x : MA} {k : List D → Sr → RS} {Z : Ends} {QQ : List V → Hp → Prop} (s : Sim c m S H) (rg : RelG c m S.n H g σ) (h : PoS c E m S H Z (toRSA (x g S) k))
    (hk : ∀ m1 S1 H1 d v, Nxt c m S H m1 S1 H1 → RelDs c m1 S1.n H1 d v → PoS c E m1 S1 H1 Z (k d S1) → QQ v H1) : rdA c E x σ H QQ := by
  refine ⟨m, S, g, s, rg, ?_⟩
  cases e : x g S with
  | ok d S1 =>
    rw [e] at h
    exact fun m1 H1 v a r => hk m1 S1 H1 d v a r (PoS.go s a h)
  | exc q S1 =>
    rw [e] at h
    exact h
  | bad =>
    rw [e] at h
    exact h
theorem seqST {x : MT} {k : Bool → Sr → RS} {Z : Ends} {QQ : Bool → Hp → Prop} (s : Sim c m S H) (rg : RelG c m S.n H g σ) (h : PoS c E m S H Z (toRST (x g S) k))
    (hk : ∀ m1 S1 H1 d, Nxt c m S H m1 S1 H1 → PoS c E m1 S1 H1 Z (k d S1) → QQ d H1) : rdT c E x σ H QQ := by
  refine ⟨m, S, g, s, rg, ?_⟩
  cases e : x g S with
  | ok d S1 =>
    rw [e] at h
    exact fun m1 H1 a => hk m1 S1 H1 d a (PoS.go s a h)
  | exc q S1 =>
    rw [e] at h
    exact h
  | bad =>
    rw [e] at h
    exact h
end
/-! ### a judgement's reading may be told otherwise -/
theorem PE.imp {X : Cx} {e : Expr} {t t' : TE} (h : PE X e t) (i : ∀ σ H Q, t' σ H Q → t σ H Q) : PE X e t' := ⟨fun pins s σ H Q I q => h.run pins s σ H Q I (i σ H Q q)⟩
theorem PT.imp {X : Cx} {e : Expr} {t t' : TT} (h : PT X e t) (i : ∀ σ H Q, t' σ H Q → t σ H Q) : PT X e t' := ⟨fun pins s σ H Q I q => h.run pins s σ H Q I (i σ H Q q)⟩
theorem PW.imp {X : Cx} {e : Expr} {t t' : TT} (h : PW X e t) (i : ∀ σ H Q, t' σ H Q → t σ H Q) : PW X e t' := ⟨fun wh pins s σ H Q I q => h.run wh pins s σ H Q I (i σ H Q q)⟩
theorem PA.imp {X : Cx} {e : List Expr} {t t' : TA} (h : PA X e t) (i : ∀ σ H Q, t' σ H Q → t σ H Q) : PA X e t' := ⟨fun pos pins s σ H Q I q => h.run pos pins s σ H Q I (i σ H Q q)⟩
theorem PS.imp {X : Cx} {e : Stmt} {t t' : TS} (h : PS X e t) (i : ∀ Z σ H, t' Z σ H → t Z σ H) : PS X e t' := ⟨fun pins s σ H Z I q => h.run pins s σ H Z I (i Z σ H q)⟩
theorem PSs.imp {X : Cx} {e : List Stmt} {t t' : TS} (h : PSs X e t) (i : ∀ Z σ H, t' Z σ H → t Z σ H) : PSs X e t' := ⟨fun pins s σ H Z I q => h.run pins s σ H Z I (i Z σ H q)⟩
end Y

set_option Elab.async false
set_option linter.all false
set_option maxRecDepth 100000
set_option maxHeartbeats 1000000
/-! Y3: rules of the mirror for expressions. -/
namespace Y
open PySem PySem.Spec PyProof.Rows L2
section
variable {c : Ct} {m : Nat → Addr} {n : Nat} {H : Hp} {v : V} {vs : List V}
theorem rd_non (h : RelD c m n H .non v) : v = .non := by unfold RelD at h; exact h
theorem rd_bl {b : Bool} (h : RelD c m n H (.bl b) v) : v = .bl b := by unfold RelD at h; exact h
theorem rd_int {i : Int} (h : RelD c m n H (.int i) v) : v = .int i := by unfold RelD at h; exact h
theorem rd_str {s : Str} (h : RelD c m n H (.str s) v) : v = .str s := by unfold RelD at h; exact h
theorem rd_adr {i : Nat} (h : RelD c m n H (.adr i) v) : v = .ref (m i) ∧ i < n := by unfold RelD at h; exact h
theorem rd_tup {l : List D} (h : RelD c m n H (.tup l) v) : ∃ a vs, v = .ref a ∧ H a = some (.tup vs) ∧ RelDs c m n H l vs := by unfold RelD at h; exact h
theorem rd_ktp {l : List D} (h : RelD c m n H (.ktp l) v) : ∃ a vs, v = .ref a ∧ KT c.K a vs ∧ RelDs c m n H l vs := by unfold RelD at h; exact h
theorem rd_fro {l : List D} (h : RelD c m n H (.fro l) v) : ∃ a vs, v = .ref a ∧ SqF c.K H a vs ∧ RelDs c m n H l vs := by unfold RelD at h; exact h
theorem rd_gtp {l : List D} (h : RelD c m n H (.gtp l) v) : ∃ a vs, v = .ref a ∧ GT H a vs ∧ RelDs c m n H l vs := by unfold RelD at h; exact h
theorem rd_nil (h : RelDs c m n H [] vs) : vs = [] := by unfold RelDs at h; exact h
theorem rd_cons {d : D} {l : List D} (h : RelDs c m n H (d :: l) vs) : ∃ v r, vs = v :: r ∧ RelD c m n H d v ∧ RelDs c m n H l r := by unfold RelDs at h; exact h
theorem mk_non : RelD c m n H .non .non := by unfold RelD; rfl
theorem mk_bl {b : Bool} : RelD c m n H (.bl b) (.bl b) := by unfold RelD; rfl
theorem mk_int {i : Int} : RelD c m n H (.int i) (.int i) := by unfold RelD; rfl
theorem mk_str {s : Str} : RelD c m n H (.str s) (.str s) := by unfold RelD; rfl
theorem mk_adr {i : Nat} (h : i < n) : RelD c m n H (.adr i) (.ref (m i)) := by unfold RelD; exact ⟨rfl, h⟩
theorem mk_tup {l : List D} {a : Addr} (h : H a = some (.tup vs)) (r : RelDs c m n H l vs) : RelD c m n H (.tup l) (.ref a) := by unfold RelD; exact ⟨a, vs, rfl, h, r⟩
theorem mk_ktp {l : List D} {a : Addr} (h : KT c.K a vs) (r : RelDs c m n H l vs) : RelD c m n H (.ktp l) (.ref a) := by unfold RelD; exact ⟨a, vs, rfl, h, r⟩
theorem mk_gtp {l : List D} {a : Addr} (h : GT H a vs) (r : RelDs c m n H l vs) : RelD c m n H (.gtp l) (.ref a) := by unfold RelD; exact ⟨a, vs, rfl, h, r⟩
theorem mk_nil : RelDs c m n H [] [] := by unfold RelDs; rfl
theorem mk_cons {d : D} {l : List D} (h : RelD c m n H d v) (r : RelDs c m n H l vs) : RelDs c m n H (d :: l) (v :: vs) := by unfold RelDs; exact ⟨v, vs, rfl, h, r⟩
theorem RelDs.length : ∀ {l : List D} {vs : List V}, RelDs c m n H l vs → l.length = vs.length
  | [], _, h => by rw [rd_nil h] <;> rfl
  | d :: l, _, h => by
    obtain ⟨v, r, e, _, h2⟩ := rd_cons h
    rw [e, List.length_cons, List.length_cons, RelDs.length h2]
theorem RelDs.get : ∀ {l : List D} {vs : List V} {i : Nat} {d : D}, RelDs c m n H l vs → l[i]? = some d → ∃ v, vs[i]? = some v ∧ RelD c m n H d v
  | [], _, _, _, _, e => by simp at e
  | x :: l, _, 0, d, h, e => by
    obtain ⟨v, r, e1, h1, h2⟩ := rd_cons h
    have e2 : x = d := by simpa using e
    subst e2
    exact ⟨v, by rw [e1]; rfl, h1⟩
  | x :: l, _, i + 1, d, h, e => by
    obtain ⟨v, r, e1, h1, h2⟩ := rd_cons h
    obtain ⟨w, e2, h3⟩ := RelDs.get (i := i) (d := d) h2 (by simpa using e)
    exact ⟨w, by rw [e1]; simpa using e2, h3⟩
theorem RelDs.getV : ∀ {l : List D} {vs : List V} {i : Nat} {v : V}, RelDs c m n H l vs → vs[i]? = some v → ∃ d, l[i]? = some d ∧ RelD c m n H d v
  | [], _, _, _, h, e => by rw [rd_nil h] at e; simp at e
  | x :: l, _, 0, v, h, e => by
    obtain ⟨w, r, e1, h1, h2⟩ := rd_cons h
    rw [e1] at e
    have e2 : w = v := by simpa using e
    subst e2
    exact ⟨x, rfl, h1⟩
  | x :: l, _, i + 1, v, h, e => by
    obtain ⟨w, r, e1, h1, h2⟩ := rd_cons h
    rw [e1] at e
    obtain ⟨d, e2, h3⟩ := RelDs.getV (i := i) (v := v) h2 (by simpa using e)
    exact ⟨d, by simpa using e2, h3⟩
theorem RelDs.append : ∀ {l k : List D} {vs ws : List V}, RelDs c m n H l vs → RelDs c m n H k ws → RelDs c m n H (l ++ k) (vs ++ ws)
  | [], _, _, _, h, q => by rw [rd_nil h]; exact q
  | x :: l, _, _, _, h, q => by
    obtain ⟨v, r, e1, h1, h2⟩ := rd_cons h
    rw [e1]
    exact mk_cons h1 (RelDs.append h2 q)
theorem RelDs.set : ∀ {l : List D} {vs : List V} {d : D} {v : V} (i : Nat), RelDs c m n H l vs → RelD c m n H d v → RelDs c m n H (l.set i d) (vs.set i v)
  | [], _, _, _, _, h, _ => by rw [rd_nil h]; exact mk_nil
  | x :: l, _, _, _, 0, h, q => by
    obtain ⟨v, r, e1, h1, h2⟩ := rd_cons h
    rw [e1]
    exact mk_cons q h2
  | x :: l, _, _, _, i + 1, h, q => by
    obtain ⟨v, r, e1, h1, h2⟩ := rd_cons h
    rw [e1]
    exact mk_cons h1 (RelDs.set i h2 q)
theorem RelDs.drop : ∀ {l : List D} {vs : List V} (i : Nat), RelDs c m n H l vs → RelDs c m n H (l.drop i) (vs.drop i)
  | _, _, 0, h => h
  | [], _, _ + 1, h => by rw [rd_nil h]; exact mk_nil
  | x :: l, _, i + 1, h => by
    obtain ⟨v, r, e1, h1, h2⟩ := rd_cons h
    rw [e1]
    exact RelDs.drop i h2
theorem RelDs.take : ∀ {l : List D} {vs : List V} (i : Nat), RelDs c m n H l vs → RelDs c m n H (l.take i) (vs.take i)
  | _, _, 0, _ => mk_nil
  | [], _, _ + 1, h => by rw [rd_nil h]; exact mk_nil
  | x :: l, _, i + 1, h => by
    obtain ⟨v, r, e1, h1, h2⟩ := rd_cons h
    rw [e1]
    exact mk_cons h1 (RelDs.take i h2)
theorem RelDs.eraseIdx : ∀ {l : List D} {vs : List V} (i : Nat), RelDs c m n H l vs → RelDs c m n H (l.eraseIdx i) (vs.eraseIdx i)
  | [], _, _, h => by rw [rd_nil h]; exact mk_nil
  | x :: l, _, 0, h => by
    obtain ⟨v, r, e1, h1, h2⟩ := rd_cons h
    rw [e1]
    exact h2
  | x :: l, _, i + 1, h => by
    obtain ⟨v, r, e1, h1, h2⟩ := rd_cons h
    rw [e1]
    exact mk_cons h1 (RelDs.eraseIdx i h2)
theorem RelDs.rep (k : Nat) {l : List D} {vs : List V} (h : RelDs c m n H l vs) : RelDs c m n H (List.replicate k l).flatten (List.replicate k vs).flatten := by
  induction k with
  | zero => exact mk_nil
  | succ k ih =>
    rw [List.replicate_succ, List.flatten_cons, List.replicate_succ, List.flatten_cons]
    exact h.append ih
theorem RelDs.reverse : ∀ {l : List D} {vs : List V}, RelDs c m n H l vs → RelDs c m n H l.reverse vs.reverse
  | [], _, h => by rw [rd_nil h]; exact mk_nil
  | x :: l, _, h => by
    obtain ⟨v, r, e1, h1, h2⟩ := rd_cons h
    rw [e1, List.reverse_cons, List.reverse_cons]
    exact (RelDs.reverse h2).append (mk_cons h1 mk_nil)
end
section
variable {c : Ct} {m : Nat → Addr} {S : Sr} {H : Hp}
theorem Sim.lst (s : Sim c m S H) {i : Nat} {l : List D} (e : S.f i = some (.lst l)) : ∃ vs, H (m i) = some (.lst vs) ∧ RelDs c m S.n H l vs := by
  obtain ⟨o, h1, vs, e1, h2⟩ := s.at_ i _ e
  subst e1
  exact ⟨vs, h1, h2⟩
theorem Sim.dic (s : Sim c m S H) {i : Nat} {l : List (Key × D)} (e : S.f i = some (.dic l)) : ∃ vs, H (m i) = some (.dK vs) ∧ RelK c m S.n H l vs := by
  obtain ⟨o, h1, vs, e1, h2⟩ := s.at_ i _ e
  subst e1
  exact ⟨vs, h1, h2⟩
theorem Sim.dit (s : Sim c m S H) {i : Nat} {l : List (List Key × D)} (e : S.f i = some (.dit l)) : ∃ vs, H (m i) = some (.dT vs) ∧ RelK c m S.n H l vs := by
  obtain ⟨o, h1, vs, e1, h2⟩ := s.at_ i _ e
  subst e1
  exact ⟨vs, h1, h2⟩
theorem Sim.ins (s : Sim c m S H) {i : Nat} {q : Str} {l : List (Str × D)} (e : S.f i = some (.ins q l)) : ∃ dx vs, H (m i) = some (.ins (c.cls q) dx vs) ∧ RelK c m S.n H l vs := by
  obtain ⟨o, h1, dx, vs, e1, h2⟩ := s.at_ i _ e
  subst e1
  exact ⟨dx, vs, h1, h2⟩
end
/-! ### names, constants -/
def mVar (i : Nat) : ME := fun g S => match g[i]? with
  | some (some d) => .ok d S
  | _ => .bad
def mC (d : D) : ME := fun _ S => .ok d S
section
variable {X : Cx} {c : Ct} {E : XK}
theorem qe_var {i : Nat} {e : Expr} (h : PE X e (tVar i)) : PE X e (rdE c E (mVar i)) := PE.imp h fun σ H Q ⟨m, S, g, s, rg, q⟩ => by
  unfold mVar at q
  cases e : g[i]? with
  | none => rw [e] at q; exact q.elim
  | some o =>
    rw [e] at q
    cases o with
    | none => exact q.elim
    | some d =>
      obtain ⟨v, e1, r⟩ := rg.2 i d e
      exact ⟨v, e1, q m H v (Nxt.refl s) r⟩
theorem qe_k {e : Expr} {v : V} {d : D} (h : PE X e (tC v)) (r : ∀ m n H, RelD c m n H d v) : PE X e (rdE c E (mC d)) := PE.imp h fun σ H Q ⟨m, S, g, s, rg, q⟩ => q m H v (Nxt.refl s) (r _ _ _)
theorem qe_int {i : Int} {j pos} : PE X (.Constant (.int i) j pos) (rdE c E (mC (.int i))) := qe_k pe_int fun _ _ _ => mk_int
theorem qe_bl {b : Bool} {j pos} : PE X (.Constant (.bool b) j pos) (rdE c E (mC (.bl b))) := qe_k pe_bl fun _ _ _ => mk_bl
theorem qe_non {j pos} : PE X (.Constant .none j pos) (rdE c E (mC .non)) := qe_k pe_non fun _ _ _ => mk_non
theorem qe_str {x : Str} {j pos} : PE X (.Constant (.str x) j pos) (rdE c E (mC (.str x))) := qe_k pe_str fun _ _ _ => mk_str
end
/-! ### operators -/
def mB (f : D → D → SM D) (a b : ME) : ME := fun g => SM.bind (a g) fun x => SM.bind (b g) fun y => f x y
def mU (f : D → SM D) (a : ME) : ME := fun g => SM.bind (a g) f
/-- a two-place operation, a one-place one, a call by values: sound -/
def Snd2 (c : Ct) (r : R2) (f : D → D → SM D) : Prop := ∀ (E : XK) (m : Nat → Addr) (S : Sr) (H : Hp) (Q : VK) (x y : D) (v w : V), Sim c m S H → RelD c m S.n H x v → RelD c m S.n H y w → PoE c E m S H Q (f x y S) → r v w H Q
def Snd1 (c : Ct) (r : V → Hp → VK → Prop) (f : D → SM D) : Prop := ∀ (E : XK) (m : Nat → Addr) (S : Sr) (H : Hp) (Q : VK) (x : D) (v : V), Sim c m S H → RelD c m S.n H x v → PoE c E m S H Q (f x S) → r v H Q
def SndA (c : Ct) (r : List V → Hp → VK → Prop) (f : List D → SM D) : Prop := ∀ (E : XK) (m : Nat → Addr) (S : Sr) (H : Hp) (Q : VK) (x : List D) (v : List V), Sim c m S H → RelDs c m S.n H x v → PoE c E m S H Q (f x S) → r v H Q
section
variable {X : Cx} {c : Ct} {E : XK}
theorem tOp_of {r : R2} {f : D → D → SM D} {ma mb : ME} (hs : Snd2 c r f) (σ : L2.St) (H : Hp) (Q : VK) (h : rdE c E (mB f ma mb) σ H Q) : tOp r (rdE c E ma) (rdE c E mb) σ H Q := by
  obtain ⟨m, S, g, s, rg, q⟩ := h
  refine seqE s rg q fun m1 S1 H1 x v a rx q1 => ?_
  refine seqE a.sim (a.relG rg) q1 fun m2 S2 H2 y w b ry q2 => ?_
  exact hs E m2 S2 H2 Q x y v w b.sim (b.relD rx) ry q2
theorem qe_bin {op : Operator} {r : R2} {f : D → D → SM D} {a b : Expr} {ma mb : ME} {pos : Pos} (ho : OpR X (binaryOp op) r) (hs : Snd2 c r f) (ha : PE X a (rdE c E ma)) (hb : PE X b (rdE c E mb)) : PE X (.BinOp a op b pos) (rdE c E (mB f ma mb)) :=
  PE.imp (pe_op ho ha hb) (tOp_of hs)
theorem qe_un {op : UnaryOp} {r : V → Hp → VK → Prop} {f : D → SM D} {a : Expr} {ma : ME} {pos : Pos} (ho : UnR X (unaryOp op) r) (hs : Snd1 c r f) (ha : PE X a (rdE c E ma)) : PE X (.UnaryOp op a pos) (rdE c E (mU f ma)) :=
  PE.imp (pe_un ho ha) fun σ H Q ⟨m, S, g, s, rg, q⟩ => seqE s rg q fun m1 S1 H1 x v a rx q1 => hs E m1 S1 H1 Q x v a.sim rx q1
theorem qe_cmp {op : CmpOp} {r : R2} {f : D → D → SM D} {a b : Expr} {ma mb : ME} {pos : Pos} (ho : OpR X (compareOp op) r) (hs : Snd2 c r f) (ha : PE X a (rdE c E ma)) (hb : PE X b (rdE c E mb)) (hm : behindInMarks op b = false) : PE X (.Compare a [op] [b] pos) (rdE c E (mB f ma mb)) :=
  PE.imp (pe_cmpR ho ha hb hm) (tOp_of hs)
theorem qe_ix {r : R2} {f : D → D → SM D} {a b : Expr} {ma mb : ME} {pos : Pos} (hr : IxR X r) (hs : Snd2 c r f) (ha : PE X a (rdE c E ma)) (hb : PE X b (rdE c E mb)) (hp : PlainIx b) : PE X (.Subscript a b pos) (rdE c E (mB f ma mb)) :=
  PE.imp (pe_ix hr ha hb hp) (tOp_of hs)
/-- a value as a test -/
def mTB (a : ME) : MT := fun g => SM.bind (a g) fun d S => match d with
  | .bl b => .ok b S
  | _ => .bad
theorem tTest_of {ma : ME} (σ : L2.St) (H : Hp) (Q : Bool → Hp → Prop) (h : rdT c E (mTB ma) σ H Q) : rdE c E ma σ H fun x H' => ∃ k, x = .bl k ∧ Q k H' := by
  obtain ⟨m, S, g, s, rg, q⟩ := h
  refine seqTE s rg q fun m1 S1 H1 d v a r q1 => ?_
  cases d <;> first | exact (show False from q1).elim | skip
  exact ⟨_, rd_bl r, q1 m1 H1 (Nxt.refl a.sim)⟩
theorem qt_cmp {op : CmpOp} {r : R2} {f : D → D → SM D} {a b : Expr} {ma mb : ME} {pos : Pos} (ho : OpR X (compareOp op) r) (hs : Snd2 c r f) (ha : PE X a (rdE c E ma)) (hb : PE X b (rdE c E mb)) (hm : behindInMarks op b = false) : PT X (.Compare a [op] [b] pos) (rdT c E (mTB (mB f ma mb))) :=
  PT.imp (pt_cmpR ho ha hb hm) fun σ H Q h => by
    obtain ⟨m, S, g, s, rg, q⟩ := tTest_of σ H Q h
    exact tOp_of hs σ H _ ⟨m, S, g, s, rg, q⟩
theorem qt_val {e : Expr} {ma : ME} (h : PE X e (rdE c E ma)) (he : ∀ whole, isTrue e X.env whole = (do let v ← whole; standAt e.pos; holding [v] (truthy v)) := by intro _; rfl) : PT X e (rdT c E (mTB ma)) :=
  PT.imp (pt_val h he) fun σ H Q q => tTest_of σ H Q q
/-! ### and, or, not, if -/
def mAnd (a b : MT) : MT := fun g => SM.bind (a g) fun k => if k = true then b g else SM.pure false
def mOr (a b : MT) : MT := fun g => SM.bind (a g) fun k => if k = true then SM.pure true else b g
def mNot (a : MT) : MT := fun g => SM.bind (a g) fun k => SM.pure (!k)
def mIf (t : MT) (a b : ME) : ME := fun g => SM.bind (t g) fun k => if k = true then a g else b g
/-- .. as a value -/
def mV (t : MT) : ME := fun g => SM.bind (t g) fun k => SM.pure (.bl k)
theorem qw_and1 {a : Expr} {ma : MT} {pos : Pos} (ha : PT X a (rdT c E ma)) : PW X (.BoolOp .And [a] pos) (rdT c E ma) := pw_and1 ha
theorem qw_or1 {a : Expr} {ma : MT} {pos : Pos} (ha : PT X a (rdT c E ma)) : PW X (.BoolOp .Or [a] pos) (rdT c E ma) := pw_or1 ha
theorem qw_and {a b : Expr} {rest : List Expr} {ma mb : MT} {pos : Pos} (ha : PT X a (rdT c E ma)) (hb : PW X (.BoolOp .And (b :: rest) pos) (rdT c E mb)) : PW X (.BoolOp .And (a :: b :: rest) pos) (rdT c E (mAnd ma mb)) :=
  PW.imp (pw_and ha hb) fun σ H Q ⟨m, S, g, s, rg, q⟩ => seqTT s rg q fun m1 S1 H1 k a q1 => by
    cases k with
    | true => exact ⟨m1, S1, g, a.sim, a.relG rg, q1⟩
    | false => exact q1 m1 H1 (Nxt.refl a.sim)
theorem qw_or {a b : Expr} {rest : List Expr} {ma mb : MT} {pos : Pos} (ha : PT X a (rdT c E ma)) (hb : PW X (.BoolOp .Or (b :: rest) pos) (rdT c E mb)) : PW X (.BoolOp .Or (a :: b :: rest) pos) (rdT c E (mOr ma mb)) :=
  PW.imp (pw_or ha hb) fun σ H Q ⟨m, S, g, s, rg, q⟩ => seqTT s rg q fun m1 S1 H1 k a q1 => by
    cases k with
    | true => exact q1 m1 H1 (Nxt.refl a.sim)
    | false => exact ⟨m1, S1, g, a.sim, a.relG rg, q1⟩
theorem qt_not {a : Expr} {ma : MT} {pos : Pos} (ha : PT X a (rdT c E ma)) : PT X (.UnaryOp .Not a pos) (rdT c E (mNot ma)) :=
  PT.imp (pt_not ha) fun σ H Q ⟨m, S, g, s, rg, q⟩ => seqTT s rg q fun m1 S1 H1 k a q1 => q1 m1 H1 (Nxt.refl a.sim)
theorem qe_if {t a b : Expr} {mt : MT} {ma mb : ME} {pos : Pos} (ht : PT X t (rdT c E mt)) (ha : PE X a (rdE c E ma)) (hb : PE X b (rdE c E mb)) : PE X (.IfExp t a b pos) (rdE c E (mIf mt ma mb)) :=
  PE.imp (pe_ifExp ht ha hb) fun σ H Q ⟨m, S, g, s, rg, q⟩ => seqET s rg q fun m1 S1 H1 k a q1 => by
    cases k with
    | true => exact ⟨m1, S1, g, a.sim, a.relG rg, q1⟩
    | false => exact ⟨m1, S1, g, a.sim, a.relG rg, q1⟩
/-- and, or, not of bools, as values -/
def mAndV (a b : ME) : ME := fun g => SM.bind (a g) fun d S => match d with
  | .bl true => b g S
  | .bl false => .ok (.bl false) S
  | _ => .bad
def mOrV (a b : ME) : ME := fun g => SM.bind (a g) fun d S => match d with
  | .bl true => .ok (.bl true) S
  | .bl false => b g S
  | _ => .bad
def mNotV (a : ME) : ME := fun g => SM.bind (a g) fun d S => match d with
  | .bl k => .ok (.bl (!k)) S
  | _ => .bad
theorem qe_one {op} {a : Expr} {ma : ME} {pos : Pos} (ha : PE X a (rdE c E ma)) : PE X (.BoolOp op [a] pos) (rdE c E ma) := pe_one ha
theorem qe_and {a b : Expr} {rest : List Expr} {ma mb : ME} {pos : Pos} (ha : PE X a (rdE c E ma)) (hb : PE X (.BoolOp .And (b :: rest) pos) (rdE c E mb)) : PE X (.BoolOp .And (a :: b :: rest) pos) (rdE c E (mAndV ma mb)) :=
  PE.imp (pe_and ha hb) fun σ H Q ⟨m, S, g, s, rg, q⟩ => seqE s rg q fun m1 S1 H1 d v a r q1 => by
    cases d <;> first | exact (show False from q1).elim | skip
    rename_i k
    refine ⟨k, rd_bl r, ?_⟩
    cases k with
    | true => exact ⟨m1, S1, g, a.sim, a.relG rg, q1⟩
    | false => exact q1 m1 H1 _ (Nxt.refl a.sim) mk_bl
theorem qe_or {a b : Expr} {rest : List Expr} {ma mb : ME} {pos : Pos} (ha : PE X a (rdE c E ma)) (hb : PE X (.BoolOp .Or (b :: rest) pos) (rdE c E mb)) : PE X (.BoolOp .Or (a :: b :: rest) pos) (rdE c E (mOrV ma mb)) :=
  PE.imp (pe_or ha hb) fun σ H Q ⟨m, S, g, s, rg, q⟩ => seqE s rg q fun m1 S1 H1 d v a r q1 => by
    cases d <;> first | exact (show False from q1).elim | skip
    rename_i k
    refine ⟨k, rd_bl r, ?_⟩
    cases k with
    | true => exact q1 m1 H1 _ (Nxt.refl a.sim) mk_bl
    | false => exact ⟨m1, S1, g, a.sim, a.relG rg, q1⟩
theorem qe_not {a : Expr} {ma : ME} {pos : Pos} (ha : PE X a (rdE c E ma)) : PE X (.UnaryOp .Not a pos) (rdE c E (mNotV ma)) :=
  PE.imp (pe_not ha) fun σ H Q ⟨m, S, g, s, rg, q⟩ => seqE s rg q fun m1 S1 H1 d v a r q1 => by
    cases d <;> first | exact (show False from q1).elim | skip
    exact ⟨_, rd_bl r, q1 m1 H1 _ (Nxt.refl a.sim) mk_bl⟩
/-- a < b < c -/
def mChain (f f' : D → D → SM D) (a b e : ME) : ME := fun g => SM.bind (a g) fun x => SM.bind (b g) fun y => SM.bind (f x y) fun z S => match z with
  | .bl true => SM.bind (e g) (fun w => f' y w) S
  | .bl false => .ok (.bl false) S
  | _ => .bad
def Pure2 (f : D → D → SM D) : Prop := ∀ x y S, (∃ z, f x y S = .ok z S) ∨ f x y S = .bad
theorem tChain_of {r r' : R2} {f f' : D → D → SM D} {ma mb me : ME} (hs : Snd2 c r f) (hs' : Snd2 c r' f') (hp : Pure2 f) (σ : L2.St) (H : Hp) (Q : VK) (h : rdE c E (mChain f f' ma mb me) σ H Q) : tChain r r' (rdE c E ma) (rdE c E mb) (rdE c E me) σ H Q := by
  obtain ⟨m, S, g, s, rg, q⟩ := h
  refine seqE s rg q fun m1 S1 H1 x v a rx q1 => ?_
  refine seqE a.sim (a.relG rg) q1 fun m2 S2 H2 y w b ry q2 => ?_
  have rx2 := b.relD rx
  unfold SM.bind at q2
  rcases hp x y S2 with ⟨z, e⟩ | e
  · rw [e] at q2
    refine hs E m2 S2 H2 _ x y v w b.sim rx2 ry ?_
    rw [e]
    intro m3 H3 u d ru
    cases z <;> first | exact (show False from q2).elim | skip
    rename_i k
    refine ⟨k, rd_bl ru, ?_⟩
    cases k with
    | true =>
      rw [if_pos rfl]
      refine seqE d.sim (d.relG (b.relG (a.relG rg))) (PoE.go b.sim d q2) fun m4 S4 H4 x4 v4 d4 r4 q4 => ?_
      exact hs' E m4 S4 H4 Q y x4 w v4 d4.sim (d4.relD (d.relD ry)) r4 q4
    | false =>
      rw [if_neg Bool.false_ne_true]
      exact q2 m3 H3 _ d mk_bl
  · rw [e] at q2
    exact q2.elim
theorem qe_chain {op op' : CmpOp} {r r' : R2} {f f' : D → D → SM D} {a b e : Expr} {ma mb me : ME} {pos : Pos} (ho : OpR X (compareOp op) r) (hs : Snd2 c r f) (ho' : OpR X (compareOp op') r') (hs' : Snd2 c r' f') (hp : Pure2 f)
    (ha : PE X a (rdE c E ma)) (hb : PE X b (rdE c E mb)) (he : PE X e (rdE c E me)) (hm : lastMarks [op, op'] [b, e] = false := by rfl) : PE X (.Compare a [op, op'] [b, e] pos) (rdE c E (mChain f f' ma mb me)) := PE.imp (pe_chain ho ho' ha hb he hm) (tChain_of hs hs' hp)
theorem qt_chain {op op' : CmpOp} {r r' : R2} {f f' : D → D → SM D} {a b e : Expr} {ma mb me : ME} {pos : Pos} (ho : OpR X (compareOp op) r) (hs : Snd2 c r f) (ho' : OpR X (compareOp op') r') (hs' : Snd2 c r' f') (hp : Pure2 f)
    (ha : PE X a (rdE c E ma)) (hb : PE X b (rdE c E mb)) (he : PE X e (rdE c E me)) (hm : lastMarks [op, op'] [b, e] = false := by rfl) : PT X (.Compare a [op, op'] [b, e] pos) (rdT c E (mTB (mChain f f' ma mb me))) := PT.imp (pt_chain ho ho' ha hb he hm) fun σ H Q h => by
    obtain ⟨m, S, g, s, rg, q⟩ := tTest_of σ H Q h
    exact tChain_of hs hs' hp σ H _ ⟨m, S, g, s, rg, q⟩
/-! ### arguments, displays -/
def mNil : MA := fun _ S => .ok [] S
def mCons (a : ME) (r : MA) : MA := fun g => SM.bind (a g) fun d => SM.bind (r g) fun l => SM.pure (d :: l)
theorem qa_nil : PA X [] (rdA c E mNil) := PA.imp pa_nil fun σ H Q ⟨m, S, g, s, rg, q⟩ => q m H [] (Nxt.refl s) mk_nil
theorem qa_cons {e : Expr} {es : List Expr} {ma : ME} {mr : MA} (h : PE X e (rdE c E ma)) (t : PA X es (rdA c E mr)) (he : starEach (e :: es) X.env = (false, eval e X.env) :: starEach es X.env := by rfl) : PA X (e :: es) (rdA c E (mCons ma mr)) :=
  PA.imp (pa_cons h t he) fun σ H Q ⟨m, S, g, s, rg, q⟩ => seqAE s rg q fun m1 S1 H1 d v a r q1 => seqAA a.sim (a.relG rg) q1 fun m2 S2 H2 l vs b rs q2 => q2 m2 H2 _ (Nxt.refl b.sim) (mk_cons (b.relD r) rs)
def mTup (a : MA) : ME := fun g => SM.bind (a g) fun l S => if l.length ≤ sizeLine then .ok (.tup l) S else .bad
def mLst (a : MA) : ME := fun g => SM.bind (a g) fun l S => if l.length ≤ sizeLine then .ok (.adr S.n) (S.alloc (.lst l)) else .bad
theorem po_if {m : Nat → Addr} {S : Sr} {H : Hp} {Q : VK} {p : Prop} [Decidable p] {r : R D} (h : PoE c E m S H Q (if p then r else .bad)) : p ∧ PoE c E m S H Q r := by
  by_cases hp : p
  · rw [if_pos hp] at h
    exact ⟨hp, h⟩
  · rw [if_neg hp] at h
    exact h.elim
/-- a new tuple, a new list handed on -/
theorem giveT {m : Nat → Addr} {S : Sr} {H : Hp} {Q : VK} {l : List D} {vs : List V} (s : Sim c m S H) (r : RelDs c m S.n H l vs) (q : PoE c E m S H Q (.ok (.tup l) S)) : ∀ p, H p = none → Q (.ref p) (upd H p (.tup vs)) := fun p hp => by
  have a := Nxt.fresh (o := .tup vs) s hp
  exact q m _ _ a (mk_tup upd_same (a.relDs r))
theorem giveO {m : Nat → Addr} {S : Sr} {H : Hp} {Q : VK} {x : MO} {o : HO} (s : Sim c m S H) (r : RelO c m S.n H x o) (q : PoE c E m S H Q (.ok (.adr S.n) (S.alloc x))) : ∀ p, H p = none → Q (.ref p) (upd H p o) := fun p hp => by
  have a := Nxt.alloc s hp r
  have e := mk_adr (c := c) (m := ext m S.n p) (n := S.n + 1) (H := upd H p o) (i := S.n) (Nat.lt_succ_self _)
  rw [ext_same] at e
  exact q _ _ _ a e
theorem qe_tup {es : List Expr} {k : Nat} {ma : MA} {pos : Pos} (h : PA X es (rdA c E ma)) : PE X (.Tuple es k pos) (rdE c E (mTup ma)) :=
  PE.imp (pe_tup h) fun σ H Q ⟨m, S, g, s, rg, q⟩ => seqEA s rg q fun m1 S1 H1 l vs a rs q1 => by
    obtain ⟨hl, q1⟩ := po_if q1
    exact ⟨by rw [← rs.length]; exact hl, giveT a.sim rs q1⟩
theorem qe_lst {es : List Expr} {ma : MA} {pos : Pos} (h : PA X es (rdA c E ma)) : PE X (.List es pos) (rdE c E (mLst ma)) :=
  PE.imp (pe_lst h) fun σ H Q ⟨m, S, g, s, rg, q⟩ => seqEA s rg q fun m1 S1 H1 l vs a rs q1 => by
    obtain ⟨hl, q1⟩ := po_if q1
    exact ⟨by rw [← rs.length]; exact hl, giveO (x := .lst l) a.sim ⟨vs, rfl, rs⟩ q1⟩
end
end Y

set_option Elab.async false
set_option linter.all false
set_option maxRecDepth 100000
set_option maxHeartbeats 1000000
/-! Y4: operations on values. -/
namespace Y
open PySem PySem.Spec PyProof.Rows L2
def okI (f : Int → Int → Int) (C : Int → Int → Bool) : D → D → SM D := fun x y S => match x, y with
  | .int i, .int j => if C i j = true then .ok (.int (f i j)) S else .bad
  | _, _ => .bad
def okB (f : Int → Int → Bool) : D → D → SM D := fun x y S => match x, y with
  | .int i, .int j => .ok (.bl (f i j)) S
  | _, _ => .bad
section
variable {c : Ct} {X : Cx}
theorem snd_okI {f : Int → Int → Int} {C : Int → Int → Bool} {P : Int → Int → Prop} (h : ∀ i j, C i j = true → P i j) : Snd2 c (rI P fun i j => .int (f i j)) (okI f C) := by
  intro E m S H Q x y v w s rx ry q
  cases x <;> first | exact (show False from q).elim | skip
  cases y <;> first | exact (show False from q).elim | skip
  obtain ⟨hc, q⟩ := po_if (c := c) (E := E) q
  exact ⟨_, _, rd_int rx, rd_int ry, h _ _ hc, q m H _ (Nxt.refl s) mk_int⟩
theorem snd_okI0 {f : Int → Int → Int} {C : Int → Int → Bool} : Snd2 c (rI0 fun i j => .int (f i j)) (okI f C) := by
  intro E m S H Q x y v w s rx ry q
  cases x <;> first | exact (show False from q).elim | skip
  cases y <;> first | exact (show False from q).elim | skip
  obtain ⟨hc, q⟩ := po_if (c := c) (E := E) q
  exact ⟨_, _, rd_int rx, rd_int ry, q m H _ (Nxt.refl s) mk_int⟩
theorem snd_okB {f : Int → Int → Bool} : Snd2 c (rI0 fun i j => .bl (f i j)) (okB f) := by
  intro E m S H Q x y v w s rx ry q
  cases x <;> first | exact (show False from q).elim | skip
  cases y <;> first | exact (show False from q).elim | skip
  exact ⟨_, _, rd_int rx, rd_int ry, q m H _ (Nxt.refl s) mk_bl⟩
/-- where the first falls, the second -/
def orF (f f' : D → D → SM D) : D → D → SM D := fun x y S => match f x y S with
  | .bad => f' x y S
  | r => r
theorem snd_or {r r' : R2} {f f' : D → D → SM D} (h : Snd2 c r f) (h' : Snd2 c r' f') : Snd2 c (fun x y H Q => r x y H Q ∨ r' x y H Q) (orF f f') := by
  intro E m S H Q x y v w s rx ry q
  unfold orF at q
  cases e : f x y S with
  | ok d S' =>
    rw [e] at q
    exact .inl (h E m S H Q x y v w s rx ry (by rw [e]; exact q))
  | exc p S' =>
    rw [e] at q
    exact .inl (h E m S H Q x y v w s rx ry (by rw [e]; exact q))
  | bad =>
    rw [e] at q
    exact .inr (h' E m S H Q x y v w s rx ry q)
theorem pure_okB {f : Int → Int → Bool} : Pure2 (okB f) := fun x y S => by
  cases x <;> cases y <;> first | exact .inr rfl | exact .inl ⟨_, rfl⟩
/-! ### + -/
def addS : D → D → SM D := fun x y S => match x, y with
  | .str a, .str b => if a.length + b.length ≤ sizeLine then .ok (.str (a ++ b)) S else .bad
  | _, _ => .bad
def catL : D → D → SM D := fun x y S => match x, y with
  | .adr i, .adr j => (match S.f i, S.f j with
    | some (.lst a), some (.lst b) => if a.length + b.length ≤ sizeLine then .ok (.adr S.n) (S.alloc (.lst (a ++ b))) else .bad
    | _, _ => .bad)
  | _, _ => .bad
def catT : D → D → SM D := fun x y S => match x, y with
  | .tup a, .tup b => if a ≠ [] ∧ a.length + b.length ≤ sizeLine then .ok (.tup (a ++ b)) S else .bad
  | _, _ => .bad
theorem snd_addS : Snd2 c (fun x y H Q => ∃ i j, x = .str i ∧ y = .str j ∧ i.length + j.length ≤ sizeLine ∧ Q (.str (i ++ j)) H) addS := by
  intro E m S H Q x y v w s rx ry q
  cases x <;> first | exact (show False from q).elim | skip
  cases y <;> first | exact (show False from q).elim | skip
  obtain ⟨hc, q⟩ := po_if (c := c) (E := E) q
  exact ⟨_, _, rd_str rx, rd_str ry, hc, q m H _ (Nxt.refl s) mk_str⟩
theorem snd_catL : Snd2 c rCat catL := by
  intro E m S H Q x y v w s rx ry q
  cases x <;> first | exact (show False from q).elim | skip
  cases y <;> first | exact (show False from q).elim | skip
  rename_i i j
  have q : PoE c E m S H Q (match S.f i, S.f j with
    | some (.lst a), some (.lst b) => if a.length + b.length ≤ sizeLine then .ok (.adr S.n) (S.alloc (.lst (a ++ b))) else .bad
    | _, _ => .bad) := q
  obtain ⟨rfl, hi⟩ := rd_adr rx
  obtain ⟨rfl, hj⟩ := rd_adr ry
  split at q
  · rename_i a b ea eb
    obtain ⟨hc, q⟩ := po_if q
    obtain ⟨va, h1, r1⟩ := s.lst ea
    obtain ⟨vb, h2, r2⟩ := s.lst eb
    exact ⟨m i, m j, va, vb, rfl, rfl, h1, h2, by rw [← r1.length, ← r2.length]; exact hc, giveO (x := .lst (a ++ b)) s ⟨va ++ vb, rfl, r1.append r2⟩ q⟩
  · exact q.elim
theorem snd_catT : Snd2 c (rCatT c.K) catT := by
  intro E m S H Q x y v w s rx ry q
  cases x <;> first | exact (show False from q).elim | skip
  cases y <;> first | exact (show False from q).elim | skip
  rename_i a b
  obtain ⟨⟨h0, hl⟩, q⟩ := po_if (c := c) (E := E) q
  obtain ⟨p, va, rfl, h1, r1⟩ := rd_tup rx
  obtain ⟨p', vb, rfl, h2, r2⟩ := rd_tup ry
  refine ⟨p, p', va, vb, rfl, rfl, .inl (.inl h1), .inl (.inl h2), fun z => ?_, by rw [← r1.length, ← r2.length]; exact hl, fun z => ?_, fun _ => giveT s (r1.append r2) q⟩
  · subst z
    exact h0 (List.eq_nil_of_length_eq_zero r1.length)
  · subst z
    have eb : b = [] := List.eq_nil_of_length_eq_zero r2.length
    subst eb
    rw [List.append_nil] at q
    exact q m H _ (Nxt.refl s) rx
def dAdd : D → D → SM D := orF (okI (fun i j => i + j) fun _ _ => true) (orF addS (orF catL catT))
abbrev rAddA (K : PySem.W.Frag) : R2 := fun x y H Q => (rI0 fun i j => .int (i + j)) x y H Q ∨ (fun x y H Q => (fun x y H Q => ∃ i j, x = .str i ∧ y = .str j ∧ i.length + j.length ≤ sizeLine ∧ Q (.str (i ++ j)) H) x y H Q ∨ (fun x y H Q => rCat x y H Q ∨ rCatT K x y H Q) x y H Q) x y H Q
theorem op_addA : OpR X (binaryOp .Add) (rAddA X.K) := OpR.or op_add (OpR.or op_add_str (OpR.or op_cat op_catT))
theorem snd_add : Snd2 c (rAddA c.K) dAdd := snd_or snd_okI0 (snd_or snd_addS (snd_or snd_catL snd_catT))
/-! ### - * // % ** << >> & | ^ -/
def dSub : D → D → SM D := okI (fun i j => i - j) fun _ _ => true
theorem snd_sub : Snd2 c (rI0 fun i j => .int (i - j)) dSub := snd_okI0
def mulB (i j : Int) : Bool := decide (-(2 ^ 64) < i ∧ i < 2 ^ 64) || decide (-(2 ^ 64) < j ∧ j < 2 ^ 64)
def repL : D → D → SM D := fun x y S => match x, y with
  | .adr i, .int k => (match S.f i with
    | some (.lst a) => if -(2 ^ 63) ≤ k ∧ k < 2 ^ 63 ∧ a.length * k.toNat ≤ sizeLine then .ok (.adr S.n) (S.alloc (.lst (List.replicate k.toNat a).flatten)) else .bad
    | _ => .bad)
  | _, _ => .bad
theorem snd_repL : Snd2 c rRep repL := by
  intro E m S H Q x y v w s rx ry q
  cases x <;> first | exact (show False from q).elim | skip
  cases y <;> first | exact (show False from q).elim | skip
  rename_i i k
  have q : PoE c E m S H Q (match S.f i with
    | some (.lst a) => if -(2 ^ 63) ≤ k ∧ k < 2 ^ 63 ∧ a.length * k.toNat ≤ sizeLine then .ok (.adr S.n) (S.alloc (.lst (List.replicate k.toNat a).flatten)) else .bad
    | _ => .bad) := q
  obtain ⟨rfl, hi⟩ := rd_adr rx
  split at q
  · rename_i a ea
    obtain ⟨⟨h1, h2, h3⟩, q⟩ := po_if q
    obtain ⟨va, e1, r1⟩ := s.lst ea
    exact ⟨m i, k, va, rfl, rd_int ry, e1, h1, h2, by rw [← r1.length]; exact h3, giveO (x := .lst (List.replicate k.toNat a).flatten) s ⟨_, rfl, r1.rep k.toNat⟩ q⟩
  · exact q.elim
def dMul : D → D → SM D := orF (okI (fun i j => i * j) mulB) repL
abbrev rMulA : R2 := fun x y H Q => (rI CMul fun i j => .int (i * j)) x y H Q ∨ rRep x y H Q
theorem op_mulA : OpR X (binaryOp .Mult) rMulA := OpR.or op_mul op_rep
theorem snd_mul : Snd2 c rMulA dMul := snd_or (snd_okI fun i j h => by
  unfold mulB at h
  rcases Bool.or_eq_true_iff.mp h with h | h
  · exact .inl (of_decide_eq_true h)
  · exact .inr (of_decide_eq_true h)) snd_repL
def dFdiv : D → D → SM D := okI (fun i j => i / j) fun _ j => decide (0 < j ∧ j < 1073741824)
theorem snd_fdiv : Snd2 c (rI CDiv fun i j => .int (i / j)) dFdiv := snd_okI fun i j h => (show 0 < j ∧ j < 1073741824 from of_decide_eq_true h)
def dMod : D → D → SM D := okI (fun i j => i % j) fun _ j => decide (0 < j)
theorem snd_mod : Snd2 c (rI (fun _ j => 0 < j) fun i j => .int (i % j)) dMod := snd_okI fun i j h => of_decide_eq_true h
def powB (i j : Int) : Bool := decide (0 ≤ j ∧ j ≤ 1000000 ∧ i.natAbs < 2 ^ 64)
def dPow : D → D → SM D := okI (fun i j => i ^ j.toNat) powB
theorem snd_pow : Snd2 c (rI CPow fun i j => .int (i ^ j.toNat)) dPow := snd_okI fun i j h => (show 0 ≤ j ∧ j ≤ 1000000 ∧ i.natAbs < 2 ^ 64 from of_decide_eq_true h)
def dShl : D → D → SM D := okI (fun i j => i * 2 ^ j.toNat) powB
theorem snd_shl : Snd2 c (rI CPow fun i j => .int (i * 2 ^ j.toNat)) dShl := snd_okI fun i j h => (show 0 ≤ j ∧ j ≤ 1000000 ∧ i.natAbs < 2 ^ 64 from of_decide_eq_true h)
def dShr : D → D → SM D := okI (fun i j => i / 2 ^ j.toNat) fun _ j => decide (0 ≤ j)
theorem snd_shr : Snd2 c (rI (fun _ j => 0 ≤ j) fun i j => .int (i / 2 ^ j.toNat)) dShr := snd_okI fun i j h => of_decide_eq_true h
def dAnd : D → D → SM D := okI Builtin.bitAnd fun _ _ => true
def dOr : D → D → SM D := okI Builtin.bitOr fun _ _ => true
def dXor : D → D → SM D := okI Builtin.bitXor fun _ _ => true
theorem snd_and : Snd2 c (rI0 fun i j => .int (Builtin.bitAnd i j)) dAnd := snd_okI0
theorem snd_bor : Snd2 c (rI0 fun i j => .int (Builtin.bitOr i j)) dOr := snd_okI0
theorem snd_xor : Snd2 c (rI0 fun i j => .int (Builtin.bitXor i j)) dXor := snd_okI0
def dNeg : D → SM D := fun x S => match x with
  | .int i => .ok (.int (-i)) S
  | _ => .bad
theorem snd_neg : Snd1 c (rU fun i => .int (-i)) dNeg := by
  intro E m S H Q x v s rx q
  cases x <;> first | exact (show False from q).elim | skip
  exact ⟨_, rd_int rx, q m H _ (Nxt.refl s) mk_int⟩
/-! ### < <= > >= -/
def dLt : D → D → SM D := okB fun i j => decide (i < j)
def dLe : D → D → SM D := okB fun i j => decide (i ≤ j)
def dGt : D → D → SM D := okB fun i j => decide (j < i)
def dGe : D → D → SM D := okB fun i j => decide (j ≤ i)
theorem snd_lt : Snd2 c (rI0 fun i j => .bl (decide (i < j))) dLt := snd_okB
theorem snd_le : Snd2 c (rI0 fun i j => .bl (decide (i ≤ j))) dLe := snd_okB
theorem snd_gt : Snd2 c (rI0 fun i j => .bl (decide (j < i))) dGt := snd_okB
theorem snd_ge : Snd2 c (rI0 fun i j => .bl (decide (j ≤ i))) dGe := snd_okB
/-! ### == -/
def mapO {α β : Type} (f : α → Option β) : List α → Option (List β)
  | [] => some []
  | d :: l => (match f d, mapO f l with
    | some a, some b => some (a :: b)
    | _, _ => none)
/-- what is compared: the lists in it read off the store, to a depth -/
def toPy (S : Sr) : Nat → D → Option PyData
  | 0, d => (match d with
    | .non => some .none
    | .bl b => some (.bool b)
    | .int i => some (.int i)
    | .str x => some (.str x)
    | _ => none)
  | k + 1, d => (match d with
    | .non => some .none
    | .bl b => some (.bool b)
    | .int i => some (.int i)
    | .str x => some (.str x)
    | .tup l => (mapO (toPy S k) l).map .tuple
    | .ktp l => (mapO (toPy S k) l).map .tuple
    | .fro l => (mapO (toPy S k) l).map .list
    | .gtp l => (mapO (toPy S k) l).map .tuple
    | .adr i => (match S.f i with
      | some (.lst l) => (mapO (toPy S k) l).map .list
      | _ => none))
theorem dpAll_of {m : Nat → Addr} {n : Nat} {H : Hp} {f : D → Option PyData} (h : ∀ d v p, RelD c m n H d v → f d = some p → Dp c.K H v p) : ∀ {l : List D} {vs : List V} {ps : List PyData}, RelDs c m n H l vs → mapO f l = some ps → DpAll c.K H vs ps
  | [], _, _, r, e => by
    rw [rd_nil r]
    cases e
    exact .nil
  | d :: l, _, _, r, e => by
    obtain ⟨v, w, e1, r1, r2⟩ := rd_cons r
    rw [e1]
    unfold mapO at e
    split at e
    · rename_i a b ea eb
      cases e
      exact .cons (h d v a r1 ea) (dpAll_of h r2 eb)
    · cases e
theorem dp_of {m : Nat → Addr} {S : Sr} {H : Hp} (s : Sim c m S H) : ∀ (k : Nat) (d : D) (v : V) (p : PyData), RelD c m S.n H d v → toPy S k d = some p → Dp c.K H v p
  | 0, d, v, p, r, e => by
    cases d with
    | non => cases e; rw [rd_non r]; exact .non
    | bl b => cases e; rw [rd_bl r]; exact .bl b
    | int i => cases e; rw [rd_int r]; exact .int i
    | str x => cases e; rw [rd_str r]; exact .str x
    | _ => cases e
  | k + 1, d, v, p, r, e => by
    have ih := dp_of s k
    cases d with
    | non => cases e; rw [rd_non r]; exact .non
    | bl b => cases e; rw [rd_bl r]; exact .bl b
    | int i => cases e; rw [rd_int r]; exact .int i
    | str x => cases e; rw [rd_str r]; exact .str x
    | tup l =>
      obtain ⟨a, vs, rfl, h, rs⟩ := rd_tup r
      have e : (mapO (toPy S k) l).map PyData.tuple = some p := e
      obtain ⟨ps, e1, rfl⟩ := Option.map_eq_some_iff.mp e
      exact .tup (.inl (.inl h)) (dpAll_of ih rs e1)
    | ktp l =>
      obtain ⟨a, vs, rfl, h, rs⟩ := rd_ktp r
      have e : (mapO (toPy S k) l).map PyData.tuple = some p := e
      obtain ⟨ps, e1, rfl⟩ := Option.map_eq_some_iff.mp e
      exact .tup h.sq (dpAll_of ih rs e1)
    | gtp l =>
      obtain ⟨a, vs, rfl, h, rs⟩ := rd_gtp r
      have e : (mapO (toPy S k) l).map PyData.tuple = some p := e
      obtain ⟨ps, e1, rfl⟩ := Option.map_eq_some_iff.mp e
      exact .tup h.sq (dpAll_of ih rs e1)
    | fro l =>
      obtain ⟨a, vs, rfl, h, rs⟩ := rd_fro r
      have e : (mapO (toPy S k) l).map PyData.list = some p := e
      obtain ⟨ps, e1, rfl⟩ := Option.map_eq_some_iff.mp e
      exact .lst h.sq (dpAll_of ih rs e1)
    | adr i =>
      obtain ⟨rfl, hi⟩ := rd_adr r
      have e : (match S.f i with
        | some (.lst l) => (mapO (toPy S k) l).map .list
        | _ => none) = some p := e
      split at e
      · rename_i l el
        obtain ⟨vs, h, rs⟩ := s.lst el
        obtain ⟨ps, e1, rfl⟩ := Option.map_eq_some_iff.mp e
        exact .lst (.inl (.inl h)) (dpAll_of ih rs e1)
      · cases e
def eqD (neg : Bool) : D → D → SM D := fun x y S => match toPy S 9 x, toPy S 9 y with
  | some a, some b => if SeqAt.shaped a = true ∧ SeqAt.shaped b = true then .ok (.bl (if neg = true then !PyData.eqv a b else PyData.eqv a b)) S else .bad
  | _, _ => .bad
def dEq : D → D → SM D := eqD false
def dNe : D → D → SM D := eqD true
theorem snd_eq : Snd2 c (rEqD c.K) dEq := by
  intro E m S H Q x y v w s rx ry q
  unfold dEq eqD at q
  split at q
  · rename_i a b ea eb
    obtain ⟨⟨h1, h2⟩, q⟩ := po_if q
    exact ⟨a, b, dp_of s 9 x v a rx ea, dp_of s 9 y w b ry eb, h1, h2, q m H _ (Nxt.refl s) mk_bl⟩
  · exact q.elim
theorem snd_ne : Snd2 c (rNeD c.K) dNe := by
  intro E m S H Q x y v w s rx ry q
  unfold dNe eqD at q
  split at q
  · rename_i a b ea eb
    obtain ⟨⟨h1, h2⟩, q⟩ := po_if q
    exact ⟨a, b, dp_of s 9 x v a rx ea, dp_of s 9 y w b ry eb, h1, h2, q m H _ (Nxt.refl s) mk_bl⟩
  · exact q.elim
/-! ### is -/
def dIs (neg : Bool) : D → D → SM D := fun x y S => match x, y with
  | .bl a, .bl b => .ok (.bl (if neg = true then !decide (a = b) else decide (a = b))) S
  | .non, .non => .ok (.bl (!neg)) S
  | _, .non => .ok (.bl neg) S
  | _, _ => .bad
abbrev rIsA : R2 := fun x y H Q => (fun x y H Q => y = .non ∧ Q (.bl (decide (x = .non))) H) x y H Q ∨ rIsB x y H Q
abbrev rNotA : R2 := fun x y H Q => (fun x y H Q => y = .non ∧ Q (.bl (!decide (x = .non))) H) x y H Q ∨ rNotB x y H Q
theorem op_isA : OpR X (compareOp .Is) rIsA := OpR.or op_isN op_isBl
theorem op_notA : OpR X (compareOp .IsNot) rNotA := OpR.or op_notN op_notBl
theorem rd_notnon {m : Nat → Addr} {n : Nat} {H : Hp} {x : D} {v : V} (r : RelD c m n H x v) (hx : x ≠ .non) : decide (v = .non) = false := by
  apply decide_eq_false
  intro z
  subst z
  cases x with
  | non => exact hx rfl
  | bl b => cases rd_bl r
  | int i => cases rd_int r
  | str i => cases rd_str r
  | tup l => obtain ⟨a, vs, e, _⟩ := rd_tup r; cases e
  | ktp l => obtain ⟨a, vs, e, _⟩ := rd_ktp r; cases e
  | fro l => obtain ⟨a, vs, e, _⟩ := rd_fro r; cases e
  | gtp l => obtain ⟨a, vs, e, _⟩ := rd_gtp r; cases e
  | adr i => cases (rd_adr r).1
theorem snd_is : Snd2 c rIsA (dIs false) := by
  intro E m S H Q x y v w s rx ry q
  cases y <;> (try (cases x <;> exact (show False from q).elim))
  · have e := rd_non ry
    cases x
    · have e2 := rd_non rx
      subst e2
      exact .inl ⟨e, q m H _ (Nxt.refl s) mk_bl⟩
    all_goals (refine .inl ⟨e, ?_⟩; rw [rd_notnon rx (fun z => nomatch z)]; exact q m H _ (Nxt.refl s) mk_bl)
  · cases x <;> first | exact (show False from q).elim | skip
    exact .inr ⟨_, _, rd_bl rx, rd_bl ry, q m H _ (Nxt.refl s) mk_bl⟩
theorem snd_isnot : Snd2 c rNotA (dIs true) := by
  intro E m S H Q x y v w s rx ry q
  cases y <;> (try (cases x <;> exact (show False from q).elim))
  · have e := rd_non ry
    cases x
    · have e2 := rd_non rx
      subst e2
      exact .inl ⟨e, q m H _ (Nxt.refl s) mk_bl⟩
    all_goals (refine .inl ⟨e, ?_⟩; rw [rd_notnon rx (fun z => nomatch z)]; exact q m H _ (Nxt.refl s) mk_bl)
  · cases x <;> first | exact (show False from q).elim | skip
    exact .inr ⟨_, _, rd_bl rx, rd_bl ry, q m H _ (Nxt.refl s) mk_bl⟩
end
end Y

set_option Elab.async false
set_option linter.all false
set_option maxRecDepth 100000
set_option maxHeartbeats 1000000
/-! Y5: in, dicts, places, slices, calls of built-ins. -/
namespace Y
open PySem PySem.Spec PyProof.Rows L2
/-! ### flat values, keys -/
def flatD : D → Option V
  | .non => some .non
  | .bl b => some (.bl b)
  | .int i => some (.int i)
  | .str x => some (.str x)
  | _ => none
def keyD : D → Option Key
  | .int i => some (.inl i)
  | .str x => some (.inr x)
  | _ => none
def lookD {κ : Type} [DecidableEq κ] (l : List (κ × D)) (k : κ) : Option D := (l.find? fun q => decide (q.1 = k)).map (·.2)
def putD {κ : Type} [DecidableEq κ] (l : List (κ × D)) (k : κ) (v : D) : List (κ × D) :=
  if (l.any fun q => decide (q.1 = k)) = true then l.map (fun q => if q.1 = k then (q.1, v) else q) else l ++ [(k, v)]
def dropD {κ : Type} [DecidableEq κ] (l : List (κ × D)) (k : κ) : List (κ × D) := l.filter fun q => decide (q.1 ≠ k)
section
variable {c : Ct} {m : Nat → Addr} {n : Nat} {H : Hp}
theorem flat_of {d : D} {v w : V} (r : RelD c m n H d v) (e : flatD d = some w) : v = w ∧ flatV v = true := by
  cases d <;> cases e
  · rw [rd_non r]; exact ⟨rfl, rfl⟩
  · rw [rd_bl r]; exact ⟨rfl, rfl⟩
  · rw [rd_int r]; exact ⟨rfl, rfl⟩
  · rw [rd_str r]; exact ⟨rfl, rfl⟩
theorem flats_of : ∀ {l : List D} {vs ws : List V}, RelDs c m n H l vs → mapO flatD l = some ws → vs = ws ∧ vs.all flatV = true
  | [], _, _, r, e => by cases e; rw [rd_nil r]; exact ⟨rfl, rfl⟩
  | d :: l, _, _, r, e => by
    obtain ⟨v, w, e1, r1, r2⟩ := rd_cons r
    unfold mapO at e
    split at e
    · rename_i a b ea eb
      cases e
      obtain ⟨h1, h2⟩ := flat_of r1 ea
      obtain ⟨h3, h4⟩ := flats_of r2 eb
      rw [e1, List.all_cons, h2, h4, h1, h3]
      exact ⟨rfl, rfl⟩
    · cases e
theorem key_of {d : D} {v : V} {k : Key} (r : RelD c m n H d v) (e : keyD d = some k) : v = kV k := by
  cases d <;> cases e
  · exact rd_int r
  · exact rd_str r
theorem keys_of : ∀ {l : List D} {vs : List V} {ks : List Key}, RelDs c m n H l vs → mapO keyD l = some ks → vs = ks.map kV
  | [], _, _, r, e => by cases e; exact rd_nil r
  | d :: l, _, _, r, e => by
    obtain ⟨v, w, e1, r1, r2⟩ := rd_cons r
    unfold mapO at e
    split at e
    · rename_i a b ea eb
      cases e
      rw [e1, key_of r1 ea, keys_of r2 eb] <;> rfl
    · cases e
section
variable {κ : Type} [DecidableEq κ]
theorem rk_cons {p : κ × D} {l : List (κ × D)} {vs : List (κ × V)} (h : RelK c m n H (p :: l) vs) : ∃ v r, vs = (p.1, v) :: r ∧ RelD c m n H p.2 v ∧ RelK c m n H l r := by unfold RelK at h; exact h
theorem rk_nil {vs : List (κ × V)} (h : RelK c m n H ([] : List (κ × D)) vs) : vs = [] := by unfold RelK at h; exact h
theorem mkk_nil : RelK c m n H ([] : List (κ × D)) [] := by unfold RelK; rfl
theorem mkk_cons {p : κ × D} {l : List (κ × D)} {v : V} {vs : List (κ × V)} (h : RelD c m n H p.2 v) (r : RelK c m n H l vs) : RelK c m n H (p :: l) ((p.1, v) :: vs) := by unfold RelK; exact ⟨v, vs, rfl, h, r⟩
theorem RelK.length : ∀ {l : List (κ × D)} {vs : List (κ × V)}, RelK c m n H l vs → l.length = vs.length
  | [], _, h => by rw [rk_nil h] <;> rfl
  | d :: l, _, h => by
    obtain ⟨v, r, e, _, h2⟩ := rk_cons h
    rw [e, List.length_cons, List.length_cons, RelK.length h2]
theorem RelK.look (k : κ) : ∀ {l : List (κ × D)} {vs : List (κ × V)}, RelK c m n H l vs → (lookD l k = none ∧ valV vs k = none) ∨ ∃ d v, lookD l k = some d ∧ valV vs k = some v ∧ RelD c m n H d v
  | [], _, h => by rw [rk_nil h]; exact .inl ⟨rfl, rfl⟩
  | p :: l, _, h => by
    obtain ⟨v, r, e, h1, h2⟩ := rk_cons h
    rw [e]
    by_cases q : p.1 = k
    · refine .inr ⟨p.2, v, ?_, ?_, h1⟩
      · unfold lookD
        rw [List.find?_cons, decide_eq_true q] <;> rfl
      · exact valV_pos (p := (p.1, v)) q
    · have e1 : lookD (p :: l) k = lookD l k := by
        unfold lookD
        rw [List.find?_cons, decide_eq_false q]
      rw [e1, valV_neg (p := (p.1, v)) q]
      exact RelK.look k h2
theorem RelK.any (k : κ) : ∀ {l : List (κ × D)} {vs : List (κ × V)}, RelK c m n H l vs → (l.any fun q => decide (q.1 = k)) = (vs.any fun q => decide (q.1 = k))
  | [], _, h => by rw [rk_nil h] <;> rfl
  | p :: l, _, h => by
    obtain ⟨v, r, e, h1, h2⟩ := rk_cons h
    rw [e, List.any_cons, List.any_cons, RelK.any k h2]
theorem RelK.mapPut (k : κ) {d : D} {w : V} (hd : RelD c m n H d w) : ∀ {l : List (κ × D)} {vs : List (κ × V)}, RelK c m n H l vs → RelK c m n H (l.map fun q => if q.1 = k then (q.1, d) else q) (vs.map fun q => if q.1 = k then (q.1, w) else q)
  | [], _, h => by rw [rk_nil h]; exact mkk_nil
  | p :: l, _, h => by
    obtain ⟨v, r, e, h1, h2⟩ := rk_cons h
    rw [e, List.map_cons, List.map_cons]
    by_cases q : p.1 = k
    · rw [if_pos q, if_pos q]
      exact mkk_cons (p := (p.1, d)) hd (RelK.mapPut k hd h2)
    · rw [if_neg q, if_neg q]
      exact mkk_cons h1 (RelK.mapPut k hd h2)
theorem RelK.append : ∀ {l l' : List (κ × D)} {vs ws : List (κ × V)}, RelK c m n H l vs → RelK c m n H l' ws → RelK c m n H (l ++ l') (vs ++ ws)
  | [], _, _, _, h, q => by rw [rk_nil h]; exact q
  | p :: l, _, _, _, h, q => by
    obtain ⟨v, r, e, h1, h2⟩ := rk_cons h
    rw [e]
    exact mkk_cons h1 (RelK.append h2 q)
theorem RelK.put (k : κ) {d : D} {w : V} {l : List (κ × D)} {vs : List (κ × V)} (hd : RelD c m n H d w) (h : RelK c m n H l vs) : RelK c m n H (putD l k d) (putK vs k w) := by
  unfold putD putK
  rw [RelK.any k h]
  split
  · exact RelK.mapPut k hd h
  · exact RelK.append h (mkk_cons (p := (k, d)) hd mkk_nil)
theorem RelK.drop (k : κ) : ∀ {l : List (κ × D)} {vs : List (κ × V)}, RelK c m n H l vs → RelK c m n H (dropD l k) (dropK vs k)
  | [], _, h => by rw [rk_nil h]; exact mkk_nil
  | p :: l, _, h => by
    obtain ⟨v, r, e, h1, h2⟩ := rk_cons h
    have ih := RelK.drop k h2
    unfold dropD dropK at ih ⊢
    rw [e, List.filter_cons, List.filter_cons]
    by_cases q : p.1 = k
    · rw [decide_eq_false (fun z => z q), if_neg Bool.false_ne_true, if_neg Bool.false_ne_true]
      exact ih
    · rw [decide_eq_true q, if_pos rfl, if_pos rfl]
      exact mkk_cons h1 ih
end
end
/-! ### in -/
def itemsD (S : Sr) : D → Option (List D)
  | .tup l => some l
  | .ktp l => some l
  | .fro l => some l
  | .gtp l => some l
  | .adr i => (match S.f i with
    | some (.lst l) => some l
    | _ => none)
  | _ => none
theorem items_of {c : Ct} {m : Nat → Addr} {S : Sr} {H : Hp} {d : D} {v : V} {l : List D} (s : Sim c m S H) (r : RelD c m S.n H d v) (e : itemsD S d = some l) : ∃ a vs, v = .ref a ∧ (SqL c.K H a vs ∨ SqT c.K H a vs) ∧ RelDs c m S.n H l vs := by
  cases d with
  | tup k =>
    cases e
    obtain ⟨a, vs, rfl, h, rs⟩ := rd_tup r
    exact ⟨a, vs, rfl, .inr (.inl (.inl h)), rs⟩
  | ktp k =>
    cases e
    obtain ⟨a, vs, rfl, h, rs⟩ := rd_ktp r
    exact ⟨a, vs, rfl, .inr h.sq, rs⟩
  | gtp k =>
    cases e
    obtain ⟨a, vs, rfl, h, rs⟩ := rd_gtp r
    exact ⟨a, vs, rfl, .inr h.sq, rs⟩
  | fro k =>
    cases e
    obtain ⟨a, vs, rfl, h, rs⟩ := rd_fro r
    exact ⟨a, vs, rfl, .inl h.sq, rs⟩
  | adr i =>
    obtain ⟨rfl, hi⟩ := rd_adr r
    have e : (match S.f i with
      | some (.lst l) => some l
      | _ => none) = some l := e
    split at e
    · rename_i k ek
      cases e
      obtain ⟨vs, h, rs⟩ := s.lst ek
      exact ⟨_, vs, rfl, .inl (.inl (.inl h)), rs⟩
    · cases e
  | _ => cases e
def inSeq (neg : Bool) : D → D → SM D := fun x y S => match itemsD S y with
  | some l => (match flatD x, mapO flatD l with
    | some v, some vs => .ok (.bl (if neg = true then !inV v vs else inV v vs)) S
    | _, _ => .bad)
  | none => .bad
def inTxt (neg : Bool) : D → D → SM D := fun x y S => match x, y with
  | .str i, .str j => .ok (.bl (if neg = true then !(!(Builtin.Str.occurrences j i 0 j.length 1).isEmpty) else !(Builtin.Str.occurrences j i 0 j.length 1).isEmpty)) S
  | _, _ => .bad
/-- what a dict has at a key -/
def dicAt (S : Sr) (d k : D) : Option (Option D) := match d with
  | .adr i => (match S.f i with
    | some (.dic l) => (keyD k).map fun k => lookD l k
    | some (.dit l) => (match k with
      | .tup ks => (mapO keyD ks).map fun k => lookD l k
      | _ => none)
    | _ => none)
  | _ => none
theorem dicAt_of {c : Ct} {m : Nat → Addr} {S : Sr} {H : Hp} {d k : D} {v w : V} {o : Option D} (s : Sim c m S H) (r : RelD c m S.n H d v) (rk : RelD c m S.n H k w) (e : dicAt S d k = some o) :
    ∃ a u, v = .ref a ∧ DGet H a w u ∧ ((o = none ∧ u = none) ∨ ∃ x y, o = some x ∧ u = some y ∧ RelD c m S.n H x y) := by
  cases d <;> try cases e
  rename_i i
  obtain ⟨rfl, hi⟩ := rd_adr r
  unfold dicAt at e
  dsimp only at e
  split at e
  · rename_i l el
    obtain ⟨q, eq, rfl⟩ := Option.map_eq_some_iff.mp e
    obtain ⟨vs, h, rs⟩ := s.dic el
    have ew := key_of rk eq
    subst ew
    refine ⟨_, _, rfl, DGet.k h, ?_⟩
    rcases rs.look q with ⟨e1, e2⟩ | ⟨x, y, e1, e2, e3⟩
    · exact .inl ⟨e1, e2⟩
    · exact .inr ⟨x, y, e1, e2, e3⟩
  · rename_i l el
    split at e
    · rename_i ks
      obtain ⟨q, eq, rfl⟩ := Option.map_eq_some_iff.mp e
      obtain ⟨vs, h, rs⟩ := s.dit el
      obtain ⟨b, ws, rfl, hb, rb⟩ := rd_tup rk
      have ew := keys_of rb eq
      subst ew
      refine ⟨_, _, rfl, DGet.t h hb, ?_⟩
      rcases rs.look q with ⟨e1, e2⟩ | ⟨x, y, e1, e2, e3⟩
      · exact .inl ⟨e1, e2⟩
      · exact .inr ⟨x, y, e1, e2, e3⟩
    · cases e
  · cases e
def inDic (neg : Bool) : D → D → SM D := fun x y S => match dicAt S y x with
  | some o => .ok (.bl (if neg = true then !o.isSome else o.isSome)) S
  | none => .bad
def rInD (neg : Bool) : R2 := fun y x H Q => ∃ a o, x = .ref a ∧ DGet H a y o ∧ Q (.bl (if neg = true then !o.isSome else o.isSome)) H
def rInT (neg : Bool) : R2 := fun x y H Q => ∃ i j, x = .str i ∧ y = .str j ∧ Q (.bl (if neg = true then !(!(Builtin.Str.occurrences j i 0 j.length 1).isEmpty) else !(Builtin.Str.occurrences j i 0 j.length 1).isEmpty)) H
section
variable {c : Ct} {X : Cx}
theorem snd_inSeq {neg : Bool} : Snd2 c (rIn c.K neg) (inSeq neg) := by
  intro E m S H Q x y v w s rx ry q
  unfold inSeq at q
  split at q
  · rename_i l el
    split at q
    · rename_i xv vs e1 e2
      obtain ⟨a, ws, rfl, hq, rs⟩ := items_of s ry el
      obtain ⟨rfl, hf⟩ := flat_of rx e1
      obtain ⟨rfl, hfs⟩ := flats_of rs e2
      refine ⟨a, ws, rfl, hq, hf, hfs, ?_⟩
      exact q m H _ (Nxt.refl s) mk_bl
    · exact q.elim
  · exact q.elim
theorem snd_inTxt {neg : Bool} : Snd2 c (rInT neg) (inTxt neg) := by
  intro E m S H Q x y v w s rx ry q
  cases x <;> first | exact (show False from q).elim | skip
  cases y <;> first | exact (show False from q).elim | skip
  exact ⟨_, _, rd_str rx, rd_str ry, q m H _ (Nxt.refl s) mk_bl⟩
theorem snd_inDic {neg : Bool} : Snd2 c (rInD neg) (inDic neg) := by
  intro E m S H Q x y v w s rx ry q
  unfold inDic at q
  split at q
  · rename_i o eo
    obtain ⟨a, u, rfl, g, h⟩ := dicAt_of s ry rx eo
    have e : o.isSome = u.isSome := by
      rcases h with ⟨e1, e2⟩ | ⟨_, _, e1, e2, _⟩ <;> rw [e1, e2] <;> rfl
    rw [e] at q
    exact ⟨a, u, rfl, g, q m H _ (Nxt.refl s) mk_bl⟩
  · exact q.elim
theorem op_inD (hu : X.A.units + 1 < cLine) : OpR X (compareOp .In) (rInD false) := by
  intro pins s σ H x y v u Q I rx ry h
  obtain ⟨a, o, rfl, g, q⟩ := h
  obtain rfl : u = Value.ref a := ry
  exact d_in hu I g rx fun s3 I3 => ⟨.bl o.isSome, H, I3, rfl, q⟩
theorem op_notinD (hu : X.A.units + 1 < cLine) : OpR X (compareOp .NotIn) (rInD true) := by
  intro pins s σ H x y v u Q I rx ry h
  obtain ⟨a, o, rfl, g, q⟩ := h
  obtain rfl : u = Value.ref a := ry
  exact d_notIn hu I g rx fun s3 I3 => ⟨.bl (!o.isSome), H, I3, rfl, q⟩
theorem op_inT : OpR X (compareOp .In) (rInT false) := op_in_str
theorem op_notinT : OpR X (compareOp .NotIn) (rInT true) := op_notin_str
abbrev rInA (K : PySem.W.Frag) (neg : Bool) : R2 := fun x y H Q => rIn K neg x y H Q ∨ (fun x y H Q => rInT neg x y H Q ∨ rInD neg x y H Q) x y H Q
def dIn (neg : Bool) : D → D → SM D := orF (inSeq neg) (orF (inTxt neg) (inDic neg))
theorem op_inA (hu : X.A.units + 1 < cLine) : OpR X (compareOp .In) (rInA X.K false) := OpR.or op_in_seq (OpR.or op_inT (op_inD hu))
theorem op_notinA (hu : X.A.units + 1 < cLine) : OpR X (compareOp .NotIn) (rInA X.K true) := OpR.or op_notIn_seq (OpR.or op_notinT (op_notinD hu))
theorem snd_in {neg : Bool} : Snd2 c (rInA c.K neg) (dIn neg) := snd_or snd_inSeq (snd_or snd_inTxt snd_inDic)
/-! ### places -/
def ixSeq : D → D → SM D := fun x y S => match itemsD S x, y with
  | some l, .int i => (match atI l i with
    | some d => .ok d S
    | none => .bad)
  | _, _ => .bad
def ixTxt : D → D → SM D := fun x y S => match x, y with
  | .str z, .int i => if z.length ≤ sizeLine then (match atI z.cps.toList i with
    | some ch => .ok (.str ⟨#[ch]⟩) S
    | none => .bad) else .bad
  | _, _ => .bad
def ixDic : D → D → SM D := fun x y S => match dicAt S x y with
  | some (some d) => .ok d S
  | _ => .bad
def rIxD : R2 := fun x y H Q => ∃ a v, x = .ref a ∧ DGet H a y (some v) ∧ Q v H
theorem ix_dic (hu : X.A.units + 1 < cLine) : IxR X rIxD := by
  intro value slice pins s σ H x y v u Q I rx ry h hs
  obtain ⟨a, z, rfl, g, q⟩ := h
  obtain rfl : v = Value.ref a := rx
  exact tail_any (dict_typeIs I g) PySem.F.slot_dict_getitem.lookup (d_getItem hu I g ry fun w' s3 I3 rw' => ⟨z, H, I3, rw', q⟩) hs
theorem atI_rel {m : Nat → Addr} {n : Nat} {H : Hp} {l : List D} {vs : List V} {i : Int} {d : D} (r : RelDs c m n H l vs) (e : atI l i = some d) : ∃ v, atI vs i = some v ∧ RelD c m n H d v := by
  unfold atI at e ⊢
  rw [← r.length]
  cases q : ixN l.length i with
  | none => rw [q] at e; cases e
  | some j =>
    rw [q] at e
    exact r.get e
theorem snd_ixSeq : Snd2 c (fun x y H Q => rIxL c.K x y H Q ∨ rIxT c.K x y H Q) ixSeq := by
  intro E m S H Q x y v w s rx ry q
  unfold ixSeq at q
  split at q
  · rename_i l i el
    split at q
    · rename_i d ed
      obtain ⟨a, vs, rfl, hq, rs⟩ := items_of s rx el
      obtain ⟨u, eu, ru⟩ := atI_rel rs ed
      have fin := q m H u (Nxt.refl s) ru
      rcases hq with hq | hq
      · exact .inl ⟨a, vs, i, u, rfl, rd_int ry, hq, eu, fin⟩
      · exact .inr ⟨a, vs, i, u, rfl, rd_int ry, hq, eu, fin⟩
    · exact q.elim
  · exact q.elim
theorem snd_ixTxt : Snd2 c rIxS ixTxt := by
  intro E m S H Q x y v w s rx ry q
  cases x <;> first | exact (show False from q).elim | skip
  cases y <;> first | exact (show False from q).elim | skip
  obtain ⟨hz, q⟩ := po_if (c := c) (E := E) q
  split at q
  · rename_i ch ec
    exact ⟨_, _, ch, rd_str rx, rd_int ry, hz, ec, q m H _ (Nxt.refl s) mk_str⟩
  · exact q.elim
theorem snd_ixDic : Snd2 c rIxD ixDic := by
  intro E m S H Q x y v w s rx ry q
  unfold ixDic at q
  split at q
  · rename_i d ed
    obtain ⟨a, u, rfl, g, h⟩ := dicAt_of s rx ry ed
    rcases h with ⟨e1, _⟩ | ⟨d', y', e1, e2, e3⟩
    · cases e1
    · cases e1
      subst e2
      exact ⟨a, y', rfl, g, q m H _ (Nxt.refl s) e3⟩
  · exact q.elim
def dIx : D → D → SM D := orF ixSeq (orF ixTxt ixDic)
abbrev rIxA (K : PySem.W.Frag) : R2 := fun x y H Q => (fun x y H Q => rIxL K x y H Q ∨ rIxT K x y H Q) x y H Q ∨ (fun x y H Q => rIxS x y H Q ∨ rIxD x y H Q) x y H Q
theorem ix_A (hu : X.A.units + 1 < cLine) : IxR X (rIxA X.K) := IxR.or (IxR.or ix_list ix_tup) (IxR.or ix_str (ix_dic hu))
theorem snd_ix : Snd2 c (rIxA c.K) dIx := snd_or snd_ixSeq (snd_or snd_ixTxt snd_ixDic)
/-! ### stores to places -/
def putSeq : D → D → D → Sr → Option Sr := fun o i v S => match o, i with
  | .adr a, .int k => (match S.f a with
    | some (.lst l) => (ixN l.length k).map fun j => S.put a (.lst (l.set j v))
    | _ => none)
  | _, _ => none
def putDic : D → D → D → Sr → Option Sr := fun o i v S => match o with
  | .adr a => (match S.f a with
    | some (.dic l) => if l.length < sizeLine then (keyD i).map fun k => S.put a (.dic (putD l k v)) else none
    | some (.dit l) => if l.length < sizeLine then (match i with
      | .tup ks => (mapO keyD ks).map fun k => S.put a (.dit (putD l k v))
      | _ => none) else none
    | _ => none)
  | _ => none
def putAt : D → D → D → Sr → Option Sr := fun o i v S => match putSeq o i v S with
  | some S' => some S'
  | none => putDic o i v S
def rSetD : TSet := fun o i v H Q => ∃ a H', o = .ref a ∧ DPut H a i v H' ∧ Q H'
theorem set_dic (hu : X.A.units + 1 < cLine) : PSet X rSetD := by
  intro pins s σ H o i v ov iv u Q I ro ri rv h
  obtain ⟨a, H', rfl, g, q⟩ := h
  obtain rfl : ov = Value.ref a := ro
  exact d_setItem hu I g ri rv fun s4 I4 => ⟨H', I4, q⟩
def rSetA : TSet := fun o i v H Q => rSetL o i v H Q ∨ rSetD o i v H Q
theorem set_A (hu : X.A.units + 1 < cLine) : PSet X rSetA := by
  intro pins s σ H o i v ov iv u Q I ro ri rv h
  rcases h with h | h
  · exact set_list pins s σ H o i v ov iv u Q I ro ri rv h
  · exact set_dic hu pins s σ H o i v ov iv u Q I ro ri rv h
theorem setA_of {m : Nat → Addr} {S S' : Sr} {H : Hp} {o i v : D} {ov iv w : V} {Q : Hp → Prop} (s : Sim c m S H) (ro : RelD c m S.n H o ov) (ri : RelD c m S.n H i iv) (rv : RelD c m S.n H v w) (e : putAt o i v S = some S')
    (q : ∀ H', Nxt c m S H m S' H' → Q H') : rSetA ov iv w H Q := by
  unfold putAt at e
  cases e1 : putSeq o i v S with
  | some S1 =>
    rw [e1] at e
    have e : S1 = S' := Option.some.inj e
    subst e
    left
    cases o <;> try cases e1
    cases i <;> try cases e1
    rename_i a k
    obtain ⟨rfl, ha⟩ := rd_adr ro
    have e1 : (match S.f a with
      | some (.lst l) => (ixN l.length k).map fun j => S.put a (.lst (l.set j v))
      | _ => none) = some S1 := e1
    split at e1
    · rename_i l el
      obtain ⟨j, ej, rfl⟩ := Option.map_eq_some_iff.mp e1
      obtain ⟨vs, h, rs⟩ := s.lst el
      exact ⟨m a, vs, k, j, rfl, rd_int ri, h, by rw [← rs.length]; exact ej, q _ (Nxt.put (x := .lst (l.set j v)) s el ⟨_, rfl, rs.set j rv⟩)⟩
    · cases e1
  | none =>
    rw [e1] at e
    have e2 : putDic o i v S = some S' := e
    clear e e1
    right
    cases o <;> try cases e2
    rename_i a
    obtain ⟨rfl, ha⟩ := rd_adr ro
    unfold putDic at e2
    dsimp only at e2
    have e := e2
    clear e2
    split at e
    · rename_i l el
      split at e
      · rename_i hl
        obtain ⟨k, ek, rfl⟩ := Option.map_eq_some_iff.mp e
        obtain ⟨vs, h, rs⟩ := s.dic el
        have ew := key_of ri ek
        subst ew
        exact ⟨m a, _, rfl, DPut.k h (by rw [← rs.length]; exact hl), q _ (Nxt.put (x := .dic (putD l k v)) s el ⟨_, rfl, rs.put k rv⟩)⟩
      · cases e
    · rename_i l el
      split at e
      · rename_i hl
        split at e
        · rename_i ks ri
          obtain ⟨k, ek, rfl⟩ := Option.map_eq_some_iff.mp e
          obtain ⟨vs, h, rs⟩ := s.dit el
          obtain ⟨b, ws, rfl, hb, rb⟩ := rd_tup ri
          have ew := keys_of rb ek
          subst ew
          exact ⟨m a, _, rfl, DPut.t h hb (by rw [← rs.length]; exact hl), q _ (Nxt.put (x := .dit (putD l k v)) s el ⟨_, rfl, rs.put k rv⟩)⟩
        · cases e
      · cases e
    · cases e
end
end Y

set_option Elab.async false
set_option linter.all false
set_option maxRecDepth 100000
set_option maxHeartbeats 1000000
/-! Y6: slices, calls of built-ins, attributes, calls of own defs. -/
namespace Y
open PySem PySem.Spec PyProof.Rows L2
/-! ### slices -/
def cutD (xs : List D) (lo hi : Option Int) : List D := (xs.drop (HT.sIx xs.length 0 lo)).take (HT.sIx xs.length xs.length hi - HT.sIx xs.length 0 lo)
abbrev MO' := Gm → SM (Option Int)
def oNo : MO' := fun _ S => .ok none S
def oE (a : ME) : MO' := fun g => SM.bind (a g) fun d S => match d with
  | .int i => .ok (some i) S
  | _ => .bad
def mSl (f : D → Option Int → Option Int → SM D) (a : ME) (l u : MO') : ME := fun g => SM.bind (a g) fun x => SM.bind (l g) fun lo => SM.bind (u g) fun hi => f x lo hi
def slD : D → Option Int → Option Int → SM D := fun x lo hi S => match x with
  | .str z => if z.length ≤ sizeLine then .ok (.str (cutS z lo hi)) S else .bad
  | .tup l => if HT.sIx l.length 0 lo = 0 ∧ HT.sIx l.length l.length hi = l.length then .bad else .ok (.tup (cutD l lo hi)) S
  | .fro l => .ok (.adr S.n) (S.alloc (.lst (cutD l lo hi)))
  | .adr i => (match S.f i with
    | some (.lst l) => .ok (.adr S.n) (S.alloc (.lst (cutD l lo hi)))
    | _ => .bad)
  | _ => .bad
abbrev rSlA (K : PySem.W.Frag) : V → Option Int → Option Int → Hp → VK → Prop := fun x lo hi H Q => rSlL K x lo hi H Q ∨ (fun x lo hi H Q => rSlT K x lo hi H Q ∨ rSlS x lo hi H Q) x lo hi H Q
theorem sl_A {X : Cx} : SlR X (rSlA X.K) := SlR.or sl_list (SlR.or sl_tup sl_str)
theorem cut_rel {c : Ct} {m : Nat → Addr} {n : Nat} {H : Hp} {l : List D} {vs : List V} (r : RelDs c m n H l vs) (lo hi : Option Int) : RelDs c m n H (cutD l lo hi) (cutV vs lo hi) := by
  unfold cutD cutV
  rw [r.length]
  exact (r.drop _).take _
theorem sl_of {c : Ct} {E : XK} {m : Nat → Addr} {S : Sr} {H : Hp} {Q : VK} {x : D} {v : V} {lo hi : Option Int} (s : Sim c m S H) (rx : RelD c m S.n H x v) (q : PoE c E m S H Q (slD x lo hi S)) : rSlA c.K v lo hi H Q := by
  cases x with
  | str z =>
    obtain ⟨hz, q⟩ := po_if (c := c) (E := E) q
    exact .inr (.inr ⟨z, rd_str rx, hz, q m H _ (Nxt.refl s) mk_str⟩)
  | tup l =>
    obtain ⟨a, vs, rfl, h, rs⟩ := rd_tup rx
    have q : PoE c E m S H Q (if HT.sIx l.length 0 lo = 0 ∧ HT.sIx l.length l.length hi = l.length then .bad else .ok (.tup (cutD l lo hi)) S) := q
    split at q
    · exact q.elim
    · rename_i hn
      exact .inr (.inl ⟨a, vs, rfl, .inl (.inl h), by rw [← rs.length]; exact hn, giveT s (cut_rel rs lo hi) q⟩)
  | fro l =>
    obtain ⟨a, vs, rfl, h, rs⟩ := rd_fro rx
    exact .inl ⟨a, vs, rfl, h.sq, giveO (x := .lst (cutD l lo hi)) s ⟨_, rfl, cut_rel rs lo hi⟩ q⟩
  | adr i =>
    obtain ⟨rfl, hi'⟩ := rd_adr rx
    have q : PoE c E m S H Q (match S.f i with
      | some (.lst l) => .ok (.adr S.n) (S.alloc (.lst (cutD l lo hi)))
      | _ => .bad) := q
    split at q
    · rename_i l el
      obtain ⟨vs, h, rs⟩ := s.lst el
      exact .inl ⟨_, vs, rfl, .inl (.inl h), giveO (x := .lst (cutD l lo hi)) s ⟨_, rfl, cut_rel rs lo hi⟩ q⟩
    · exact q.elim
  | _ => exact (show False from q).elim
section
variable {X : Cx} {c : Ct} {E : XK}
def PoO (c : Ct) (E : XK) (m : Nat → Addr) (S : Sr) (H : Hp) (Q : Option Int → Hp → Prop) : R (Option Int) → Prop
  | .ok o S' => ∀ m' H', Nxt c m S H m' S' H' → Q o H'
  | .exc q S' => ∀ m' H', Nxt c m S H m' S' H' → E (.ref (c.cls q)) none H'
  | .bad => False
def rdO (c : Ct) (E : XK) (x : MO') : TO := fun σ H Q => ∃ m S g, Sim c m S H ∧ RelG c m S.n H g σ ∧ PoO c E m S H Q (x g S)
theorem qo_no : PO X none (rdO c E oNo) := ⟨fun pins s σ H Q I ⟨m, S, g, si, rg, q⟩ => po_none.run pins s σ H Q I (q m H (Nxt.refl si))⟩
theorem seqO {x : ME} {k : D → SM (Option Int)} {m : Nat → Addr} {S : Sr} {H : Hp} {g : Gm} {σ : L2.St} {Q : Option Int → Hp → Prop} {QQ : VK} (s : Sim c m S H) (rg : RelG c m S.n H g σ) (h : PoO c E m S H Q (SM.bind (x g) k S))
    (hk : ∀ m1 S1 H1 d v, Nxt c m S H m1 S1 H1 → RelD c m1 S1.n H1 d v → PoO c E m1 S1 H1 Q (k d S1) → QQ v H1) : rdE c E x σ H QQ := by
  refine ⟨m, S, g, s, rg, ?_⟩
  unfold SM.bind at h
  cases e : x g S with
  | ok d S1 =>
    rw [e] at h
    refine fun m1 H1 v a r => hk m1 S1 H1 d v a r ?_
    cases e2 : k d S1 with
    | ok o S2 => rw [show PoO c E m S H Q (k d S1) = PoO c E m S H Q (.ok o S2) by rw [e2]] at h; exact fun m' H' b => h m' H' (a.trans s b)
    | exc o S2 => rw [show PoO c E m S H Q (k d S1) = PoO c E m S H Q (.exc o S2) by rw [e2]] at h; exact fun m' H' b => h m' H' (a.trans s b)
    | bad => rw [show PoO c E m S H Q (k d S1) = PoO c E m S H Q .bad by rw [e2]] at h; exact h
  | exc q S1 =>
    rw [e] at h
    exact h
  | bad =>
    rw [e] at h
    exact h
theorem qo_e {e : Expr} {ma : ME} (h : PE X e (rdE c E ma)) : PO X (some e) (rdO c E (oE ma)) := by
  refine ⟨fun pins s σ H Q I q => (po_some h).run pins s σ H Q I ?_⟩
  obtain ⟨m, S, g, si, rg, q⟩ := q
  refine seqO si rg q fun m1 S1 H1 d v a r q1 => ?_
  cases d <;> first | exact (show False from q1).elim | skip
  exact ⟨_, rd_int r, q1 m1 H1 (Nxt.refl a.sim)⟩
theorem seqEO {x : MO'} {k : Option Int → SM D} {m : Nat → Addr} {S : Sr} {H : Hp} {g : Gm} {σ : L2.St} {Q : VK} {QQ : Option Int → Hp → Prop} (s : Sim c m S H) (rg : RelG c m S.n H g σ) (h : PoE c E m S H Q (SM.bind (x g) k S))
    (hk : ∀ m1 S1 H1 b, Nxt c m S H m1 S1 H1 → PoE c E m1 S1 H1 Q (k b S1) → QQ b H1) : rdO c E x σ H QQ := by
  refine ⟨m, S, g, s, rg, ?_⟩
  unfold SM.bind at h
  cases e : x g S with
  | ok d S1 =>
    rw [e] at h
    exact fun m1 H1 a => hk m1 S1 H1 d a (PoE.go s a h)
  | exc q S1 =>
    rw [e] at h
    exact h
  | bad =>
    rw [e] at h
    exact h
theorem qe_sl {e : Expr} {l u : Option Expr} {ma : ME} {ml mu : MO'} {p2 pos : Pos} (hK : X.K = c.K) (ha : PE X e (rdE c E ma)) (hl : PO X l (rdO c E ml)) (hu : PO X u (rdO c E mu)) : PE X (.Subscript e (.Slice l u none p2) pos) (rdE c E (mSl slD ma ml mu)) :=
  PE.imp (pe_slice sl_A ha hl hu) fun σ H Q ⟨m, S, g, s, rg, q⟩ => seqE s rg q fun m1 S1 H1 x v a rx q1 => seqEO a.sim (a.relG rg) q1 fun m2 S2 H2 lo b q2 => seqEO b.sim (b.relG (a.relG rg)) q2 fun m3 S3 H3 hi d q3 => by
    have z := sl_of d.sim (d.relD (b.relD rx)) q3
    rw [hK]
    exact z
/-! ### calls of built-ins -/
def mCB (f : List D → SM D) (a : MA) : ME := fun g => SM.bind (a g) f
theorem tCB_of {r : List V → Hp → VK → Prop} {f : List D → SM D} {ma : MA} (hs : SndA c r f) (σ : L2.St) (H : Hp) (Q : VK) (h : rdE c E (mCB f ma) σ H Q) : tCB r (rdA c E ma) σ H Q := by
  obtain ⟨m, S, g, s, rg, q⟩ := h
  exact seqEA s rg q fun m1 S1 H1 l vs a rs q1 => hs E m1 S1 H1 Q l vs a.sim rs q1
theorem qe_cb {e : Expr} {r : List V → Hp → VK → Prop} {f : List D → SM D} {ma : MA} (h : PE X e (tCB r (rdA c E ma))) (hs : SndA c r f) : PE X e (rdE c E (mCB f ma)) := PE.imp h (tCB_of hs)
def fAbs : List D → SM D := fun l S => match l with
  | [.int i] => .ok (.int (if i < 0 then -i else i)) S
  | _ => .bad
def fMax2 : List D → SM D := fun l S => match l with
  | [.int i, .int j] => .ok (.int (if j > i then j else i)) S
  | _ => .bad
def fMin2 : List D → SM D := fun l S => match l with
  | [.int i, .int j] => .ok (.int (if j < i then j else i)) S
  | _ => .bad
def fInt : List D → SM D := fun l S => match l with
  | [.int i] => .ok (.int i) S
  | [.bl k] => .ok (.int (if k = true then 1 else 0)) S
  | [.str x] => (match PySem.intText? x with
    | some n => if x.length ≤ 640 then .ok (.int n) S else .bad
    | none => .bad)
  | _ => .bad
def fStr : List D → SM D := fun l S => match l with
  | [.int i] => if i.natAbs.log2 < 1920 then .ok (.str (toString i)) S else .bad
  | _ => .bad
def lenD (S : Sr) : D → Option Nat
  | .str x => if x.length ≤ sizeLine then some x.length else none
  | .tup l => some l.length
  | .ktp l => some l.length
  | .fro l => some l.length
  | .gtp l => some l.length
  | .adr i => (match S.f i with
    | some (.lst l) => some l.length
    | some (.dic l) => some l.length
    | _ => none)
  | _ => none
def fLen : List D → SM D := fun l S => match l with
  | [d] => (match lenD S d with
    | some n => .ok (.int (n : Int)) S
    | none => .bad)
  | _ => .bad
def fTuple : List D → SM D := fun l S => match l with
  | [.tup l] => .ok (.tup l) S
  | [.ktp l] => .ok (.ktp l) S
  | [.gtp l] => .ok (.gtp l) S
  | [.fro l] => .ok (.tup l) S
  | [.adr i] => (match S.f i with
    | some (.lst l) => .ok (.tup l) S
    | _ => .bad)
  | _ => .bad
def fList : List D → SM D := fun l S => match l with
  | [d] => (match itemsD S d with
    | some l => .ok (.adr S.n) (S.alloc (.lst l))
    | none => .bad)
  | _ => .bad
theorem one_of {m : Nat → Addr} {n : Nat} {H : Hp} {d : D} {vs : List V} (r : RelDs c m n H [d] vs) : ∃ v, vs = [v] ∧ RelD c m n H d v := by
  obtain ⟨v, w, rfl, h, r2⟩ := rd_cons r
  rw [rd_nil r2]
  exact ⟨v, rfl, h⟩
theorem two_of {m : Nat → Addr} {n : Nat} {H : Hp} {d d' : D} {vs : List V} (r : RelDs c m n H [d, d'] vs) : ∃ v v', vs = [v, v'] ∧ RelD c m n H d v ∧ RelD c m n H d' v' := by
  obtain ⟨v, w, rfl, h, r2⟩ := rd_cons r
  obtain ⟨v', rfl, h2⟩ := one_of r2
  exact ⟨v, v', rfl, h, h2⟩
theorem snd_abs : SndA c (fun xs H Q => ∃ i, xs = [.int i] ∧ Q (.int (if i < 0 then -i else i)) H) fAbs := by
  intro E m S H Q l vs s r q
  unfold fAbs at q
  split at q
  · obtain ⟨v, rfl, h⟩ := one_of r
    rw [rd_int h]
    exact ⟨_, rfl, q m H _ (Nxt.refl s) mk_int⟩
  · exact q.elim
theorem snd_max2 : SndA c (fun xs H Q => ∃ i j, xs = [.int i, .int j] ∧ Q (.int (if j > i then j else i)) H) fMax2 := by
  intro E m S H Q l vs s r q
  unfold fMax2 at q
  split at q
  · obtain ⟨v, v', rfl, h, h'⟩ := two_of r
    rw [rd_int h, rd_int h']
    exact ⟨_, _, rfl, q m H _ (Nxt.refl s) mk_int⟩
  · exact q.elim
theorem snd_min2 : SndA c (fun xs H Q => ∃ i j, xs = [.int i, .int j] ∧ Q (.int (if j < i then j else i)) H) fMin2 := by
  intro E m S H Q l vs s r q
  unfold fMin2 at q
  split at q
  · obtain ⟨v, v', rfl, h, h'⟩ := two_of r
    rw [rd_int h, rd_int h']
    exact ⟨_, _, rfl, q m H _ (Nxt.refl s) mk_int⟩
  · exact q.elim
abbrev rIntA : List V → Hp → VK → Prop := fun xs H Q => (fun xs H Q => (∃ i, xs = [V.int i] ∧ Q (.int i) H) ∨ ∃ k, xs = [V.bl k] ∧ Q (.int (if k then 1 else 0)) H) xs H Q ∨ (fun xs H Q => ∃ (a : Str) (n : Int), xs = [V.str a] ∧ PySem.intText? a = some n ∧ a.length ≤ 640 ∧ Q (.int n) H) xs H Q
theorem call_intA : CallR X (.type "int") rIntA := CallR.or call_int1 call_int_str
theorem snd_int : SndA c rIntA fInt := by
  intro E m S H Q l vs s r q
  unfold fInt at q
  split at q
  · obtain ⟨v, rfl, h⟩ := one_of r
    rw [rd_int h]
    exact .inl (.inl ⟨_, rfl, q m H _ (Nxt.refl s) mk_int⟩)
  · obtain ⟨v, rfl, h⟩ := one_of r
    rw [rd_bl h]
    exact .inl (.inr ⟨_, rfl, q m H _ (Nxt.refl s) mk_int⟩)
  · obtain ⟨v, rfl, h⟩ := one_of r
    rw [rd_str h]
    split at q
    · rename_i n en
      obtain ⟨hl, q⟩ := po_if q
      exact .inr ⟨_, n, rfl, en, hl, q m H _ (Nxt.refl s) mk_int⟩
    · exact q.elim
  · exact q.elim
theorem snd_str : SndA c (fun xs H Q => ∃ i : Int, xs = [V.int i] ∧ i.natAbs.log2 < 1920 ∧ Q (.str (toString i)) H) fStr := by
  intro E m S H Q l vs s r q
  unfold fStr at q
  split at q
  · obtain ⟨v, rfl, h⟩ := one_of r
    rw [rd_int h]
    obtain ⟨hl, q⟩ := po_if q
    exact ⟨_, rfl, hl, q m H _ (Nxt.refl s) mk_str⟩
  · exact q.elim
abbrev rLenA (K : PySem.W.Frag) : List V → Hp → VK → Prop := fun xs H Q => (fun xs H Q => ∃ z : Str, xs = [V.str z] ∧ z.length ≤ sizeLine ∧ Q (.int z.length) H) xs H Q ∨ (fun xs H Q => (fun xs H Q => ∃ p ys, xs = [V.ref p] ∧ (SqL K H p ys ∨ SqT K H p ys) ∧ Q (.int ys.length) H) xs H Q ∨ (fun xs H Q => ∃ a kvs, xs = [V.ref a] ∧ H a = some (.dK kvs) ∧ Q (.int kvs.length) H) xs H Q) xs H Q
theorem call_lenA : CallR X (.builtin "len") (rLenA X.K) := CallR.or call_len_str (CallR.or call_len_seq call_lenD)
theorem snd_len : SndA c (rLenA c.K) fLen := by
  intro E m S H Q l vs s r q
  unfold fLen at q
  split at q
  · rename_i d
    obtain ⟨v, rfl, h⟩ := one_of r
    split at q
    · rename_i n en
      have fin := q m H _ (Nxt.refl s) mk_int
      cases d with
      | str x =>
        have en : (if x.length ≤ sizeLine then some x.length else none) = some n := en
        split at en
        · rename_i hl
          cases en
          rw [rd_str h]
          exact .inl ⟨_, rfl, hl, fin⟩
        · cases en
      | tup l =>
        cases en
        obtain ⟨a, vs, rfl, hh, rs⟩ := rd_tup h
        rw [rs.length] at fin
        exact .inr (.inl ⟨a, vs, rfl, .inr (.inl (.inl hh)), fin⟩)
      | ktp l =>
        cases en
        obtain ⟨a, vs, rfl, hh, rs⟩ := rd_ktp h
        rw [rs.length] at fin
        exact .inr (.inl ⟨a, vs, rfl, .inr hh.sq, fin⟩)
      | gtp l =>
        cases en
        obtain ⟨a, vs, rfl, hh, rs⟩ := rd_gtp h
        rw [rs.length] at fin
        exact .inr (.inl ⟨a, vs, rfl, .inr hh.sq, fin⟩)
      | fro l =>
        cases en
        obtain ⟨a, vs, rfl, hh, rs⟩ := rd_fro h
        rw [rs.length] at fin
        exact .inr (.inl ⟨a, vs, rfl, .inl hh.sq, fin⟩)
      | adr i =>
        obtain ⟨rfl, hi⟩ := rd_adr h
        have en : (match S.f i with
          | some (.lst l) => some l.length
          | some (.dic l) => some l.length
          | _ => none) = some n := en
        split at en
        · rename_i l el
          cases en
          obtain ⟨vs, hh, rs⟩ := s.lst el
          rw [rs.length] at fin
          exact .inr (.inl ⟨_, vs, rfl, .inl (.inl (.inl hh)), fin⟩)
        · rename_i l el
          cases en
          obtain ⟨vs, hh, rs⟩ := s.dic el
          rw [rs.length] at fin
          exact .inr (.inr ⟨_, vs, rfl, hh, fin⟩)
        · cases en
      | _ => cases en
    · exact q.elim
  · exact q.elim
theorem snd_tuple : SndA c (fun xs H Q => ∃ p ys, xs = [V.ref p] ∧ ((SqL c.K H p ys ∧ ∀ l, H l = none → Q (.ref l) (upd H l (.tup ys))) ∨ (SqT c.K H p ys ∧ Q (.ref p) H))) fTuple := by
  intro E m S H Q l vs s r q
  unfold fTuple at q
  split at q
  · obtain ⟨v, rfl, h⟩ := one_of r
    have fin := q m H _ (Nxt.refl s) h
    obtain ⟨a, vs, rfl, hh, rs⟩ := rd_tup h
    exact ⟨a, vs, rfl, .inr ⟨.inl (.inl hh), fin⟩⟩
  · obtain ⟨v, rfl, h⟩ := one_of r
    have fin := q m H _ (Nxt.refl s) h
    obtain ⟨a, vs, rfl, hh, rs⟩ := rd_ktp h
    exact ⟨a, vs, rfl, .inr ⟨hh.sq, fin⟩⟩
  · obtain ⟨v, rfl, h⟩ := one_of r
    have fin := q m H _ (Nxt.refl s) h
    obtain ⟨a, vs, rfl, hh, rs⟩ := rd_gtp h
    exact ⟨a, vs, rfl, .inr ⟨hh.sq, fin⟩⟩
  · obtain ⟨v, rfl, h⟩ := one_of r
    obtain ⟨a, vs, rfl, hh, rs⟩ := rd_fro h
    exact ⟨a, vs, rfl, .inl ⟨hh.sq, giveT s rs q⟩⟩
  · obtain ⟨v, rfl, h⟩ := one_of r
    obtain ⟨rfl, hi⟩ := rd_adr h
    split at q
    · rename_i l el
      obtain ⟨vs, hh, rs⟩ := s.lst el
      exact ⟨_, vs, rfl, .inl ⟨.inl (.inl hh), giveT s rs q⟩⟩
    · exact q.elim
  · exact q.elim
theorem snd_list : SndA c (fun xs H Q => ∃ p ys, xs = [V.ref p] ∧ (SqL c.K H p ys ∨ SqT c.K H p ys) ∧ ∀ l, H l = none → Q (.ref l) (upd H l (.lst ys))) fList := by
  intro E m S H Q l vs s r q
  unfold fList at q
  split at q
  · obtain ⟨v, rfl, h⟩ := one_of r
    split at q
    · rename_i l el
      obtain ⟨a, vs, rfl, hq, rs⟩ := items_of s h el
      exact ⟨a, vs, rfl, hq, giveO (x := .lst l) s ⟨_, rfl, rs⟩ q⟩
    · exact q.elim
  · exact q.elim
/-- isinstance(e, T), T a built-in class's name -/
def tyD (S : Sr) : D → Option String
  | .non => some "NoneType"
  | .bl _ => some "bool"
  | .int _ => some "int"
  | .str _ => some "str"
  | .tup _ => some "tuple"
  | .adr i => (match S.f i with
    | some (.lst _) => some "list"
    | some (.dic _) => some "dict"
    | some (.dit _) => some "dict"
    | _ => none)
  | _ => none
def fIsi (T : String) : D → SM D := fun d S => match tyD S d with
  | some t => (match kitB t T with
    | some b => .ok (.bl b) S
    | none => .bad)
  | none => .bad
theorem tyD_of {m : Nat → Addr} {S : Sr} {H : Hp} {d : D} {v : V} {t : String} (s : Sim c m S H) (r : RelD c m S.n H d v) (e : tyD S d = some t) : TyX c.K H v (.type t) := by
  cases d with
  | non => cases e; rw [rd_non r]; exact .base .non
  | bl b => cases e; rw [rd_bl r]; exact .base (.bl b)
  | int b => cases e; rw [rd_int r]; exact .base (.int b)
  | str b => cases e; rw [rd_str r]; exact .base (.str b)
  | tup l => cases e; obtain ⟨a, vs, rfl, h, _⟩ := rd_tup r; exact .base (.tup h)
  | adr i =>
    obtain ⟨rfl, hi⟩ := rd_adr r
    have e : (match S.f i with
      | some (.lst _) => some "list"
      | some (.dic _) => some "dict"
      | some (.dit _) => some "dict"
      | _ => none) = some t := e
    split at e
    · rename_i l el
      cases e
      obtain ⟨vs, h, _⟩ := s.lst el
      exact .base (.lst h)
    · rename_i l el
      cases e
      obtain ⟨vs, h, _⟩ := s.dic el
      exact .base (.dK h)
    · rename_i l el
      cases e
      obtain ⟨vs, h, _⟩ := s.dit el
      exact .base (.dT h)
    · cases e
  | _ => cases e
theorem qe_isi {a b : Expr} {ma : ME} {T : String} {x : Str} {p pos : Pos} (hK : X.K = c.K) (hg : Gl X x) (hm : X.mg x = none) (hv : bootBuiltins x = some (.builtin "isinstance")) (ha : PE X a (rdE c E ma)) (hb : PE X b (tC (.ty T)))
    (hn : x ≠ "__name__" := by decide) (hdb : (x == ("__debug__" : Str)) = false := by decide)
    (he : starEach (a :: [b]) X.env = (false, eval a X.env) :: starEach [b] X.env := by rfl) (he2 : starEach [b] X.env = (false, eval b X.env) :: starEach [] X.env := by rfl) (hpl : (backTo pos (starEach [b] X.env)).any (·.1) = false := by rfl) : PE X (.Call (.Name x p) [a, b] [] pos) (rdE c E (mU (fIsi T) ma)) :=
  PE.imp (pe_callB call_isi hg hm hv (pa_cons ha (pa_cons hb pa_nil he2) he) hn hdb he hpl) fun σ H Q ⟨m, S, g, s, rg, q⟩ => seqE s rg q fun m1 S1 H1 d v a r q1 => by
    unfold fIsi at q1
    split at q1
    · rename_i t et
      split at q1
      · rename_i k ek
        refine ⟨v, .ty T, .type t, .type T, k, rfl, .ty T, ?_, kit_ty ek, q1 m1 H1 _ (Nxt.refl a.sim) mk_bl⟩
        rw [hK]
        exact tyD_of a.sim r et
      · exact q1.elim
    · exact q1.elim
/-! ### attributes -/
structure Att (c : Ct) (K : PySem.W.Frag) (qs : List Str) (f : Str) : Prop where
  cl : ∀ q ∈ qs, Cls K (c.cls q)
  no : ∀ q ∈ qs, NoAttr K (c.cls q) f
def mAttr (qs : List Str) (f : Str) (a : ME) : ME := fun g => SM.bind (a g) fun d S => match d with
  | .adr i => (match S.f i with
    | some (.ins q fs) => if q ∈ qs then (match fs.lookup f with
      | some d => .ok d S
      | none => .bad) else .bad
    | _ => .bad)
  | _ => .bad
theorem RelK.lookup {m : Nat → Addr} {n : Nat} {H : Hp} (f : Str) : ∀ {l : List (Str × D)} {vs : List (Str × V)}, RelK c m n H l vs → (l.lookup f = none ∧ vs.lookup f = none) ∨ ∃ d v, l.lookup f = some d ∧ vs.lookup f = some v ∧ RelD c m n H d v
  | [], _, h => by rw [rk_nil h]; exact .inl ⟨rfl, rfl⟩
  | p :: l, _, h => by
    obtain ⟨v, r, rfl, h1, h2⟩ := rk_cons h
    by_cases e : f = p.1
    · have hb : (f == p.1) = true := beq_iff_eq.mpr e
      refine .inr ⟨p.2, v, ?_, ?_, h1⟩
      · obtain ⟨p1, p2⟩ := p
        simp only [List.lookup, hb]
      · simp only [List.lookup, hb]
    · have hb : (f == p.1) = false := beq_eq_false_iff_ne.mpr e
      have e1 : (p :: l).lookup f = l.lookup f := by
        obtain ⟨p1, p2⟩ := p
        simp only [List.lookup, hb]
      have e2 : ((p.1, v) :: r).lookup f = r.lookup f := by
        simp only [List.lookup, hb]
      rw [e1, e2]
      exact RelK.lookup f h2
theorem qe_attr {e : Expr} {f : Str} {qs : List Str} {ma : ME} {pos : Pos} (A : Att c X.K qs f) (h : PE X e (rdE c E ma)) (hb : attributeBase e f X.env (eval e X.env) = eval e X.env) : PE X (.Attribute e f pos) (rdE c E (mAttr qs f ma)) :=
  PE.imp (pe_fld h hb) fun σ H Q ⟨m, S, g, s, rg, q⟩ => seqE s rg q fun m1 S1 H1 d v a r q1 => by
    cases d <;> first | exact (show False from q1).elim | skip
    obtain ⟨rfl, hi⟩ := rd_adr r
    dsimp only at q1
    split at q1
    · rename_i q fs ef
      obtain ⟨hq, q1⟩ := po_if q1
      obtain ⟨dx, vs, hh, rk⟩ := a.sim.ins ef
      rcases rk.lookup f with ⟨e1, _⟩ | ⟨d, v, e1, e2, r1⟩
      · rw [e1] at q1
        exact q1.elim
      · rw [e1] at q1
        exact ⟨_, _, dx, vs, v, rfl, hh, A.cl q hq, A.no q hq, e2, q1 m1 H1 v (Nxt.refl a.sim) r1⟩
    · exact q1.elim
/-! ### calls of own defs -/
/-- what a def of so many parameters promises: the mirror's answer -/
def spOf (c : Ct) (n : Nat) (f : List D → SM D) : Sp := fun vs H Q E => vs.length = n ∧ ∃ m S l, Sim c m S H ∧ RelDs c m S.n H l vs ∧ PoE c E m S H Q (f l S)
/-- a def: the module's name x, its parameters, the mirror's defaults that fill up -/
structure Gfn (P : Program) (w : World) (K : PySem.W.Frag) (mg : Str → Option Value) (base : Heap) (c : Ct) (k : Nat) (x : Str) (n : Nat) (dd : List D) (mf : List D → SM D) : Prop where
  ex : ∃ f fd ps ds dvs, FnOk P w K mg base (L2.CX P w) k f fd ps (spOf c n mf) ∧ mg x = some (.ref f) ∧ PySem.W.keepIn K (.ref f) = true ∧ Binds K fd ps ds ∧ Vals dvs ds ∧ ∀ m n H, RelDs c m n H dd dvs
def mCall (mf : List D → SM D) (n : Nat) (dd : List D) (a : MA) : ME := fun g => SM.bind (a g) fun l => if l.length + dd.length = n then mf (l ++ dd) else fun _ => .bad
theorem tCall_of {n : Nat} {mf : List D → SM D} {dd : List D} {dvs : List V} {ma : MA} (hd : ∀ m n H, RelDs c m n H dd dvs) (σ : L2.St) (H : Hp) (Q : VK) (h : rdE c E (mCall mf n dd ma) σ H Q) : tCall (spOf c n mf) dvs E (rdA c E ma) σ H Q := by
  obtain ⟨m, S, g, s, rg, q⟩ := h
  refine seqEA s rg q fun m1 S1 H1 l vs a rs q1 => ?_
  by_cases hl : l.length + dd.length = n
  · rw [if_pos hl] at q1
    have rd := hd m1 S1.n H1
    exact ⟨by rw [List.length_append, ← rs.length, ← rd.length]; exact hl, m1, S1, l ++ dd, a.sim, rs.append rd, q1⟩
  · rw [if_neg hl] at q1
    exact q1.elim
theorem qe_call {k n : Nat} {x : Str} {dd : List D} {mf : List D → SM D} {p pos : Pos} {e : Expr} {es : List Expr} {ma : MA} (G : Gfn X.prog X.w X.K X.mg X.base c k x n dd mf) (hr : Room k X.A) (hg : Gl X x) (hx : Passes (L2.CX X.prog X.w) X E) (ha : PA X (e :: es) (rdA c E ma))
    (hdb : (x == ("__debug__" : Str)) = false := by decide) (he : starEach (e :: es) X.env = (false, eval e X.env) :: starEach es X.env := by rfl) (hpl : (backTo pos (starEach es X.env)).any (·.1) = false := by rfl) : PE X (.Call (.Name x p) (e :: es) [] pos) (rdE c E (mCall mf n dd ma)) := by
  obtain ⟨f, fd, ps, ds, dvs, F, h1, h2, h3, h4, h5⟩ := G.ex
  exact PE.imp (pe_call F hr hg h1 h2 h3 h4 hx ha hdb he hpl) (tCall_of h5)
/-- a class's method -/
structure Gm' (P : Program) (w : World) (K : PySem.W.Frag) (mg : Str → Option Value) (base : Heap) (c : Ct) (k : Nat) (q x : Str) (n : Nat) (dd : List D) (mf : List D → SM D) : Prop where
  cl : Cls K (c.cls q)
  ex : ∃ f fd ps ds dvs, FnOk P w K mg base (L2.CX P w) k f fd ps (spOf c n mf) ∧ Meth K (c.cls q) x f ∧ Binds K fd ps ds ∧ Vals dvs ds ∧ ∀ m n H, RelDs c m n H dd dvs
def mMeth (q x : Str) (mf : List D → SM D) (n : Nat) (dd : List D) (o : ME) (a : MA) : ME := fun g => SM.bind (o g) fun d S => match d with
  | .adr i => (match S.f i with
    | some (.ins q' fs) => if q' = q ∧ fs.lookup x = none then SM.bind (a g) (fun l => if 1 + l.length + dd.length = n then mf (.adr i :: (l ++ dd)) else fun _ => .bad) S else .bad
    | _ => .bad)
  | _ => .bad
theorem tMeth_of {n : Nat} {q x : Str} {mf : List D → SM D} {dd : List D} {dvs : List V} {mo : ME} {ma : MA} (hd : ∀ m n H, RelDs c m n H dd dvs) (σ : L2.St) (H : Hp) (Q : VK) (h : rdE c E (mMeth q x mf n dd mo ma) σ H Q) : tMeth (c.cls q) x (spOf c n mf) dvs E (rdE c E mo) (rdA c E ma) σ H Q := by
  obtain ⟨m, S, g, s, rg, q0⟩ := h
  refine seqE s rg q0 fun m1 S1 H1 d v a r q1 => ?_
  cases d <;> first | exact (show False from q1).elim | skip
  rename_i i
  have r0 := r
  obtain ⟨rfl, hi⟩ := rd_adr r
  dsimp only at q1
  split at q1
  · rename_i q' fs ef
    obtain ⟨hq, q5⟩ := po_if q1
    obtain ⟨rfl, hl⟩ := hq
    obtain ⟨dx, vs, hh, rk⟩ := a.sim.ins ef
    refine ⟨m1 i, dx, vs, rfl, hh, ?_, ?_⟩
    · rcases rk.lookup x with ⟨_, e2⟩ | ⟨d, v, e1, _, _⟩
      · exact e2
      · rw [hl] at e1
        cases e1
    · refine seqEA a.sim (a.relG rg) q5 fun m2 S2 H2 l ws b rs q2 => ?_
      by_cases hl : 1 + l.length + dd.length = n
      · rw [if_pos hl] at q2
        have rd := hd m2 S2.n H2
        exact ⟨by rw [List.length_cons, List.length_append, ← rs.length, ← rd.length]; omega, m2, S2, _, b.sim, mk_cons (b.relD r0) (rs.append rd), q2⟩
      · rw [if_neg hl] at q2
        exact q2.elim
  · exact q1.elim
theorem qe_meth {k n : Nat} {q x : Str} {dd : List D} {mf : List D → SM D} {apos pos : Pos} {o e : Expr} {es : List Expr} {mo : ME} {ma : MA} {pl : Sem Bool} (G : Gm' X.prog X.w X.K X.mg X.base c k q x n dd mf) (hr : Room k X.A) (hx : Passes (L2.CX X.prog X.w) X E) (ho : PE X o (rdE c E mo)) (ha : PA X (e :: es) (rdA c E ma))
    (hst : starEach (e :: es) X.env = (false, eval e X.env) :: starEach es X.env := by rfl) (hpl : (backTo pos (starEach es X.env)).any (·.1) = false := by rfl)
    (ht : eval (.Call (.Attribute o x apos) (e :: es) [] pos) X.env = (do
      let ov ← eval o X.env
      standAt apos.atName
      let (f, first) ← holding [ov] (getMethod ov x pl)
      callWith pos f first (backTo pos (starEach (e :: es) X.env)) (backToKw pos (keywordEach [] X.env))) := by rfl) :
    PE X (.Call (.Attribute o x apos) (e :: es) [] pos) (rdE c E (mMeth q x mf n dd mo ma)) := by
  obtain ⟨f, fd, ps, ds, dvs, F, h1, h3, h4, h5⟩ := G.ex
  exact PE.imp (pe_meth ho G.cl h1 F hr h3 h4 hx ha hst hpl ht) (tMeth_of h5)
theorem qe_meth0 {k n : Nat} {q x : Str} {dd : List D} {mf : List D → SM D} {apos pos : Pos} {o : Expr} {mo : ME} {pl : Sem Bool} (G : Gm' X.prog X.w X.K X.mg X.base c k q x n dd mf) (hr : Room k X.A) (hx : Passes (L2.CX X.prog X.w) X E) (ho : PE X o (rdE c E mo))
    (ht : eval (.Call (.Attribute o x apos) [] [] pos) X.env = (do
      let ov ← eval o X.env
      standAt apos.atName
      let (f, first) ← holding [ov] (getMethod ov x pl)
      callWith pos f first (backTo pos (starEach [] X.env)) (backToKw pos (keywordEach [] X.env))) := by rfl) :
    PE X (.Call (.Attribute o x apos) [] [] pos) (rdE c E (mMeth q x mf n dd mo mNil)) := by
  obtain ⟨f, fd, ps, ds, dvs, F, h1, h3, h4, h5⟩ := G.ex
  refine PE.imp (pe_meth0 ho G.cl h1 F hr h3 h4 hx ht) fun σ H Q h => ?_
  have z := tMeth_of h5 σ H Q h
  unfold tMeth at z ⊢
  obtain ⟨m, S, g, s, rg, q0⟩ := z
  refine ⟨m, S, g, s, rg, ?_⟩
  cases e : mo g S with
  | ok d S1 =>
    rw [e] at q0
    intro m1 H1 v a r
    obtain ⟨p, dx, fs, e1, e2, e3, mm, SS, gg, ss, rr, q3⟩ := q0 m1 H1 v a r
    exact ⟨p, dx, fs, e1, e2, e3, q3 mm H1 [] (Nxt.refl ss) mk_nil⟩
  | exc p S1 =>
    rw [e] at q0
    exact q0
  | bad =>
    rw [e] at q0
    exact q0
/-- a class made -/
structure Gk (P : Program) (w : World) (K : PySem.W.Frag) (mg : Str → Option Value) (base : Heap) (c : Ct) (k : Nat) (q : Str) (n : Nat) (dd : List D) (mf : List D → SM D) : Prop where
  gl : mg q = some (.ref (c.cls q))
  ex : ∃ f fd ps ds dvs, FnOk P w K mg base (L2.CX P w) k f fd ps (spOf c n mf) ∧ Mk K (c.cls q) f ∧ Binds K fd ps ds ∧ Vals dvs ds ∧ ∀ m n H, RelDs c m n H dd dvs
def mMake (q : Str) (mf : List D → SM D) (n : Nat) (dd : List D) (a : MA) : ME := fun g => SM.bind (a g) fun l S => if 1 + l.length + dd.length = n then SM.bind (mf (.adr S.n :: (l ++ dd))) (fun r S' => match r with
  | .non => .ok (.adr S.n) S'
  | _ => .bad) (S.alloc (.ins q [])) else .bad
theorem tMake_of {n : Nat} {q : Str} {mf : List D → SM D} {dd : List D} {dvs : List V} {ma : MA} (hd : ∀ m n H, RelDs c m n H dd dvs) (σ : L2.St) (H : Hp) (Q : VK) (h : rdE c E (mMake q mf n dd ma) σ H Q) : tMake (c.cls q) (spOf c n mf) dvs E (rdA c E ma) σ H Q := by
  obtain ⟨m, S, g, s, rg, q0⟩ := h
  refine seqEA s rg q0 fun m1 S1 H1 l vs a rs q1 => ?_
  obtain ⟨hl, q1⟩ := po_if q1
  intro x dx hx hdx ne
  have a1 : Nxt c m1 S1 H1 m1 S1 (upd H1 dx (.own x)) := Nxt.fresh a.sim hdx
  have hx' : (upd H1 dx (.own x)) x = none := by rw [upd_ne (Ne.symm ne)]; exact hx
  have a2 := Nxt.alloc (x := .ins q []) (o := .ins (c.cls q) dx []) a1.sim hx' ⟨dx, [], rfl, mkk_nil⟩
  have a3 := a1.trans a.sim a2
  have q2 := PoE.go a.sim a3 q1
  have rs' := a3.relDs rs
  have rd := hd (ext m1 S1.n x) (S1.n + 1) (upd (upd H1 dx (.own x)) x (.ins (c.cls q) dx []))
  have e0 := mk_adr (c := c) (m := ext m1 S1.n x) (n := S1.n + 1) (H := upd (upd H1 dx (.own x)) x (.ins (c.cls q) dx [])) (i := S1.n) (Nat.lt_succ_self _)
  rw [ext_same] at e0
  refine ⟨by rw [List.length_cons, List.length_append, ← rs.length, ← rd.length]; omega, ext m1 S1.n x, S1.alloc (.ins q []), _, a2.sim, mk_cons e0 (rs'.append rd), ?_⟩
  unfold SM.bind at q2
  cases e : mf (.adr S1.n :: (l ++ dd)) (S1.alloc (.ins q [])) with
  | ok r S2 =>
    rw [e] at q2
    intro m3 H3 v b rv
    cases r <;> first | exact (show False from q2).elim | skip
    refine ⟨rd_non rv, q2 m3 H3 _ b ?_⟩
    exact b.relD e0
  | exc p S2 =>
    rw [e] at q2
    exact q2
  | bad =>
    rw [e] at q2
    exact q2
theorem qe_make {k n : Nat} {q : Str} {dd : List D} {mf : List D → SM D} {p pos : Pos} {e : Expr} {es : List Expr} {ma : MA} (G : Gk X.prog X.w X.K X.mg X.base c k q n dd mf) (hr : Room (k + 1) X.A) (hg : Gl X q) (hx : Passes (L2.CX X.prog X.w) X E) (ha : PA X (e :: es) (rdA c E ma))
    (hdb : (q == ("__debug__" : Str)) = false := by decide) (he : starEach (e :: es) X.env = (false, eval e X.env) :: starEach es X.env := by rfl) (hpl : (backTo pos (starEach es X.env)).any (·.1) = false := by rfl) : PE X (.Call (.Name q p) (e :: es) [] pos) (rdE c E (mMake q mf n dd ma)) := by
  obtain ⟨f, fd, ps, ds, dvs, F, h2, h3, h4, h5⟩ := G.ex
  exact PE.imp (pe_make h2 F hr hg G.gl h3 h4 hx ha hdb he hpl) (tMake_of h5)
theorem qe_make0 {k n : Nat} {q : Str} {dd : List D} {mf : List D → SM D} {p pos : Pos} (G : Gk X.prog X.w X.K X.mg X.base c k q n dd mf) (hr : Room (k + 1) X.A) (hg : Gl X q) (hx : Passes (L2.CX X.prog X.w) X E)
    (hdb : (q == ("__debug__" : Str)) = false := by decide) : PE X (.Call (.Name q p) [] [] pos) (rdE c E (mMake q mf n dd mNil)) := by
  obtain ⟨f, fd, ps, ds, dvs, F, h2, h3, h4, h5⟩ := G.ex
  refine PE.imp (pe_make0 h2 F hr hg G.gl h3 h4 hx hdb) fun σ H Q h => ?_
  obtain ⟨m, S, g, s, rg, q3⟩ := tMake_of h5 σ H Q h
  exact q3 m H [] (Nxt.refl s) mk_nil
end
end Y

set_option Elab.async false
set_option linter.all false
set_option maxRecDepth 100000
set_option maxHeartbeats 1000000
/-! Y7: statements, loops, comprehensions. -/
namespace Y
open PySem PySem.Spec PyProof.Rows L2
/-! ### blocks -/
def mSeq (a b : MS) : MS := fun g S => match a g S with
  | .nx g' S' => b g' S'
  | r => r
def mPass : MS := fun g S => .nx g S
def mBrk : MS := fun g S => .bk g S
def mCnt : MS := fun g S => .ct g S
def mDrop (a : ME) : MS := fun g S => toRS (a g S) fun _ S' => .nx g S'
def mRet (a : ME) : MS := fun g S => toRS (a g S) fun d S' => .rt d S'
def mRetN : MS := fun _ S => .rt .non S
def mIfS (t : MT) (a b : MS) : MS := fun g S => toRST (t g S) fun k S' => if k = true then a g S' else b g S'
def mRaise (q : Str) : MS := fun _ S => .ex q S
def mSet (i : Nat) (a : ME) : MS := fun g S => toRS (a g S) fun d S' => .nx (g.set i (some d)) S'
section
variable {X : Cx} {c : Ct} {E : XK} {m : Nat → Addr} {S : Sr} {H : Hp} {g : Gm} {σ : L2.St}
theorem PoS.seq {a b : MS} {Z : Ends} (s : Sim c m S H) (h : PoS c E m S H Z (mSeq a b g S)) : PoS c E m S H { Z with nx := rdS c E b Z } (a g S) := by
  unfold mSeq at h
  cases e : a g S with
  | nx g' S' =>
    rw [e] at h
    exact fun m' H' σ' n r => ⟨m', S', g', n.sim, r, PoS.go s n h⟩
  | rt d S' => rw [e] at h; exact h
  | bk g' S' => rw [e] at h; exact h
  | ct g' S' => rw [e] at h; exact h
  | ex q S' => rw [e] at h; exact h
  | bad => rw [e] at h; exact h
theorem qss_nil : PSs X [] (rdS c E mPass) := PSs.imp pss_nil fun Z σ H ⟨m, S, g, s, rg, q⟩ => q m H σ (Nxt.refl s) rg
theorem qss_cons {st : Stmt} {rest : List Stmt} {a b : MS} (h1 : PS X st (rdS c E a)) (h2 : PSs X rest (rdS c E b)) : PSs X (st :: rest) (rdS c E (mSeq a b)) :=
  PSs.imp (pss_cons h1 h2) fun Z σ H ⟨m, S, g, s, rg, q⟩ => ⟨m, S, g, s, rg, PoS.seq s q⟩
theorem qss_one {st : Stmt} {a : MS} (h1 : PS X st (rdS c E a)) : PSs X [st] (rdS c E a) := pss_one h1
theorem qs_pass {pos : Pos} : PS X (.Pass pos) (rdS c E mPass) := PS.imp ps_pass fun Z σ H ⟨m, S, g, s, rg, q⟩ => q m H σ (Nxt.refl s) rg
theorem qs_brk {pos : Pos} : PS X (.Break pos) (rdS c E mBrk) := PS.imp ps_break fun Z σ H ⟨m, S, g, s, rg, q⟩ => q m H σ (Nxt.refl s) rg
theorem qs_cnt {pos : Pos} : PS X (.Continue pos) (rdS c E mCnt) := PS.imp ps_continue fun Z σ H ⟨m, S, g, s, rg, q⟩ => q m H σ (Nxt.refl s) rg
theorem qs_expr {e : Expr} {ma : ME} {pos : Pos} (h : PE X e (rdE c E ma)) (hs : swapsWith e none pos.line X.env = pure false := by rfl) : PS X (.Expr e pos) (rdS c E (mDrop ma)) :=
  PS.imp (ps_expr h hs) fun Z σ H ⟨m, S, g, s, rg, q⟩ => seqSE s rg q fun m1 S1 H1 d v a r q1 => q1 m1 H1 σ (Nxt.refl a.sim) (a.relG rg)
theorem qs_ret {e : Expr} {ma : ME} {pos : Pos} (h : PE X e (rdE c E ma)) : PS X (.Return (some e) pos) (rdS c E (mRet ma)) :=
  PS.imp (ps_ret h) fun Z σ H ⟨m, S, g, s, rg, q⟩ => seqSE s rg q fun m1 S1 H1 d v a r q1 => q1 m1 H1 v (Nxt.refl a.sim) r
theorem qs_retN {pos : Pos} : PS X (.Return none pos) (rdS c E mRetN) := PS.imp ps_retN fun Z σ H ⟨m, S, g, s, rg, q⟩ => q m H _ (Nxt.refl s) mk_non
theorem qs_if {t : Expr} {a b : List Stmt} {mt : MT} {ma mb : MS} {pos : Pos} (ht : PT X t (rdT c E mt)) (ha : PSs X a (rdS c E ma)) (hb : PSs X b (rdS c E mb)) : PS X (.If t a b pos) (rdS c E (mIfS mt ma mb)) :=
  PS.imp (ps_if ht ha hb) fun Z σ H ⟨m, S, g, s, rg, q⟩ => seqST s rg q fun m1 S1 H1 k a q1 => by
    cases k with
    | true => exact ⟨m1, S1, g, a.sim, a.relG rg, q1⟩
    | false => exact ⟨m1, S1, g, a.sim, a.relG rg, q1⟩
/-- raise X('..') -/
structure Exo (K : PySem.W.Frag) (mg : Str → Option Value) (c : Ct) (q : Str) : Prop where
  gl : mg q = some (.ref (c.cls q))
  ex : PySem.W.excIn K (c.cls q) [.type "ValueError", .type "Exception", .type "BaseException", .type "object"] "ValueError.__new__" = true
  kp : PySem.W.keepIn K (.ref (c.cls q)) = true
  sb : PySem.W.subIn K (.ref (c.cls q)) (.type "BaseException") = some true
  ty : PySem.W.typeIn K (.ref (c.cls q)) = some (.type "type")
theorem qs_raise {q x : Str} {j : Nat} {p p2 p3 pos : Pos} (F : Exo X.K X.mg c q) (hc : X.calm = true) (tk : Takes X (fun cls d _ H => E cls d H)) (hg : Gl X q) (hdb : (q == ("__debug__" : Str)) = false := by decide) : PS X (.Raise (some (.Call (.Name q p) [.Constant (.str x) j p2] [] p3)) none pos) (rdS c E (mRaise q)) :=
  PS.imp (ps_raise hc tk (pmk_own PySem.F.excBase_ValueError F.ex F.gl F.kp (raises_own F.sb F.ty) hg hdb)) fun Z σ H ⟨m, S, g, s, rg, h⟩ => h m H (Nxt.refl s)
/-! ### assignments -/
theorem RelG.set {n : Nat} {d : D} {v : V} (i : Nat) (rg : RelG c m n H g σ) (r : RelD c m n H d v) : RelG c m n H (g.set i (some d)) (σ.set i (some v)) := by
  refine ⟨by rw [List.length_set, List.length_set]; exact rg.1, fun j x e => ?_⟩
  by_cases h : i = j
  · subst h
    by_cases hl : i < g.length
    · rw [List.getElem?_set_self hl] at e
      have e2 : d = x := Option.some.inj (Option.some.inj e)
      subst e2
      exact ⟨v, List.getElem?_set_self (by rw [← rg.1]; exact hl), r⟩
    · rw [List.getElem?_eq_none (by rw [List.length_set]; omega)] at e
      cases e
  · rw [List.getElem?_set_ne h] at e
    obtain ⟨w, e1, r1⟩ := rg.2 j x e
    exact ⟨w, by rw [List.getElem?_set_ne h]; exact e1, r1⟩
theorem qs_set {i : Nat} {x : Str} {e : Expr} {ma : ME} {pos pos' : Pos} (hN : X.N.Nodup) (hi : X.N[i]? = some x) (hx : Loc X.env.scope x) (h : PE X e (rdE c E ma)) (hs : swapsWith e (some (.Name x pos')) pos.line X.env = pure false := by rfl) (hf : X.fn x = true ∨ X.env.scope.names.lookup x = some .local := by first | exact .inl rfl | exact .inr rfl | assumption) :
    PS X (.Assign [.Name x pos'] e pos) (rdS c E (mSet i ma)) :=
  PS.imp (ps_set hN hi hx h hs hf) fun Z σ H ⟨m, S, g, s, rg, q⟩ => seqSE s rg q fun m1 S1 H1 d v a r q1 => q1 m1 H1 _ (Nxt.refl a.sim) ((a.relG rg).set i r)
/-- targets in general -/
abbrev MG := D → MS
def PoG (c : Ct) (E : XK) (m : Nat → Addr) (S : Sr) (H : Hp) (Q : L2.St → Hp → Prop) : RS → Prop
  | .nx g S' => ∀ m' H' σ', Nxt c m S H m' S' H' → RelG c m' S'.n H' g σ' → Q σ' H'
  | .ex q S' => ∀ m' H', Nxt c m S H m' S' H' → E (.ref (c.cls q)) none H'
  | _ => False
def rdG (c : Ct) (E : XK) (x : MG) : TG := fun v σ H Q => ∃ m S g d, Sim c m S H ∧ RelG c m S.n H g σ ∧ RelD c m S.n H d v ∧ PoG c E m S H Q (x d g S)
def rdGs (c : Ct) (E : XK) (x : List D → MS) : TGs := fun vs σ H Q => ∃ m S g l, Sim c m S H ∧ RelG c m S.n H g σ ∧ RelDs c m S.n H l vs ∧ PoG c E m S H Q (x l g S)
theorem PG.imp {e : Expr} {t t' : TG} (h : PG X e t) (i : ∀ v σ H Q, t' v σ H Q → t v σ H Q) : PG X e t' := ⟨fun pins s σ H v u Q I r q => h.run pins s σ H v u Q I r (i v σ H Q q)⟩
theorem PGs.imp {e : List Expr} {t t' : TGs} (h : PGs X e t) (i : ∀ v σ H Q, t' v σ H Q → t v σ H Q) : PGs X e t' := ⟨fun pins s σ H v u Q I r q => h.run pins s σ H v u Q I r (i v σ H Q q)⟩
theorem PoG.go {m1 : Nat → Addr} {S1 : Sr} {H1 : Hp} (s : Sim c m S H) (a : Nxt c m S H m1 S1 H1) {Q : L2.St → Hp → Prop} {r : RS} (h : PoG c E m S H Q r) : PoG c E m1 S1 H1 Q r := by
  cases r with
  | nx g S' => exact fun m' H' v b r => h m' H' v (a.trans s b) r
  | ex q S' => exact fun m' H' b => h m' H' (a.trans s b)
  | _ => exact h
def gNm (i : Nat) : MG := fun d g S => .nx (g.set i (some d)) S
theorem qg_name {i : Nat} {x : Str} {pos : Pos} (hN : X.N.Nodup) (hi : X.N[i]? = some x) (hx : Loc X.env.scope x) (hf : X.fn x = true ∨ X.env.scope.names.lookup x = some .local := by first | exact .inl rfl | exact .inr rfl | assumption) : PG X (.Name x pos) (rdG c E (gNm i)) :=
  PG.imp (pg_name hN hi hx hf) fun v σ H Q ⟨m, S, g, d, s, rg, r, q⟩ => q m H _ (Nxt.refl s) (rg.set i r)
theorem seqGE {x : ME} {k : D → Sr → RS} {Q : L2.St → Hp → Prop} {QQ : VK} (s : Sim c m S H) (rg : RelG c m S.n H g σ) (h : PoG c E m S H Q (toRS (x g S) k))
    (hk : ∀ m1 S1 H1 d v, Nxt c m S H m1 S1 H1 → RelD c m1 S1.n H1 d v → PoG c E m1 S1 H1 Q (k d S1) → QQ v H1) : rdE c E x σ H QQ := by
  refine ⟨m, S, g, s, rg, ?_⟩
  cases e : x g S with
  | ok d S1 =>
    rw [e] at h
    exact fun m1 H1 v a r => hk m1 S1 H1 d v a r (PoG.go s a h)
  | exc q S1 =>
    rw [e] at h
    exact h
  | bad =>
    rw [e] at h
    exact h
def gSub' (o i : ME) : MG := fun d g S => toRS (o g S) fun ov S1 => toRS (i g S1) fun iv S2 => match putAt ov iv d S2 with
  | some S3 => .nx g S3
  | none => .bad
theorem qg_sub {o i : Expr} {mo mi : ME} {pos : Pos} (hu : X.A.units + 1 < cLine) (ho : PE X o (rdE c E mo)) (hi : PE X i (rdE c E mi)) (ha : ∀ v, assign (.Subscript o i pos) X.env v = (do
      let ov ← holding [v] (eval o X.env)
      let iv ← holding [v, ov] (eval i X.env)
      standAt pos
      holding [v, ov, iv] (setItem ov iv v)
      release [v, ov, iv] []) := by intro _; rfl) : PG X (.Subscript o i pos) (rdG c E (gSub' mo mi)) :=
  PG.imp (pg_sub ho hi (set_A hu) ha) fun v σ H Q ⟨m, S, g, d, s, rg, r, q⟩ => seqGE s rg q fun m1 S1 H1 od ov a ro q1 => seqGE a.sim (a.relG rg) q1 fun m2 S2 H2 id iv b ri q2 => by
    cases e : putAt od id d S2 with
    | none => rw [e] at q2; exact q2.elim
    | some S3 =>
      rw [e] at q2
      exact setA_of b.sim (b.relD ro) ri (b.relD (a.relD r)) e fun H' n => q2 m2 H' σ n (n.relG (b.relG (a.relG rg)))
def putFD (f : Str) (v : D) : List (Str × D) → List (Str × D)
  | [] => [(f, v)]
  | (g, x) :: r => if g = f then (g, v) :: r else (g, x) :: putFD f v r
theorem RelK.putF {n : Nat} (f : Str) {d : D} {w : V} (hd : RelD c m n H d w) : ∀ {l : List (Str × D)} {vs : List (Str × V)}, RelK c m n H l vs → RelK c m n H (putFD f d l) (putF f w vs)
  | [], _, h => by rw [rk_nil h]; exact mkk_cons (p := (f, d)) hd mkk_nil
  | (g, x) :: l, _, h => by
    obtain ⟨v, r, rfl, h1, h2⟩ := rk_cons h
    unfold putFD L2.putF
    by_cases e : g = f
    · rw [if_pos e, if_pos e]
      exact mkk_cons (p := (g, d)) hd h2
    · rw [if_neg e, if_neg e]
      exact mkk_cons h1 (RelK.putF f hd h2)
def setA (qs : List Str) (f : Str) (o d : D) (S : Sr) : Option Sr := match o with
  | .adr i => (match S.f i with
    | some (.ins q fs) => if q ∈ qs ∧ fs.length < 1000 then some (S.put i (.ins q (putFD f d fs))) else none
    | _ => none)
  | _ => none
theorem setA_ok {qs : List Str} {f : Str} {o d : D} {ov w : V} {S' : Sr} (s : Sim c m S H) (ro : RelD c m S.n H o ov) (rd : RelD c m S.n H d w) (e : setA qs f o d S = some S') :
    ∃ a q dx fs, q ∈ qs ∧ ov = .ref a ∧ H a = some (.ins (c.cls q) dx fs) ∧ fs.length < 1000 ∧ Nxt c m S H m S' (upd H a (.ins (c.cls q) dx (putF f w fs))) := by
  cases o <;> try cases e
  rename_i i
  obtain ⟨rfl, hi⟩ := rd_adr ro
  unfold setA at e
  dsimp only at e
  split at e
  · rename_i q fs ef
    split at e
    · rename_i hq
      cases e
      obtain ⟨dx, vs, hh, rk⟩ := s.ins ef
      exact ⟨m i, q, dx, vs, hq.1, rfl, hh, by rw [← rk.length]; exact hq.2, Nxt.put (x := .ins q (putFD f d fs)) s ef ⟨dx, _, rfl, rk.putF f rd⟩⟩
    · cases e
  · cases e
def mFld (qs : List Str) (f : Str) (o v : ME) : MS := fun g S => toRS (v g S) fun d S1 => toRS (o g S1) fun ov S2 => match setA qs f ov d S2 with
  | some S3 => .nx g S3
  | none => .bad
theorem qs_fld {o value : Expr} {f : Str} {qs : List Str} {mo mv : ME} {pos pos' : Pos} (A : Att c X.K qs f) (ho : PE X o (rdE c E mo)) (hv : PE X value (rdE c E mv)) (hs : swapsWith value (some (.Attribute o f pos')) pos.line X.env = pure false) : PS X (.Assign [.Attribute o f pos'] value pos) (rdS c E (mFld qs f mo mv)) :=
  PS.imp (ps_fld ho hv hs) fun Z σ H ⟨m, S, g, s, rg, q⟩ => seqSE s rg q fun m1 S1 H1 d v a r q1 => seqSE a.sim (a.relG rg) q1 fun m2 S2 H2 od ov b ro q2 => by
    cases e : setA qs f od d S2 with
    | none => rw [e] at q2; exact q2.elim
    | some S3 =>
      rw [e] at q2
      obtain ⟨p, q, dx, fs, hq, rfl, hh, hl, n⟩ := setA_ok b.sim ro (b.relD r) e
      exact ⟨p, _, dx, fs, rfl, hh, A.cl q hq, A.no q hq, hl, q2 m2 _ σ n (n.relG (b.relG (a.relG rg)))⟩
/-- an attribute as a target among others -/
def gAttr (K : PySem.W.Frag) (f : Str) (ta : TE) : TG := fun v σ H Q => ta σ H fun x H1 => ∃ a C dx fs, x = .ref a ∧ H1 a = some (.ins C dx fs) ∧ Cls K C ∧ NoAttr K C f ∧ fs.length < 1000 ∧ Q σ (upd H1 a (.ins C dx (putF f v fs)))
theorem pg_attr {o : Expr} {f : Str} {ta : TE} {pos : Pos} (ho : PE X o ta) : PG X (.Attribute o f pos) (gAttr X.K f ta) := by
  refine ⟨fun pins s σ H v u Q I r h => ?_⟩
  rw [assign_Attribute]
  refine wpAny_bind (wpAny_holding (thn (ho.run pins s σ H _ I h) fun ov s1 ⟨x, H1, I1, rx, a, C, dx, fs, ex, ea, cl, n, l, q⟩ => ?_))
  subst ex
  obtain rfl : ov = Value.ref a := rx
  refine wpAny_bind (wpAny_standAt (wpAny_bind (wpAny_holding (setattr_ok I1 ea cl n l r fun s3 I3 => ?_))))
  exact wpAny_release ⟨σ, _, I3, q⟩
def gFld (qs : List Str) (f : Str) (o : ME) : MG := fun d g S => toRS (o g S) fun ov S2 => match setA qs f ov d S2 with
  | some S3 => .nx g S3
  | none => .bad
theorem qg_attr {o : Expr} {f : Str} {qs : List Str} {mo : ME} {pos : Pos} (A : Att c X.K qs f) (ho : PE X o (rdE c E mo)) : PG X (.Attribute o f pos) (rdG c E (gFld qs f mo)) :=
  PG.imp (pg_attr ho) fun v σ H Q ⟨m, S, g, d, s, rg, r, q⟩ => seqGE s rg q fun m1 S1 H1 od ov a ro q1 => by
    cases e : setA qs f od d S1 with
    | none => rw [e] at q1; exact q1.elim
    | some S3 =>
      rw [e] at q1
      obtain ⟨p, q, dx, fs, hq, rfl, hh, hl, n⟩ := setA_ok a.sim ro (a.relD r) e
      exact ⟨p, _, dx, fs, rfl, hh, A.cl q hq, A.no q hq, hl, q1 m1 _ σ n (n.relG (a.relG rg))⟩
def gNl : List D → MS := fun l g S => match l with
  | [] => .nx g S
  | _ => .bad
def gCn (t : MG) (r : List D → MS) : List D → MS := fun l g S => match l with
  | d :: l => (match t d g S with
    | .nx g' S' => r l g' S'
    | .ex q S' => .ex q S'
    | _ => .bad)
  | [] => .bad
def gTp (n : Nat) (t : List D → MS) : MG := fun d g S => match d with
  | .tup l => if l.length = n then t l g S else .bad
  | .ktp l => if l.length = n then t l g S else .bad
  | _ => .bad
theorem qgs_nil : PGs X [] (rdGs c E gNl) := PGs.imp pgs_nil fun vs σ H Q ⟨m, S, g, l, s, rg, r, q⟩ => by
  cases l with
  | nil => exact ⟨rd_nil r, q m H σ (Nxt.refl s) rg⟩
  | cons d l => exact (show False from q).elim
theorem qgs_cons {e : Expr} {es : List Expr} {t : MG} {u : List D → MS} (h1 : PG X e (rdG c E t)) (h2 : PGs X es (rdGs c E u)) (hs : (assignEach (e :: es) X.env).map (·.2) = assign e X.env :: (assignEach es X.env).map (·.2) := by rfl) : PGs X (e :: es) (rdGs c E (gCn t u)) :=
  PGs.imp (pgs_cons h1 h2 hs) fun vs σ H Q ⟨m, S, g, l, s, rg, r, q⟩ => by
    cases l with
    | nil => exact (show False from q).elim
    | cons d l =>
      obtain ⟨v, w, rfl, r1, r2⟩ := rd_cons r
      refine ⟨v, w, rfl, m, S, g, d, s, rg, r1, ?_⟩
      unfold gCn at q
      dsimp only at q
      cases e : t d g S with
      | nx g' S' =>
        rw [e] at q
        exact fun m' H' σ' n rg' => ⟨m', S', g', l, n.sim, rg', n.relDs r2, PoG.go s n q⟩
      | ex p S' => rw [e] at q; exact q
      | rt d S' => rw [e] at q; exact q.elim
      | bk d S' => rw [e] at q; exact q.elim
      | ct d S' => rw [e] at q; exact q.elim
      | bad => rw [e] at q; exact q.elim
theorem pog_if {p : Prop} [Decidable p] {Q : L2.St → Hp → Prop} {r : RS} (h : PoG c E m S H Q (if p then r else .bad)) : p ∧ PoG c E m S H Q r := by
  by_cases hp : p
  · rw [if_pos hp] at h
    exact ⟨hp, h⟩
  · rw [if_neg hp] at h
    exact h.elim
theorem qg_tup {es : List Expr} {k n : Nat} {u : List D → MS} {pos : Pos} (hK : X.K = c.K) (hc : X.calm = true) (h : PGs X es (rdGs c E u)) (hn : (assignEach es X.env).length = n := by rfl) (hst : (assignEach es X.env).findIdx? (·.1) = none := by rfl) : PG X (.Tuple es k pos) (rdG c E (gTp n u)) :=
  PG.imp (pg_tup hc h hn hst) fun v σ H Q ⟨m, S, g, d, s, rg, r, q⟩ => by
    rw [hK]
    cases d <;> first | exact (show False from q).elim | skip
    · obtain ⟨a, vs, rfl, hh, rs⟩ := rd_tup r
      obtain ⟨hl, q⟩ := pog_if (c := c) (E := E) q
      exact ⟨a, vs, rfl, .inl (.inl hh), by rw [← rs.length]; exact hl, m, S, g, _, s, rg, rs, q⟩
    · obtain ⟨a, vs, rfl, hh, rs⟩ := rd_ktp r
      obtain ⟨hl, q⟩ := pog_if (c := c) (E := E) q
      exact ⟨a, vs, rfl, hh.sq, by rw [← rs.length]; exact hl, m, S, g, _, s, rg, rs, q⟩
def mAsg (a : ME) (t : MG) : MS := fun g S => toRS (a g S) fun d S1 => match t d g S1 with
  | .nx g' S' => .nx g' S'
  | .ex q S' => .ex q S'
  | _ => .bad
theorem qs_asg {tg e : Expr} {ma : ME} {t : MG} {pos : Pos} (he : PE X e (rdE c E ma)) (hg : PG X tg (rdG c E t)) (hs : swapsWithSole [tg] e pos.line X.env = pure false := by rfl) (hw : swappedStores [tg] e X.env = pure none := by rfl)
    (h1 : (assignEach [tg] X.env).map (·.2) = [assign tg X.env] := by rfl) : PS X (.Assign [tg] e pos) (rdS c E (mAsg ma t)) :=
  PS.imp (ps_asg he hg hs hw h1) fun Z σ H ⟨m, S, g, s, rg, q⟩ => seqSE s rg q fun m1 S1 H1 d v a r q1 => by
    refine ⟨m1, S1, g, d, a.sim, a.relG rg, r, ?_⟩
    cases e : t d g S1 with
    | nx g' S' => rw [e] at q1; exact q1
    | ex p S' => rw [e] at q1; exact q1
    | rt d S' => rw [e] at q1; exact q1.elim
    | bk d S' => rw [e] at q1; exact q1.elim
    | ct d S' => rw [e] at q1; exact q1.elim
    | bad => rw [e] at q1; exact q1.elim
/-- a, b = x, y of local names -/
def mPar (i j : Nat) (a : MA) : MS := fun g S => toRSA (a g S) fun l S1 => match l with
  | [x, y] => .nx ((g.set i (some x)).set j (some y)) S1
  | _ => .bad
theorem qs_par {i j : Nat} {x y : Str} {a b : Expr} {ma : MA} {px py pt pos : Pos} {kt k2 pt2} (hc : X.calm = true) (hN : X.N.Nodup) (hi : X.N[i]? = some x) (hj : X.N[j]? = some y) (hij : i ≠ j)
    (hx : X.env.scope.names.lookup x = some .local) (hy : X.env.scope.names.lookup y = some .local) (ha : PA X [a, b] (rdA c E ma))
    (hw : swappedStores [.Tuple [.Name x px, .Name y py] kt pt] (.Tuple [a, b] k2 pt2) X.env = pure (some [x, y]))
    (hs : swapsWithSole [.Tuple [.Name x px, .Name y py] kt pt] (.Tuple [a, b] k2 pt2) pos.line X.env = pure false := by rfl) :
    PS X (.Assign [.Tuple [.Name x px, .Name y py] kt pt] (.Tuple [a, b] k2 pt2) pos) (rdS c E (mPar i j ma)) :=
  PS.imp (ps_par hc hN hi hj hij hx hy ha hw hs) fun Z σ H ⟨m, S, g, s, rg, q⟩ => seqSA s rg q fun m1 S1 H1 l vs a rs q1 => by
    split at q1
    · obtain ⟨v, w, rfl, r1, r2⟩ := two_of rs
      exact ⟨v, w, rfl, q1 m1 H1 _ (Nxt.refl a.sim) (((a.relG rg).set i r1).set j r2)⟩
    · exact q1.elim
def mPar3 (i j k : Nat) (a : MA) : MS := fun g S => toRSA (a g S) fun l S1 => match l with
  | [x, y, z] => .nx (((g.set i (some x)).set j (some y)).set k (some z)) S1
  | _ => .bad
theorem qs_par3 {i j k : Nat} {x y z : Str} {a b e : Expr} {ma : MA} {px py pz pt pos : Pos} {kt k2 pt2} (hc : X.calm = true) (hN : X.N.Nodup) (hi : X.N[i]? = some x) (hj : X.N[j]? = some y) (hk : X.N[k]? = some z) (hij : i ≠ j) (hik : i ≠ k) (hjk : j ≠ k)
    (hx : X.env.scope.names.lookup x = some .local) (hy : X.env.scope.names.lookup y = some .local) (hz : X.env.scope.names.lookup z = some .local) (ha : PA X [a, b, e] (rdA c E ma))
    (hw : swappedStores [.Tuple [.Name x px, .Name y py, .Name z pz] kt pt] (.Tuple [a, b, e] k2 pt2) X.env = pure (some [x, y, z]))
    (hs : swapsWithSole [.Tuple [.Name x px, .Name y py, .Name z pz] kt pt] (.Tuple [a, b, e] k2 pt2) pos.line X.env = pure false := by rfl) :
    PS X (.Assign [.Tuple [.Name x px, .Name y py, .Name z pz] kt pt] (.Tuple [a, b, e] k2 pt2) pos) (rdS c E (mPar3 i j k ma)) :=
  PS.imp (ps_par3 hc hN hi hj hk hij hik hjk hx hy hz ha hw hs) fun Z σ H ⟨m, S, g, s, rg, q⟩ => seqSA s rg q fun m1 S1 H1 l vs a rs q1 => by
    split at q1
    · obtain ⟨v, w, rfl, r1, r2⟩ := rd_cons rs
      obtain ⟨v2, w2, rfl, r3, r4⟩ := two_of r2
      exact ⟨v, v2, w2, rfl, q1 m1 H1 _ (Nxt.refl a.sim) ((((a.relG rg).set i r1).set j r3).set k r4)⟩
    · exact q1.elim
/-- x op= e -/
def mAug (i : Nat) (f : D → D → SM D) (a : ME) : MS := fun g S => match g[i]? with
  | some (some x) => toRS (a g S) fun y S1 => toRS (f x y S1) fun z S2 => .nx (g.set i (some z)) S2
  | _ => .bad
theorem qs_aug {i : Nat} {x : Str} {e : Expr} {ma : ME} {op : Operator} {r : R2} {f : D → D → SM D} {pos pos' : Pos} (hN : X.N.Nodup) (hi : X.N[i]? = some x) (hx : Loc X.env.scope x) (he : PE X e (rdE c E ma)) (ho : OpR X (inplaceOp op) r) (hs : Snd2 c r f) (hf : X.fn x = true ∨ X.env.scope.names.lookup x = some .local := by first | exact .inl rfl | exact .inr rfl | assumption) :
    PS X (.AugAssign (.Name x pos') op e pos) (rdS c E (mAug i f ma)) :=
  PS.imp (ps_aug (ti := r) hN hi hx he (fun pins s σ H x y v u Q I rx ry h => ho pins s σ H x y v u Q I rx ry h) hf) fun Z σ H ⟨m, S, g, s, rg, q⟩ => by
    unfold mAug at q
    split at q
    · rename_i d ed
      obtain ⟨v, ev, rv⟩ := rg.2 i d ed
      refine ⟨v, ev, seqSE s rg q fun m1 S1 H1 y w a rw' q1 => ?_⟩
      cases e : f d y S1 with
      | ok z S2 =>
        rw [e] at q1
        refine hs E m1 S1 H1 _ d y v w a.sim (a.relD rv) rw' ?_
        rw [e]
        exact fun m2 H2 u b ru => q1 m2 H2 _ b ((b.relG (a.relG rg)).set i ru)
      | exc p S2 =>
        rw [e] at q1
        refine hs E m1 S1 H1 _ d y v w a.sim (a.relD rv) rw' ?_
        rw [e]
        exact q1
      | bad => rw [e] at q1; exact q1.elim
    · exact q.elim
/-- o.f op= e -/
def mFldAug (qs : List Str) (fl : Str) (f : D → D → SM D) (o v : ME) : MS := fun g S => toRS (o g S) fun ov S1 => match ov with
  | .adr i => (match S1.f i with
    | some (.ins q fs) => if q ∈ qs then (match fs.lookup fl with
      | some x => toRS (v g S1) fun y S2 => toRS (f x y S2) fun z S3 => match setA [q] fl (.adr i) z S3 with
        | some S4 => .nx g S4
        | none => .bad
      | none => .bad) else .bad
    | _ => .bad)
  | _ => .bad
theorem pos_if {p : Prop} [Decidable p] {Z : Ends} {r : RS} (h : PoS c E m S H Z (if p then r else .bad)) : p ∧ PoS c E m S H Z r := by
  by_cases hp : p
  · rw [if_pos hp] at h
    exact ⟨hp, h⟩
  · rw [if_neg hp] at h
    exact h.elim
theorem qs_fldaug {o value : Expr} {fl : Str} {qs : List Str} {mo mv : ME} {op : Operator} {r : R2} {f : D → D → SM D} {pos tpos : Pos} (A : Att c X.K qs fl) (ho : PE X o (rdE c E mo)) (hv : PE X value (rdE c E mv)) (hop : OpR X (inplaceOp op) r) (hs : Snd2 c r f) : PS X (.AugAssign (.Attribute o fl tpos) op value pos) (rdS c E (mFldAug qs fl f mo mv)) :=
  PS.imp (ps_fldaug (rd := r) ho hv (fun pins s σ H x y v u Q I rx ry h => hop pins s σ H x y v u Q I rx ry h)) fun Z σ H ⟨m, S, g, s, rg, q⟩ => seqSE s rg q fun m1 S1 H1 od ov a ro q1 => by
    cases od <;> first | exact (show False from q1).elim | skip
    rename_i i
    have ro0 := ro
    obtain ⟨rfl, hi⟩ := rd_adr ro
    dsimp only at q1
    split at q1
    · rename_i p fs ef
      obtain ⟨hq, q2⟩ := pos_if q1
      obtain ⟨dx, vs, hh, rk⟩ := a.sim.ins ef
      rcases rk.lookup fl with ⟨e1, _⟩ | ⟨x, v, e1, e2, r1⟩
      · rw [e1] at q2
        exact q2.elim
      · rw [e1] at q2
        refine ⟨_, _, dx, vs, v, rfl, hh, A.cl p hq, A.no p hq, e2, seqSE a.sim (a.relG rg) q2 fun m2 S2 H2 y w b ry q3 => ?_⟩
        cases e : f x y S2 with
        | ok z S3 =>
          rw [e] at q3
          refine hs E m2 S2 H2 _ x y v w b.sim (b.relD r1) ry ?_
          rw [e]
          intro m3 H3 u d ru
          have q5 : PoS c E m2 S2 H2 Z (match setA [p] fl (.adr i) z S3 with
            | some S4 => .nx g S4
            | none => .bad) := q3
          clear q3
          cases e4 : setA [p] fl (.adr i) z S3 with
          | none => rw [e4] at q5; exact q5.elim
          | some S4 =>
            rw [e4] at q5
            have bd := b.trans a.sim d
            obtain ⟨p', q', dx', fs', hq', ep, hh', hl, n⟩ := setA_ok d.sim (bd.relD ro0) ru e4
            have eq' : q' = p := by simpa using hq'
            subst eq'
            have eq2 : p' = m1 i := by
              have := (rd_adr (bd.relD ro0)).1
              injection ep with ep
              exact ep.symm
            rw [eq2] at hh' n
            exact ⟨dx', fs', hh', hl, q5 m3 _ σ (d.trans b.sim n) (n.relG (d.relG (b.relG (a.relG rg))))⟩
        | exc z S3 =>
          rw [e] at q3
          refine hs E m2 S2 H2 _ x y v w b.sim (b.relD r1) ry ?_
          rw [e]
          exact q3
        | bad => rw [e] at q3; exact q3.elim
    · exact q1.elim
end
end Y

set_option Elab.async false
set_option linter.all false
set_option maxRecDepth 100000
set_option maxHeartbeats 1000000
/-! Y8: loops, comprehensions. -/
namespace Y
open PySem PySem.Spec PyProof.Rows L2
/-! ### what is walked -/
/-- n: a bound of the turns; nxt: some none: the end; none: not told -/
structure Src where
  n : Nat
  nxt : Nat → Sr → Option (Option D)
def sqn (l : List D) : Src := ⟨l.length, fun i _ => some l[i]?⟩
def sqa (j n : Nat) : Src := ⟨n, fun i S => match S.f j with
  | some (.lst l) => some l[i]?
  | _ => none⟩
def sqr (lo k : Int) (n : Nat) : Src := ⟨n, fun i _ => some (if i < n then some (.int (lo + (i : Int) * k)) else none)⟩
def sqs (x : Str) : Src := ⟨x.cps.size, fun i _ => some (x.cps[i]?.map fun c => .str ⟨#[c]⟩)⟩
def sqe (s : Src) : Src := ⟨s.n, fun i S => match s.nxt i S with
  | some (some d) => some (some (.tup [.int (i : Int), d]))
  | some none => some none
  | none => none⟩
def sqz (a b : Src) : Src := ⟨a.n, fun i S => match a.nxt i S, b.nxt i S with
  | some (some x), some (some y) => some (some (.tup [x, y]))
  | some none, some _ => some none
  | some (some _), some none => some none
  | _, _ => none⟩
structure ItOk (c : Ct) (J : It) (sr : Src) (m0 : Nat → Addr) (S0 : Sr) (H0 : Hp) : Prop where
  go : ∀ i m S H d, Nxt c m0 S0 H0 m S H → sr.nxt i S = some (some d) → J.go i H ∧ ∀ x H', J.yld i H x H' → Nxt c m S H m S H' ∧ RelD c m S.n H' d x
  stop : ∀ i m S H, Nxt c m0 S0 H0 m S H → sr.nxt i S = some none → J.stop i H
abbrev MI := Gm → SM Src
section
variable {X : Cx} {c : Ct} {E : XK} {m : Nat → Addr} {S : Sr} {H : Hp} {g : Gm} {σ : L2.St}
def PoI (c : Ct) (E : XK) (m : Nat → Addr) (S : Sr) (H : Hp) (Q : It → Hp → Prop) : R Src → Prop
  | .ok sr S' => ∀ m' H' J, Nxt c m S H m' S' H' → ItOk c J sr m' S' H' → Q J H'
  | .exc q S' => ∀ m' H', Nxt c m S H m' S' H' → E (.ref (c.cls q)) none H'
  | .bad => False
def rdI (c : Ct) (E : XK) (x : MI) : TI := fun σ H Q => ∃ m S g, Sim c m S H ∧ RelG c m S.n H g σ ∧ PoI c E m S H Q (x g S)
theorem PI.imp {tg it : Expr} {t t' : TI} (h : PI X tg it t) (i : ∀ σ H Q, t' σ H Q → t σ H Q) : PI X tg it t' := ⟨fun pins s σ H Q I q => h.run pins s σ H Q I (i σ H Q q)⟩
theorem PI.or {tg it : Expr} {t t' : TI} (h : PI X tg it t) (h' : PI X tg it t') : PI X tg it fun σ H Q => t σ H Q ∨ t' σ H Q := ⟨fun pins s σ H Q I q => q.elim (h.run pins s σ H Q I) (h'.run pins s σ H Q I)⟩
theorem PoI.go {m1 : Nat → Addr} {S1 : Sr} {H1 : Hp} (s : Sim c m S H) (a : Nxt c m S H m1 S1 H1) {Q : It → Hp → Prop} {r : R Src} (h : PoI c E m S H Q r) : PoI c E m1 S1 H1 Q r := by
  cases r with
  | ok d S' => exact fun m' H' J b i => h m' H' J (a.trans s b) i
  | exc q S' => exact fun m' H' b => h m' H' (a.trans s b)
  | bad => exact h
def mSrcD (ar : Bool) (d : D) (S : Sr) : R Src := match d with
  | .tup l => if ar then .ok (sqn l) S else .bad
  | .ktp l => if ar then .ok (sqn l) S else .bad
  | .gtp l => if ar then .ok (sqn l) S else .bad
  | .fro l => .ok (sqn l) S
  | .str x => if ar then .ok (sqs x) S else .bad
  | .adr i => (match S.f i with
    | some (.lst l) => .ok (sqa i l.length) S
    | _ => .bad)
  | _ => .bad
def mSrc (a : ME) : MI := fun g => SM.bind (a g) (mSrcD true)
/-- the reading of a mirror's outcome -/
theorem rdE_of {x : ME} {QQ : VK} (s : Sim c m S H) (rg : RelG c m S.n H g σ) (h : PoE c E m S H QQ (x g S)) : rdE c E x σ H QQ := ⟨m, S, g, s, rg, h⟩
theorem it_fro {l : List D} {a : Addr} {vs : List V} {n : Nat} (hn : n ≤ S.n) (h : SqF c.K H a vs) (rs : RelDs c m n H l vs) : ItOk c (Itl c.K a) (sqn l) m S H := by
  refine ⟨fun i m1 S1 H1 d a1 e => ?_, fun i m1 S1 H1 a1 e => ?_⟩
  · have e : l[i]? = some d := Option.some.inj e
    have rs := rs.mono (fun j hj => a1.mu j (Nat.lt_of_lt_of_le hj hn)) (Nat.le_trans hn a1.le) a1.kp
    obtain ⟨v, e1, r1⟩ := rs.get e
    have hq := (a1.kp.sqF h).sq
    exact ⟨⟨vs, v, hq, e1⟩, fun x H' ⟨e2, y⟩ => by
      subst e2
      have := y vs hq
      rw [e1] at this
      cases this
      exact ⟨Nxt.refl a1.sim, r1⟩⟩
  · have e : l[i]? = none := Option.some.inj e
    refine ⟨vs, (a1.kp.sqF h).sq, ?_⟩
    rw [← rs.length]
    exact List.getElem?_eq_none_iff.mp e
theorem it_tup {l : List D} {a : Addr} {vs : List V} {n : Nat} (hn : n ≤ S.n) (h : SqT c.K H a vs) (rs : RelDs c m n H l vs) : ItOk c (Itt c.K a) (sqn l) m S H := by
  refine ⟨fun i m1 S1 H1 d a1 e => ?_, fun i m1 S1 H1 a1 e => ?_⟩
  · have e : l[i]? = some d := Option.some.inj e
    have rs := rs.mono (fun j hj => a1.mu j (Nat.lt_of_lt_of_le hj hn)) (Nat.le_trans hn a1.le) a1.kp
    obtain ⟨v, e1, r1⟩ := rs.get e
    have hq := a1.kp.sqT h
    exact ⟨⟨vs, v, hq, e1⟩, fun x H' ⟨e2, y⟩ => by
      subst e2
      have := y vs hq
      rw [e1] at this
      cases this
      exact ⟨Nxt.refl a1.sim, r1⟩⟩
  · have e : l[i]? = none := Option.some.inj e
    refine ⟨vs, a1.kp.sqT h, ?_⟩
    rw [← rs.length]
    exact List.getElem?_eq_none_iff.mp e
theorem it_str {x : Str} : ItOk c (Its x) (sqs x) m S H := by
  refine ⟨fun i m1 S1 H1 d a1 e => ?_, fun i m1 S1 H1 a1 e => ?_⟩
  · have e : (x.cps[i]?.map fun c => D.str ⟨#[c]⟩) = some d := Option.some.inj e
    obtain ⟨k, e1, e2⟩ := Option.map_eq_some_iff.mp e
    refine ⟨(Array.getElem?_eq_some_iff.mp e1).1, fun v H' ⟨e3, k', e4, e5⟩ => ?_⟩
    subst e3 e2
    rw [e1] at e4
    cases e4
    subst e5
    exact ⟨Nxt.refl a1.sim, mk_str⟩
  · have e : (x.cps[i]?.map fun c => D.str ⟨#[c]⟩) = none := Option.some.inj e
    have e1 := Option.map_eq_none_iff.mp e
    exact Array.getElem?_eq_none_iff.mp e1
theorem it_adr {j n : Nat} (hj : j < S.n) : ItOk c (Itl c.K (m j)) (sqa j n) m S H := by
  refine ⟨fun i m1 S1 H1 d a1 e => ?_, fun i m1 S1 H1 a1 e => ?_⟩
  · have e : (match S1.f j with
      | some (.lst l) => some l[i]?
      | _ => none) = some (some d) := e
    split at e
    · rename_i l el
      have e : l[i]? = some d := Option.some.inj e
      obtain ⟨vs, h, rs⟩ := a1.sim.lst el
      rw [a1.mu j hj] at h
      obtain ⟨v, e1, r1⟩ := rs.get e
      have hq : SqL c.K H1 (m j) vs := .inl (.inl h)
      exact ⟨⟨vs, v, hq, e1⟩, fun x H' ⟨e2, y⟩ => by
        subst e2
        have := y vs hq
        rw [e1] at this
        cases this
        exact ⟨Nxt.refl a1.sim, r1⟩⟩
    · cases e
  · have e : (match S1.f j with
      | some (.lst l) => some l[i]?
      | _ => none) = some none := e
    split at e
    · rename_i l el
      have e : l[i]? = none := Option.some.inj e
      obtain ⟨vs, h, rs⟩ := a1.sim.lst el
      rw [a1.mu j hj] at h
      refine ⟨vs, .inl (.inl h), ?_⟩
      rw [← rs.length]
      exact List.getElem?_eq_none_iff.mp e
    · cases e
theorem seqIE {x : ME} {k : D → SM Src} {Q : It → Hp → Prop} {QQ : VK} (s : Sim c m S H) (rg : RelG c m S.n H g σ) (h : PoI c E m S H Q (SM.bind (x g) k S))
    (hk : ∀ m1 S1 H1 d v, Nxt c m S H m1 S1 H1 → RelD c m1 S1.n H1 d v → PoI c E m1 S1 H1 Q (k d S1) → QQ v H1) : rdE c E x σ H QQ := by
  refine ⟨m, S, g, s, rg, ?_⟩
  unfold SM.bind at h
  cases e : x g S with
  | ok d S1 =>
    rw [e] at h
    exact fun m1 H1 v a r => hk m1 S1 H1 d v a r (PoI.go s a h)
  | exc q S1 =>
    rw [e] at h
    exact h
  | bad =>
    rw [e] at h
    exact h
theorem seqIA {x : MA} {k : List D → SM Src} {Q : It → Hp → Prop} {QQ : List V → Hp → Prop} (s : Sim c m S H) (rg : RelG c m S.n H g σ) (h : PoI c E m S H Q (SM.bind (x g) k S))
    (hk : ∀ m1 S1 H1 d v, Nxt c m S H m1 S1 H1 → RelDs c m1 S1.n H1 d v → PoI c E m1 S1 H1 Q (k d S1) → QQ v H1) : rdA c E x σ H QQ := by
  refine ⟨m, S, g, s, rg, ?_⟩
  unfold SM.bind at h
  cases e : x g S with
  | ok d S1 =>
    rw [e] at h
    exact fun m1 H1 v a r => hk m1 S1 H1 d v a r (PoI.go s a h)
  | exc q S1 =>
    rw [e] at h
    exact h
  | bad =>
    rw [e] at h
    exact h
theorem pi_if {p : Prop} [Decidable p] {Q : It → Hp → Prop} {r : R Src} (h : PoI c E m S H Q (if p then r else .bad)) : p ∧ PoI c E m S H Q r := by
  by_cases hp : p
  · rw [if_pos hp] at h
    exact ⟨hp, h⟩
  · rw [if_neg hp] at h
    exact h.elim
theorem qi_seq {tg e : Expr} {ma : ME} (hK : X.K = c.K) (h : PE X e (rdE c E ma)) : PI X tg e (rdI c E (mSrc ma)) :=
  PI.imp (PI.or (pi_list h) (PI.or (pi_tup h) (pi_str h))) fun σ H Q ⟨m, S, g, s, rg, q⟩ => by
    unfold mSrc SM.bind at q
    rw [hK]
    cases e0 : ma g S with
    | bad =>
      rw [e0] at q
      exact q.elim
    | exc p S1 =>
      rw [e0] at q
      exact .inl (rdE_of s rg (by rw [e0]; exact q))
    | ok d S1 =>
      rw [e0] at q
      cases d with
      | fro l => exact .inl (rdE_of s rg (by
          rw [e0]
          intro m1 H1 v a r
          obtain ⟨p, vs, rfl, hh, rs⟩ := rd_fro r
          exact ⟨p, rfl, ⟨vs, hh.sq⟩, q m1 H1 _ a (it_fro (Nat.le_refl _) hh rs)⟩))
      | tup l => exact .inr (.inl (rdE_of s rg (by
          rw [e0]
          intro m1 H1 v a r
          obtain ⟨p, vs, rfl, hh, rs⟩ := rd_tup r
          exact ⟨p, rfl, ⟨vs, .inl (.inl hh)⟩, q m1 H1 _ a (it_tup (Nat.le_refl _) (.inl (.inl hh)) rs)⟩)))
      | ktp l => exact .inr (.inl (rdE_of s rg (by
          rw [e0]
          intro m1 H1 v a r
          obtain ⟨p, vs, rfl, hh, rs⟩ := rd_ktp r
          exact ⟨p, rfl, ⟨vs, hh.sq⟩, q m1 H1 _ a (it_tup (Nat.le_refl _) hh.sq rs)⟩)))
      | gtp l => exact .inr (.inl (rdE_of s rg (by
          rw [e0]
          intro m1 H1 v a r
          obtain ⟨p, vs, rfl, hh, rs⟩ := rd_gtp r
          exact ⟨p, rfl, ⟨vs, hh.sq⟩, q m1 H1 _ a (it_tup (Nat.le_refl _) hh.sq rs)⟩)))
      | str x => exact .inr (.inr (rdE_of s rg (by
          rw [e0]
          intro m1 H1 v a r
          exact ⟨x, rd_str r, q m1 H1 _ a it_str⟩)))
      | adr j =>
        refine .inl (rdE_of s rg ?_)
        rw [e0]
        intro m1 H1 v a r
        obtain ⟨rfl, hj⟩ := rd_adr r
        unfold mSrcD at q
        dsimp only at q
        split at q
        · rename_i l el
          obtain ⟨vs, hh, rs⟩ := a.sim.lst el
          exact ⟨_, rfl, ⟨vs, .inl (.inl hh)⟩, q m1 H1 _ a (it_adr hj)⟩
        · exact q.elim
      | _ => exact q.elim
def mRng1 (a : MA) : MI := fun g => SM.bind (a g) fun l S => match l with
  | [.int j] => if -(2 ^ 62) ≤ j ∧ j < 2 ^ 62 then .ok (sqr 0 1 j.toNat) S else .bad
  | _ => .bad
def mRng2 (a : MA) : MI := fun g => SM.bind (a g) fun l S => match l with
  | [.int i, .int j] => if -(2 ^ 62) ≤ i ∧ i < 2 ^ 62 ∧ -(2 ^ 62) ≤ j ∧ j < 2 ^ 62 then .ok (sqr i 1 (j - i).toNat) S else .bad
  | _ => .bad
/-- down by one -/
def mRng3 (a : MA) : MI := fun g => SM.bind (a g) fun l S => match l with
  | [.int i, .int j, .int k] => if (-(2 ^ 62) ≤ i ∧ i < 2 ^ 62 ∧ -(2 ^ 62) ≤ j ∧ j < 2 ^ 62) ∧ k = -1 then .ok (sqr i (-1) (i - j).toNat) S else .bad
  | _ => .bad
theorem it_rng {lo k : Int} {n : Nat} {J : It} (h1 : ∀ i H, J.go i H ↔ i < n) (h2 : ∀ i H x H', J.yld i H x H' → H' = H ∧ x = .int (lo + (i : Int) * k)) (h3 : ∀ i H, J.stop i H ↔ n ≤ i) : ItOk c J (sqr lo k n) m S H := by
  refine ⟨fun i m1 S1 H1 d a1 e => ?_, fun i m1 S1 H1 a1 e => ?_⟩
  · have e : (if i < n then some (D.int (lo + (i : Int) * k)) else none) = some d := Option.some.inj e
    split at e
    · rename_i hl
      cases e
      refine ⟨(h1 i H1).mpr hl, fun x H' y => ?_⟩
      obtain ⟨rfl, rfl⟩ := h2 i H1 x H' y
      exact ⟨Nxt.refl a1.sim, mk_int⟩
    · cases e
  · have e : (if i < n then some (D.int (lo + (i : Int) * k)) else none) = none := Option.some.inj e
    split at e
    · cases e
    · rename_i hl
      exact (h3 i H1).mpr (Nat.le_of_not_lt hl)
theorem qi_rng1 {tg a : Expr} {ma : MA} {p pos : Pos} (hg : Gl X "range") (hm : X.mg "range" = none) (ha : PA X [a] (rdA c E ma)) (hs : starEach [a] X.env = [(false, eval a X.env)] := by rfl) : PI X tg (.Call (.Name "range" p) [a] [] pos) (rdI c E (mRng1 ma)) :=
  PI.imp (pi_range1 hg hm ha hs) fun σ H Q ⟨m, S, g, s, rg, q⟩ => seqIA s rg q fun m1 S1 H1 l vs a rs q1 => by
    split at q1
    · rename_i j
      obtain ⟨v, w, rfl, r1, r2⟩ := rd_cons rs
      rw [rd_int r1, rd_nil r2]
      obtain ⟨hl, q2⟩ := pi_if (c := c) (E := E) q1
      exact ⟨j, rfl, hl.1, hl.2, q2 m1 H1 _ (Nxt.refl a.sim) (it_rng (fun _ _ => Iff.rfl) (fun i H x H' y => ⟨y.1, by rw [y.2, Int.mul_one]⟩) fun _ _ => Iff.rfl)⟩
    · exact q1.elim
theorem qi_rng2 {tg a b : Expr} {ma : MA} {p pos : Pos} (hg : Gl X "range") (hm : X.mg "range" = none) (ha : PA X [a, b] (rdA c E ma)) (hs : starEach [a, b] X.env = [(false, eval a X.env), (false, eval b X.env)] := by rfl) (hs2 : starEach [b] X.env = [(false, eval b X.env)] := by rfl) : PI X tg (.Call (.Name "range" p) [a, b] [] pos) (rdI c E (mRng2 ma)) :=
  PI.imp (pi_range2 hg hm ha hs hs2) fun σ H Q ⟨m, S, g, s, rg, q⟩ => seqIA s rg q fun m1 S1 H1 l vs a rs q1 => by
    split at q1
    · rename_i i j
      obtain ⟨v, w, rfl, r1, r2⟩ := rd_cons rs
      obtain ⟨v, w, rfl, r3, r4⟩ := rd_cons r2
      rw [rd_int r1, rd_int r3, rd_nil r4]
      obtain ⟨hl, q2⟩ := pi_if (c := c) (E := E) q1
      exact ⟨i, j, rfl, hl, q2 m1 H1 _ (Nxt.refl a.sim) (it_rng (fun _ _ => Iff.rfl) (fun i H x H' y => ⟨y.1, by rw [y.2, Int.mul_one]⟩) fun _ _ => Iff.rfl)⟩
    · exact q1.elim
theorem qi_rng3 {tg a b d : Expr} {ma : MA} {p pos : Pos} (hg : Gl X "range") (hm : X.mg "range" = none) (ha : PA X [a, b, d] (rdA c E ma)) (hs : starEach [a, b, d] X.env = (false, eval a X.env) :: starEach [b, d] X.env := by rfl) (hpl : (backTo pos (starEach [b, d] X.env)).any (·.1) = false := by rfl) : PI X tg (.Call (.Name "range" p) [a, b, d] [] pos) (rdI c E (mRng3 ma)) :=
  PI.imp (pi_range3 hg hm ha hs hpl) fun σ H Q ⟨m, S, g, s, rg, q⟩ => seqIA s rg q fun m1 S1 H1 l vs a rs q1 => by
    split at q1
    · rename_i i j k
      obtain ⟨v, w, rfl, r1, r2⟩ := rd_cons rs
      obtain ⟨v, w, rfl, r3, r4⟩ := rd_cons r2
      obtain ⟨v, w, rfl, r5, r6⟩ := rd_cons r4
      rw [rd_int r1, rd_int r3, rd_int r5, rd_nil r6]
      obtain ⟨⟨hl, rfl⟩, q2⟩ := pi_if (c := c) (E := E) q1
      exact ⟨i, j, -1, _, rfl, RgC.neg hl.1 hl.2.1 hl.2.2.1 hl.2.2.2, q2 m1 H1 _ (Nxt.refl a.sim) (it_rng (fun _ _ => Iff.rfl) (fun i H x H' y => y) fun _ _ => Iff.rfl)⟩
    · exact q1.elim
/-! ### enumerate, zip -/
/-- a list's place and its walk -/
def SqOk (c : Ct) (sr : Src) (a : Addr) (m0 : Nat → Addr) (S0 : Sr) (H0 : Hp) : Prop :=
  ∀ i m S H, Nxt c m0 S0 H0 m S H → (∀ o, sr.nxt i S = some o → ∃ vs, SqL c.K H a vs ∧ (match o with
    | some d => ∃ v, vs[i]? = some v ∧ RelD c m S.n H d v
    | none => vs.length ≤ i))
theorem sq_of {d : D} {v : V} {sr : Src} {S' : Sr} (s : Sim c m S H) (r : RelD c m S.n H d v) (e : mSrcD false d S = .ok sr S') : S' = S ∧ ∃ a, v = .ref a ∧ SqOk c sr a m S H ∧ ∃ vs, SqL c.K H a vs := by
  cases d with
  | fro l =>
    cases e
    obtain ⟨a, vs, rfl, hh, rs⟩ := rd_fro r
    refine ⟨rfl, a, rfl, fun i m1 S1 H1 a1 o e => ⟨vs, (a1.kp.sqF hh).sq, ?_⟩, vs, hh.sq⟩
    have e : l[i]? = o := Option.some.inj e
    cases o with
    | none =>
      show vs.length ≤ i
      rw [← rs.length]
      exact List.getElem?_eq_none_iff.mp e
    | some d => exact (a1.relDs rs).get e
  | adr j =>
    obtain ⟨rfl, hj⟩ := rd_adr r
    unfold mSrcD at e
    dsimp only at e
    split at e
    · rename_i l el
      cases e
      obtain ⟨vs, hh, rs⟩ := s.lst el
      refine ⟨rfl, _, rfl, fun i m1 S1 H1 a1 o e => ?_, vs, .inl (.inl hh)⟩
      have e : (match S1.f j with
        | some (.lst l) => some l[i]?
        | _ => none) = some o := e
      split at e
      · rename_i l2 el2
        have e : l2[i]? = o := Option.some.inj e
        obtain ⟨vs2, h2, rs2⟩ := a1.sim.lst el2
        rw [a1.mu j hj] at h2
        refine ⟨vs2, .inl (.inl h2), ?_⟩
        cases o with
        | none =>
          show vs2.length ≤ i
          rw [← rs2.length]
          exact List.getElem?_eq_none_iff.mp e
        | some d => exact rs2.get e
      · cases e
    · cases e
  | _ => cases e
theorem it_enum {sr : Src} {a : Addr} (h : SqOk c sr a m S H) : ItOk c (Ite c.K a) (sqe sr) m S H := by
  refine ⟨fun i m1 S1 H1 d a1 e => ?_, fun i m1 S1 H1 a1 e => ?_⟩
  · unfold sqe at e
    dsimp only at e
    split at e
    · rename_i d0 e0
      cases e
      obtain ⟨vs, hq, v, e1, r⟩ := h i m1 S1 H1 a1 _ e0
      refine ⟨⟨vs, v, hq, e1⟩, fun x H' ⟨T, y, e2, hT, e3, hy⟩ => ?_⟩
      subst e2 e3
      have e4 := hy vs hq
      rw [e1] at e4
      cases e4
      have n : Nxt c m1 S1 H1 m1 S1 (upd H1 T (.tup [.int (i : Nat), v])) := Nxt.fresh a1.sim hT
      exact ⟨n, mk_tup upd_same (mk_cons mk_int (mk_cons (n.relD r) mk_nil))⟩
    · cases e
    · cases e
  · unfold sqe at e
    dsimp only at e
    split at e
    · cases e
    · rename_i e0
      obtain ⟨vs, hq, hl⟩ := h i m1 S1 H1 a1 _ e0
      exact ⟨vs, hq, hl⟩
    · cases e
theorem it_zip {sr sr2 : Src} {a b : Addr} (h : SqOk c sr a m S H) (h2 : SqOk c sr2 b m S H) : ItOk c (Itz c.K a b) (sqz sr sr2) m S H := by
  refine ⟨fun i m1 S1 H1 d a1 e => ?_, fun i m1 S1 H1 a1 e => ?_⟩
  · unfold sqz at e
    dsimp only at e
    split at e
    · rename_i d0 d1 e0 e1
      cases e
      obtain ⟨vs, hq, v, e2, r⟩ := h i m1 S1 H1 a1 _ e0
      obtain ⟨ws, hq2, w, e3, r2⟩ := h2 i m1 S1 H1 a1 _ e1
      refine ⟨⟨vs, ws, v, w, hq, hq2, e2, e3⟩, fun x H' ⟨T, y, z, e4, hT, e5, hy, hz⟩ => ?_⟩
      subst e4 e5
      have e6 := hy vs hq
      have e7 := hz ws hq2
      rw [e2] at e6
      rw [e3] at e7
      cases e6
      cases e7
      have n : Nxt c m1 S1 H1 m1 S1 (upd H1 T (.tup [v, w])) := Nxt.fresh a1.sim hT
      exact ⟨n, mk_tup upd_same (mk_cons (n.relD r) (mk_cons (n.relD r2) mk_nil))⟩
    · cases e
    · cases e
    · cases e
  · unfold sqz at e
    dsimp only at e
    split at e
    · cases e
    · rename_i o e0 e1
      obtain ⟨vs, hq, hl⟩ := h i m1 S1 H1 a1 _ e0
      obtain ⟨ws, hq2, _⟩ := h2 i m1 S1 H1 a1 _ e1
      exact ⟨vs, ws, hq, hq2, .inl hl⟩
    · rename_i d0 e0 e1
      obtain ⟨vs, hq, _⟩ := h i m1 S1 H1 a1 _ e0
      obtain ⟨ws, hq2, hl⟩ := h2 i m1 S1 H1 a1 _ e1
      exact ⟨vs, ws, hq, hq2, .inr hl⟩
    · cases e
def itSrc : R Src → (Src → Src) → R Src
  | .ok s S, f => .ok (f s) S
  | .exc q S, _ => .exc q S
  | .bad, _ => .bad
def mEnum (a : MA) : MI := fun g => SM.bind (a g) fun l S => match l with
  | [d] => (match mSrcD false d S with
    | .ok s S' => .ok (sqe s) S'
    | _ => .bad)
  | _ => .bad
theorem qi_enum {e : Expr} {ma : MA} {p pos tpos : Pos} {elts : List Expr} {kk : Nat} (hK : X.K = c.K) (hg : Gl X "enumerate") (hm : X.mg "enumerate" = none) (ha : PA X [e] (rdA c E ma)) (hs : starEach [e] X.env = [(false, eval e X.env)] := by rfl) :
    PI X (.Tuple elts kk tpos) (.Call (.Name "enumerate" p) [e] [] pos) (rdI c E (mEnum ma)) :=
  PI.imp (pi_enum hg hm ha hs) fun σ H Q ⟨m, S, g, s, rg, q⟩ => seqIA s rg q fun m1 S1 H1 l vs a rs q1 => by
    rw [hK]
    split at q1
    · obtain ⟨v, w, rfl, r1, r2⟩ := rd_cons rs
      rw [rd_nil r2]
      split at q1
      · rename_i sr S' e1
        obtain ⟨rfl, p, rfl, hq, vs, hv⟩ := sq_of a.sim r1 e1
        exact ⟨p, vs, rfl, hv, q1 m1 H1 _ (Nxt.refl a.sim) (it_enum hq)⟩
      · exact q1.elim
    · exact q1.elim
def mZip (a : MA) : MI := fun g => SM.bind (a g) fun l S => match l with
  | [d, e] => (match mSrcD false d S, mSrcD false e S with
    | .ok s _, .ok t _ => .ok (sqz s t) S
    | _, _ => .bad)
  | _ => .bad
theorem qi_zip {e e2 : Expr} {ma : MA} {p pos tpos : Pos} {elts : List Expr} {kk : Nat} (hK : X.K = c.K) (hg : Gl X "zip") (hm : X.mg "zip" = none) (ha : PA X [e, e2] (rdA c E ma)) (hs : starEach [e, e2] X.env = (false, eval e X.env) :: starEach [e2] X.env := by rfl)
    (hpl : (backTo pos (starEach [e2] X.env)).any (·.1) = false := by rfl) :
    PI X (.Tuple elts kk tpos) (.Call (.Name "zip" p) [e, e2] [] pos) (rdI c E (mZip ma)) :=
  PI.imp (pi_zip hg hm ha hs hpl) fun σ H Q ⟨m, S, g, s, rg, q⟩ => seqIA s rg q fun m1 S1 H1 l vs a rs q1 => by
    rw [hK]
    split at q1
    · obtain ⟨v, w, rfl, r1, r2⟩ := rd_cons rs
      obtain ⟨v2, w2, rfl, r3, r4⟩ := rd_cons r2
      rw [rd_nil r4]
      split at q1
      · rename_i sr _ sr2 _ e1 e2
        obtain ⟨_, p, rfl, hq, vs, hv⟩ := sq_of a.sim r1 e1
        obtain ⟨_, p2, rfl, hq2, vs2, hv2⟩ := sq_of a.sim r3 e2
        exact ⟨p, p2, vs, vs2, rfl, hv, hv2, q1 m1 H1 _ (Nxt.refl a.sim) (it_zip hq hq2)⟩
      · exact q1.elim
    · exact q1.elim
/-! ### for -/
def forG (sr : Src) (step : D → MS) : Nat → Nat → MS
  | 0, i => fun g S => match sr.nxt i S with
    | some none => .nx g S
    | _ => .bad
  | r + 1, i => fun g S => match sr.nxt i S with
    | some none => .nx g S
    | some (some d) => (match step d g S with
      | .nx g' S' => forG sr step r (i + 1) g' S'
      | .ct g' S' => forG sr step r (i + 1) g' S'
      | .bk g' S' => .nx g' S'
      | .rt v S' => .rt v S'
      | .ex q S' => .ex q S'
      | .bad => .bad)
    | none => .bad
def mStep (t : MG) (b : MS) : D → MS := fun d g S => match t d g S with
  | .nx g' S' => b g' S'
  | .ex q S' => .ex q S'
  | _ => .bad
def mFor (src : MI) (t : MG) (b : MS) : MS := fun g S => match src g S with
  | .ok sr S' => forG sr (mStep t b) sr.n 0 g S'
  | .exc q S' => .ex q S'
  | .bad => .bad
theorem qs_for {tg iter : Expr} {body : List Stmt} {mi : MI} {t : MG} {b : MS} {pos : Pos} (hp : PassesOwn (model X.prog X.w) X.A X.env X.xe) (hc : X.calm = true) (hi : PI X tg iter (rdI c E mi)) (hg : PG X tg (rdG c E t)) (hb : PSs X body (rdS c E b))
    (hs : ∀ x, foldedSetIterable iter X.env x = pure x := by intro _; rfl) : PS X (.For tg iter body [] pos) (rdS c E (mFor mi t b)) :=
  PS.imp (ps_for hp hc hi hg hb hs) fun Z σ H ⟨m, S, g, s, rg, q⟩ => by
    refine ⟨m, S, g, s, rg, ?_⟩
    unfold mFor at q
    cases e : mi g S with
    | exc p S1 => rw [e] at q; exact q
    | bad => rw [e] at q; exact q.elim
    | ok sr S1 =>
      rw [e] at q
      intro m1 H1 J a io
      refine ⟨fun i k σ H => ∃ m S g, Nxt c m1 S1 H1 m S H ∧ RelG c m S.n H g σ ∧ PoS c E m S H Z (forG sr (mStep t b) k i g S), ⟨sr.n, m1, S1, g, Nxt.refl a.sim, a.relG rg, PoS.go s a q⟩, ?_⟩
      rintro i k σ2 H2 ⟨m2, S2, g2, n2, rg2, q2⟩
      cases hn : sr.nxt i S2 with
      | none => cases k <;> (unfold forG at q2; rw [hn] at q2; exact q2.elim)
      | some o =>
        cases o with
        | none =>
          refine .inl ⟨io.stop i m2 S2 H2 n2 hn, ?_⟩
          cases k <;> (unfold forG at q2; rw [hn] at q2; exact q2 m2 H2 σ2 (Nxt.refl n2.sim) rg2)
        | some d =>
          cases k with
          | zero => unfold forG at q2; rw [hn] at q2; exact q2.elim
          | succ k =>
            unfold forG at q2
            rw [hn] at q2
            dsimp only at q2
            obtain ⟨h1, h2⟩ := io.go i m2 S2 H2 d n2 hn
            refine .inr ⟨h1, fun σ' H' => ∃ m S g, Nxt c m1 S1 H1 m S H' ∧ RelG c m S.n H' g σ' ∧ PoS c E m S H' Z (forG sr (mStep t b) k (i + 1) g S), fun σ' H' w => ⟨k, Nat.lt_succ_self k, w⟩, fun x H' y => ?_⟩
            obtain ⟨n3, r3⟩ := h2 x H' y
            have q3 := PoS.go n2.sim n3 q2
            have n23 := n2.trans a.sim n3
            refine ⟨m2, S2, g2, d, n3.sim, n3.relG rg2, r3, ?_⟩
            unfold mStep at q3
            cases e3 : t d g2 S2 with
            | nx g4 S4 =>
              rw [e3] at q3
              intro m4 H4 σ4 n4 rg4
              refine ⟨m4, S4, g4, n4.sim, rg4, ?_⟩
              have q4 := PoS.go n3.sim n4 q3
              have n24 := n23.trans a.sim n4
              dsimp only at q4
              cases e4 : b g4 S4 with
              | nx g5 S5 => rw [e4] at q4; exact fun m5 H5 σ5 n5 rg5 => ⟨m5, S5, g5, n24.trans a.sim n5, rg5, PoS.go n4.sim n5 q4⟩
              | ct g5 S5 => rw [e4] at q4; exact fun m5 H5 σ5 n5 rg5 => ⟨m5, S5, g5, n24.trans a.sim n5, rg5, PoS.go n4.sim n5 q4⟩
              | bk g5 S5 => rw [e4] at q4; exact q4
              | rt v S5 => rw [e4] at q4; exact q4
              | ex p S5 => rw [e4] at q4; exact q4
              | bad => rw [e4] at q4; exact q4.elim
            | ex p S4 => rw [e3] at q3; exact q3
            | rt _ _ => rw [e3] at q3; exact q3.elim
            | bk _ _ => rw [e3] at q3; exact q3.elim
            | ct _ _ => rw [e3] at q3; exact q3.elim
            | bad => rw [e3] at q3; exact q3.elim
/-! ### while -/
def whileG (t : MT) (b : MS) : Nat → MS
  | 0 => fun _ _ => .bad
  | k + 1 => fun g S => toRST (t g S) fun v S1 => if v = true then (match b g S1 with
      | .nx g' S' => whileG t b k g' S'
      | .ct g' S' => whileG t b k g' S'
      | .bk g' S' => .nx g' S'
      | .rt v S' => .rt v S'
      | .ex q S' => .ex q S'
      | .bad => .bad) else .nx g S1
theorem qs_while {t : Expr} {body : List Stmt} {mt : MT} {b : MS} {pos : Pos} (k : Nat) (hp : PassesOwn (model X.prog X.w) X.A X.env X.xe) (ht : PT X t (rdT c E mt)) (hb : PSs X body (rdS c E b)) : PS X (.While t body [] pos) (rdS c E (whileG mt b k)) :=
  PS.imp (ps_while hp ht hb) fun Z σ H ⟨m, S, g, s, rg, q⟩ => by
    refine ⟨fun k σ H => ∃ m S g, Sim c m S H ∧ RelG c m S.n H g σ ∧ PoS c E m S H Z (whileG mt b k g S), ⟨k, m, S, g, s, rg, q⟩, ?_⟩
    rintro k σ1 H1 ⟨m1, S1, g1, s1, rg1, q1⟩
    cases k with
    | zero => exact q1.elim
    | succ k =>
      unfold whileG at q1
      refine seqST s1 rg1 q1 fun m2 S2 H2 v a2 q2 => ?_
      cases v with
      | false => exact q2 m2 H2 σ1 (Nxt.refl a2.sim) (a2.relG rg1)
      | true =>
        refine ⟨fun σ' H' => ∃ m S g, Sim c m S H' ∧ RelG c m S.n H' g σ' ∧ PoS c E m S H' Z (whileG mt b k g S), fun σ' H' w => ⟨k, Nat.lt_succ_self k, w⟩, m2, S2, g1, a2.sim, a2.relG rg1, ?_⟩
        rw [if_pos rfl] at q2
        cases e4 : b g1 S2 with
        | nx g5 S5 => rw [e4] at q2; exact fun m5 H5 σ5 n5 rg5 => ⟨m5, S5, g5, n5.sim, rg5, PoS.go a2.sim n5 q2⟩
        | ct g5 S5 => rw [e4] at q2; exact fun m5 H5 σ5 n5 rg5 => ⟨m5, S5, g5, n5.sim, rg5, PoS.go a2.sim n5 q2⟩
        | bk g5 S5 => rw [e4] at q2; exact q2
        | rt v S5 => rw [e4] at q2; exact q2
        | ex p S5 => rw [e4] at q2; exact q2
        | bad => rw [e4] at q2; exact q2.elim
end
end Y

set_option Elab.async false
set_option linter.all false
set_option maxRecDepth 100000
set_option maxHeartbeats 2000000
/-! Y8b: comprehensions whose parts may raise. -/
namespace Y
open PySem PySem.Spec PyProof.Rows L2
theorem note_env {u : Value} {env env' : Env} (h : env.frame = env'.frame) : noteFrame u env = noteFrame u env' := by
  unfold noteFrame PySem.frameOf
  rw [h]
theorem ns_of {h h' : Heap} {g : Addr} {ms : Str → Option Value} (n : h.Ns g ms) (k : ∀ o, h.get? g = some o → h'.get? g = some o) : h'.Ns g ms := by
  obtain ⟨ob, es, ep, ho, r⟩ := n
  exact ⟨ob, es, ep, k ob ho, r⟩
/-- an exception that X's frame, at L, has noted -/
def HE (X : Cx) (L : Addr) (E : XK) (u : Value) (s' : Shared) : Prop :=
  ∃ (a : Addr) (B : Heap) (sI : Shared) (pins : List (Addr × Obj)) (σ : L2.St) (H : Hp) (cls : Value) (d : Option Addr), u = .ref a ∧ Inv X pins σ H sI ∧
    (∀ b o, sI.heap.get? b = some o → b ∉ frs X.stack → B.get? b = some o) ∧ sI.heap.UpToSlots s'.heap ∧ HandSPX.HeldZ B X.stack a (Zc cls d) L s'.heap ∧ H a = none ∧ s'.os = sI.os ∧ AllBare s'.gens ∧ E cls d H
/-- such an exception may leave X -/
structure Fl (X : Cx) (E : XK) : Prop where
  fr : ∃ e0 r L, X.stack = e0 :: r ∧ e0.frame = some L ∧ X.env.frame = some L
  go : ∀ L, X.env.frame = some L → ∀ u s', HE X L E u s' → X.xe u s'
theorem fl_of {X : Cx} {E : XK} (hs : X.stack = X.env :: X.outer) (hf : X.env.frame = some X.env.locals) (tk : Takes X (fun cls d _ H => E cls d H)) : Fl X E := by
  refine ⟨⟨X.env, X.outer, X.env.locals, hs, hf, hf⟩, fun L eL u s' ⟨a, B, sI, pins, σ, H, cls, d, h1, h2, h3, h4, h5, h6, h7, h8, h9⟩ => ?_⟩
  rw [hf] at eL
  cases eL
  exact tk u s' ⟨a, B, sI, pins, σ, H, cls, d, h1, h2, h3, h4, .inr (.inr h5), h6, h7, h8, h9⟩
/-- the block's context where exceptions go on out of it -/
abbrev blkX (X : Cx) (s : Shared) (H : Hp) (scope : Scope) (cenv : Env) (fp : List Addr) : Cx := { X.blk s H scope cenv fp with xe := notedBy (model X.prog X.w) X.A cenv (CompFails (model X.prog X.w) X.A X.xe cenv) }
section
variable {X : Cx} {pins : List (Addr × Obj)} {σ : L2.St} {H : Hp} {s : Shared}
theorem inv_xe {xe : Value → Shared → Prop} (I : Inv X pins σ H s) : Inv { X with xe := xe } pins σ H s :=
  ⟨⟨I.ok.mod, I.ok.kind, I.ok.glob, I.ok.blt, I.ok.above, I.ok.inj, I.ok.has, I.ok.cab, I.ok.hd, I.ok.frames, I.ok.stk, I.ok.exf, I.ok.bs, I.ok.bsz, I.ok.noex, I.ok.exfs, I.ok.funs, I.ok.frf⟩, I.os, I.bare, I.base, I.loc, I.cell, I.free, I.freeC, I.pin, I.hok, I.len⟩
end
theorem frames_but {B B' h h' : Heap} {C : Addr} (nb : ∀ b, b ≠ C → B'.get? b = B.get? b) (sb : ∀ b, b ≠ C → h'.get? b = h.get? b) : ∀ {l : List Env}, C ∉ frs l → h.FunFrames B l → h'.FunFrames B' l
  | [], _, _ => trivial
  | env :: r, hC, ⟨hk, ⟨L, o, hf, hn, ho, hd⟩, hr⟩ => by
    have hm : L ≠ C := fun z => hC (List.mem_filterMap.mpr ⟨env, List.mem_cons_self, by rw [hf, z]⟩)
    refine ⟨hk, ⟨L, o, hf, by rw [nb L hm]; exact hn, by rw [sb L hm]; exact ho, hd⟩, frames_but nb sb (fun z => hC ?_) hr⟩
    obtain ⟨e, h1, h2⟩ := List.mem_filterMap.mp z
    exact List.mem_filterMap.mpr ⟨e, List.mem_cons_of_mem _ h1, h2⟩
theorem held_but {B h h' : Heap} {l : List Env} {a L C : Addr} {Z : Obj → Prop} {ob ob' : Obj} (held : HandSPX.HeldZ B l a Z L h) (eB : B.get? C = some ob) (e' : h'.get? C = some ob') (hf' : ob'.isFreed = false) (hC : C ∉ frs l) (sb : ∀ b, b ≠ C → h'.get? b = h.get? b) :
    HandSPX.HeldZ (B.update C fun _ => ob') l a Z L h' := by
  obtain ⟨k1, k2, k3, oe, vs, T, oT, ts, t1, t2, t3, t4, t5, t6, t7, t8, t9⟩ := held
  have nb : ∀ b, b ≠ C → (B.update C fun _ => ob').get? b = B.get? b := fun b hb => Heap.get?_update_other _ _ (Ne.symm hb)
  have atC : (B.update C fun _ => ob').get? C = some ob' := Heap.get?_update_self _ eB hf'
  have aC : a ≠ C := fun z => by rw [z, eB] at k2; cases k2
  have TC : T ≠ C := fun z => by rw [z, eB] at t5; cases t5
  refine ⟨fun b o e => ?_, by rw [nb a aC]; exact k2, frames_but nb sb hC k3, oe, vs, T, oT, ts, by rw [sb a aC]; exact t1, t2, t3, t4, by rw [nb T TC]; exact t5, t6, by rw [sb T TC]; exact t7, t8, t9⟩
  by_cases hb : b = C
  · subst hb
    rw [atC] at e
    cases e
    exact e'
  · rw [nb b hb] at e
    rw [sb b hb]
    exact k1 b o e
section
variable {X : Cx} {E : XK} {pz : List (Addr × Obj)} {z : L2.St} {HB : Hp} {sB : Shared} {scope : Scope} {clB : List (Str × Addr)} {fB : List Addr}
/-- what a noted exception does behind the block -/
theorem fails_of {L : Addr} (F : Fl X E) (IB : Inv X pz z HB sB) (fpB : ∀ b ∈ fB, FpOk X pz HB b ∧ b < sB.heap.objs.size) (hL : X.env.frame = some L) {u : Value} {s' : Shared}
    (x : HE (blkX X sB HB scope (compEnvC scope clB sB.heap.objs.size X.env) fB) L E u s') : CompFails (model X.prog X.w) X.A X.xe (compEnvC scope clB sB.heap.objs.size X.env) u s' := by
  obtain ⟨a, B, sI, pins, σ, H, cls, d, rfl, I, nb, up, held, na, os, ag, hE⟩ := x
  obtain ⟨C, eC⟩ : ∃ C, C = sB.heap.objs.size := ⟨_, rfl⟩
  have nfr : C ∉ frs X.stack := fun hm => by
    obtain ⟨_, o, ho, _⟩ := IB.stack.mem hm
    have := Heap.lt_size ho
    rw [eC] at this
    exact Nat.lt_irrefl _ this
  obtain ⟨m, ns0, _⟩ := I.loc
  have ns : sI.heap.Ns C m := by rw [eC]; exact ns0
  have nC : H C = none := by rw [eC]; exact I.free
  obtain ⟨ob, es, ep, ho, hrest⟩ := id ns
  have oB : B.get? C = some ob := nb C ob ho nfr
  have ns1 : s'.heap.Ns C m := ns_of ns fun o e => held.1 C o (nb C o e nfr)
  have ns2 : s'.heap.Ns (compEnvC scope clB sB.heap.objs.size X.env).locals m := by
    show s'.heap.Ns sB.heap.objs.size m
    rw [← eC]
    exact ns1
  refine ⟨m, ns2, fun h' m' hn' sb0 => ?_⟩
  have sb : ∀ b, b ≠ C → h'.get? b = s'.heap.get? b := fun b hb => sb0.2 b (by rw [eC] at hb; exact hb)
  have hn : h'.Ns C m' := by rw [eC]; exact hn'
  obtain ⟨ob', es', ep', ho', hrest'⟩ := id hn
  have fr' : ob'.isFreed = false := (Heap.get?_some_iff.mp ho').2
  have held' := held_but held oB ho' fr' nfr sb
  have IO : Inv X pz z H sI := IB.call' (ch := fB) I.os I.base I.hok I.bare fun b hb => ⟨(fpB b hb).1.2.2.2.1, (fpB b hb).1.2.1, (fpB b hb).1.2.2.2.2.1, (fpB b hb).1.2.2.2.2.2⟩
  obtain ⟨f0, f1, f2, f3, f4, f5⟩ := IB.fpOk (b := C) (H' := H) (by rw [eC]; exact Nat.le_refl _) nC
  have nI : ∀ b, b ≠ C → (sI.heap.update C fun _ => ob').get? b = sI.heap.get? b := fun b hb => Heap.get?_update_other _ _ (Ne.symm hb)
  have IT := IO.turned (t' := sI.toks) (h' := sI.heap.update C fun _ => ob') (it := C) (fun b o hb e => by rw [nI b hb]; exact e) f0 f1 f3 f4 f5
  obtain ⟨k1, k2, k3, oe, vs, T, oT, ts, t1, t2, t3, t4, t5⟩ := id held'
  unfold PySem.passOn
  refine wpAny_bind (wpAny_field t1 t3 t4 ?_)
  rw [if_neg (show ¬ ((Value.ref T == Value.none) = true) from by simp)]
  have fin : wpAny (model X.prog X.w) X.A (setFlight (.ref a) (compEnvC scope clB sB.heap.objs.size X.env).frame) (fun _ s₂ => wpAny (model X.prog X.w) X.A (throw (.ref a) : Sem Value) (fun _ _ => False) X.xe s₂) X.xe { s' with heap := h' } := by
    show wpAny _ _ (setFlight (.ref a) X.env.frame) _ _ _
    rw [hL]
    refine HandSPX.setFlight_onZ held' fun h2 held2 up2 => wpAny_throw (F.go L hL _ _ ?_)
    refine ⟨a, _, _, pz, z, H, cls, d, rfl, IT, fun b o e hb => ?_, fun b o e hd => ?_, held2, na, os, ag, hE⟩
    · by_cases hC : b = C
      · subst hC
        have e : (sI.heap.update b fun _ => ob').get? b = some o := e
        rw [Heap.get?_update_self _ ho fr'] at e
        rw [Heap.get?_update_self _ oB fr']
        exact e
      · have e : (sI.heap.update C fun _ => ob').get? b = some o := e
        rw [nI b hC] at e
        rw [Heap.get?_update_other _ _ (Ne.symm hC)]
        exact nb b o e hb
    · by_cases hC : b = C
      · subst hC
        have e : (sI.heap.update b fun _ => ob').get? b = some o := e
        rw [Heap.get?_update_self _ ho fr'] at e
        cases e
        exact up2 b _ ho' hd
      · have e : (sI.heap.update C fun _ => ob').get? b = some o := e
        rw [nI b hC] at e
        obtain ⟨sl, e1⟩ := up b o e hd
        rw [← sb b hC] at e1
        obtain ⟨sl2, e2⟩ := up2 b _ e1 hd
        exact ⟨sl2, e2⟩
  first
    | exact wpAny_bind (wpAny_pure (wpAny_bind fin))
    | exact wpAny_bind fin
theorem fl_blk (F : Fl X E) (IB : Inv X pz z HB sB) (fpB : ∀ b ∈ fB, FpOk X pz HB b ∧ b < sB.heap.objs.size) : Fl (blkX X sB HB scope (compEnvC scope clB sB.heap.objs.size X.env) fB) E := by
  obtain ⟨e0, r, L, h1, h2, h3⟩ := F.fr
  refine ⟨⟨e0, r, L, h1, h2, h3⟩, fun L' hL u s' x => ?_⟩
  have hL : X.env.frame = some L' := hL
  have y := fails_of F IB fpB hL x
  obtain ⟨a, B, sI, pins, σ, H, cls, d, rfl, I, nb, up, held, na, os, ag, hE⟩ := x
  exact HandSPX.againZ (env := compEnvC scope clB sB.heap.objs.size X.env) hL held.2.2.2 y
theorem passes_blk (F : Fl X E) (IB : Inv X pz z HB sB) (fpB : ∀ b ∈ fB, FpOk X pz HB b ∧ b < sB.heap.objs.size) :
    Passes (L2.CX X.prog X.w) (blkX X sB HB scope (compEnvC scope clB sB.heap.objs.size X.env) fB) E := by
  obtain ⟨e0, r, L, h1, h2, h3⟩ := F.fr
  intro pins σ H s u s' I c
  have cc := c
  obtain ⟨a0, B0, H0, cls0, d0, eu, fl0, _⟩ := cc
  subst eu
  obtain ⟨_, _, _, oe0, vs0, T0, oT0, ts0, q1, q2, q3, q4, q5, q6, q7, q8, q9⟩ := fl0
  have x := XE.of_call (W := fun cls d _ H => E cls d H) I (fun _ _ _ h => h) c
  obtain ⟨a, B, sI, pins, σ, H, cls, d, ea, I, nb, up, sky, na, os, ag, hE⟩ := x
  cases ea
  have fly : HandSPX.FlyingZ B X.stack a0 (Zc cls d) s'.heap := by
    rcases sky with ⟨_, _, _, oe, vs, he, _, hd, hv⟩ | fl | ⟨k1, k2, k3, oe, vs, T, oT, ts, t1, t2, t3, t4, t5, t6, t7, t8, t9⟩
    · rw [q1] at he
      cases he
      rw [q3] at hd
      cases hd
      rw [q4] at hv
      cases hv
    · exact fl
    · rw [q1] at t1
      cases t1
      rw [q3] at t3
      cases t3
      rw [q4] at t4
      cases t4
      rw [q7] at t7
      cases t7
      rw [q8] at t8
      cases t8
      rw [q9] at t9
      cases t9
  have hfr : X.A.frames = some (e0 :: r) := by rw [IB.ok.frames, h1]
  show wpAny _ _ (noteFrame (.ref a0) (compEnvC scope clB sB.heap.objs.size X.env)) _ _ _
  rw [note_env (env' := e0) (show (compEnvC scope clB sB.heap.objs.size X.env).frame = e0.frame from h3.trans h2.symm)]
  refine HandSPX.looks_onZ Zc.steady hfr h2 (by rw [← h1]; exact fly) fun h' held up' => ?_
  refine fails_of F IB fpB h3 ⟨a0, B, sI, pins, σ, H, cls, d, rfl, I, nb, up.trans up', by show HandSPX.HeldZ B X.stack _ _ _ _; rw [h1]; exact held, na, os, ag, hE⟩
end
end Y

set_option Elab.async false
set_option linter.all false
set_option maxRecDepth 100000
set_option maxHeartbeats 2000000
/-! Y8c: list comprehensions whose parts may raise: as a value, as an assignment. -/
namespace Y
open PySem PySem.Spec PyProof.Rows L2
section
variable {X : Cx}
theorem noted_ends {M : Model} {A : Around} {E : Value → Shared → Prop} {use : Option (Value → Sem Unit)} {Qf : Value → Shared → Prop} {acc u : Value} {ce : Env} {s' : Shared} (h : notedBy M A ce (CompFails M A E ce) u s') : notedBy M A ce (fun e s2 => compEnds M A E use Qf acc ce (.error e) s2) u s' := by
  cases use <;> exact h
/-- what the parts of a comprehension are shown of -/
abbrev PartsX (X : Cx) (scope : Scope) (R : Cx → Prop) : Prop := ∀ (pz : List (Addr × Obj)) (z : L2.St) (sB : Shared) (HB : Hp) (clB : List (Str × Addr)) (fB : List Addr), Inv X pz z HB sB → (∀ b ∈ fB, FpOk X pz HB b ∧ b < sB.heap.objs.size) → R (blkX X sB HB scope (compEnvC scope clB sB.heap.objs.size X.env) fB)
theorem lcx_core {own : List (Str × Nat)} {wi : TI} {g : TG} {tt : TT} {te : TE} {elt tg iter : Expr} {ifs : List Expr} {scope : Scope} {cpos ipos : Pos} {use : Option (Value → Sem Unit)} {Qf : Value → Shared → Prop} {pz : List (Addr × Obj)} {z : L2.St} {HA : Hp} {sA : Shared} {Q : VK}
    (calm : X.calm = true) (nd : X.N.Nodup) (IA : Inv X pz z HA sA) (hit : PI X tg iter wi) (bok : BlkOk X.N X.env.scope scope own)
    (parts : PartsX X scope fun BX => PG BX tg g ∧ PTs BX ifs tt ∧ PE BX elt te)
    (fold : ∀ x, foldedSetIterable iter X.env x = pure x) (rdg : tLc wi g tt te (own.map (·.2)) z HA Q)
    (fin : ∀ (D : Addr) (ce : Env) (s' : Shared) (m : Str → Option Value) (H' : Hp), Inv X pz z H' s' → Q (.ref D) H' → s'.heap.Ns ce.locals m → FpOk X pz H' ce.locals → compEnds (model X.prog X.w) X.A X.xe use Qf (.ref D) ce (.ok .next) s') :
    wpAny (model X.prog X.w) X.A (comprehension (.ListComp elt [⟨tg, iter, ifs, 0⟩] scope cpos) scope X.env ipos (newList []) false (eval iter X.env) use) Qf X.xe sA := by
  have clo : ∀ y ∈ scope.names, y.2 = .free → ∃ d, X.env.cells.lookup y.1 = some d := by
    intro y hy fr
    exact IA.ok.has _ (bok.free y hy fr)
  refine comprehension_at rfl fold (closure_ok clo) bok.kind (fun y hy l => (bok.uniq y hy).trans (congrArg some l)) ?_
  refine thn (hit.run pz sA z HA _ IA rdg) fun xv sX lv => ?_
  refine thn lv fun iv sI got => ?_
  obtain ⟨ia, fB, tn, J, HI, rfl, II, TT, tn0, fpI, more⟩ := got
  refine wpAny_newObj_type (newEnv_comp ?_) (Nat.zero_le _)
  obtain ⟨DD, eD⟩ : ∃ d, d = sI.heap.objs.size := ⟨_, rfl⟩
  obtain ⟨sB, eB⟩ : ∃ s, s = ({ sI with heap := sI.heap.push { cls := .type "list", data := .seq ([] : List Value).toArray } } : Shared) := ⟨_, rfl⟩
  obtain ⟨HB, eH⟩ : ∃ h, h = upd HI DD (.lst []) := ⟨_, rfl⟩
  have freshD : HI DD = none := II.hok.fresh (Nat.le_of_eq eD.symm)
  have hpB : sB.heap = sI.heap.push { cls := .type "list", data := .seq ([] : List Value).toArray } := by rw [eB]
  have IB : Inv X pz z HB sB := by
    rw [eB, eH]
    refine II.laid (t' := sI.toks) (fun _ _ k => Heap.get?_push_of_some _ k) (Nat.le_of_eq eD.symm) ⟨Nat.zero_le _, [], 0, .nil, ?_⟩
    rw [eD]
    exact Heap.get?_push_size _ rfl
  have fpB : ∀ b ∈ fB, FpOk X pz HB b ∧ b < sB.heap.objs.size := by
    intro b hb
    obtain ⟨ob, eo, _⟩ := TT.obj _ _ tn0 b hb
    have lt := Heap.lt_size eo
    refine ⟨⟨?_, (fpI b hb).2⟩, ?_⟩
    · rw [eH, upd_ne (by rw [eD]; exact Nat.ne_of_lt lt)]
      exact (fpI b hb).1
    · rw [hpB, Heap.size_push]
      exact Nat.lt_succ_of_lt lt
  have tnB : tn 0 sB.heap := TT.keep _ _ _ tn0 fun b _ ob k => by
    rw [hpB]
    exact Heap.get?_push_of_some _ k
  have blk0 := block_start IB bok nd fpB
  obtain ⟨pg, pt, pe⟩ := parts pz z sB HB (cellsFrom (sB.heap.objs.size + 1) scope.names (cloFrom X.env.cells scope.names [])) fB IB fpB
  obtain ⟨W, ⟨k0, w0⟩, turn⟩ := more DD freshD
  rw [← eH] at w0
  rw [← eB, ← eD]
  show codeAny _ _ (.compStart (.ListComp elt [⟨tg, iter, ifs, 0⟩] scope cpos) 0 (.ref ia) (.ref DD) (compEnvC scope (cellsFrom (sB.heap.objs.size + 1) scope.names (cloFrom X.env.cells scope.names [])) sB.heap.objs.size X.env)) (compEnds (model X.prog X.w) X.A X.xe use Qf (.ref DD) (compEnvC scope (cellsFrom (sB.heap.objs.size + 1) scope.names (cloFrom X.env.cells scope.names [])) sB.heap.objs.size X.env)) { sB with heap := pushCells (sB.heap.push { cls := .type "dict", data := .dict #[] }) scope.names }
  obtain ⟨ce, ece⟩ : ∃ e, e = compEnvC scope (cellsFrom (sB.heap.objs.size + 1) scope.names (cloFrom X.env.cells scope.names [])) sB.heap.objs.size X.env := ⟨_, rfl⟩
  rw [← ece] at blk0 pg pt pe ⊢
  have ceL : ce.locals = sB.heap.objs.size := by rw [ece] <;> rfl
  obtain ⟨sC, eC⟩ : ∃ s, s = ({ sB with heap := pushCells (sB.heap.push { cls := .type "dict", data := .dict #[] }) scope.names } : Shared) := ⟨_, rfl⟩
  rw [← eC] at blk0 ⊢
  have blk : Inv (blkX X sB HB scope ce fB) [] (wipe z (own.map (·.2))) HB sC := inv_xe blk0
  have tnC : tn 0 sC.heap := TT.keep _ _ _ tnB fun b _ ob k => by
    rw [eC]
    exact pushCells_keeps _ _ _ _ (Heap.get?_push_of_some _ k)
  have fpIn : ∀ {zz : L2.St} {HH : Hp} {ss : Shared}, Inv (blkX X sB HB scope ce fB) [] zz HH ss → (∀ b ∈ fB, HH b = none) → ∀ b ∈ fB, FpOk (blkX X sB HB scope ce fB) [] HH b := by
    intro zz HH ss II nn b hb
    exact ⟨nn b hb, (II.ok.exf b hb).1, II.ok.exfs b hb, .inl hb, fun x d e => (II.ok.exf b hb).2 x d e, fun p hp => nomatch (show p ∈ ([] : List (Addr × Obj)) from hp)⟩
  have walk : codeAny (model X.prog X.w) X.A (.compLoop (.ListComp elt [⟨tg, iter, ifs, 0⟩] scope cpos) 0 (.ref ia) (.ref DD) ce) (compEnds (model X.prog X.w) X.A X.xe use Qf (.ref DD) ce) sC := by
    refine compLoop_any (fun k st => ∃ i HH, Inv (blkX X sB HB scope ce fB) [] (wipe z (own.map (·.2))) HH st ∧ tn i st.heap ∧ (∀ b ∈ fB, HH b = none) ∧ W i k HH) ?_ k0 ⟨0, HB, blk, tnC, fun b hb => (fpB b hb).1.1, w0⟩
    rintro k st ⟨i, HH, IH, tnH, nnH, wH⟩
    rcases turn i k HH wH with ⟨stop, qq⟩ | ⟨go, Nx, hNx, step⟩
    · refine thnF (TT.done (blkX X sB HB scope ce fB) rfl rfl rfl calm i [] st _ HH (fun _ _ => False) IH (fpIn IH nnH) tnH stop) fun r sE ⟨er, IE⟩ => ?_
      subst er
      have IO : Inv X pz z HH sE := IB.call' (ch := fB) IE.os IE.base IE.hok IE.bare fun b hb => ⟨(fpB b hb).1.2.2.2.1, (fpB b hb).1.2.1, (fpB b hb).1.2.2.2.2.1, (fpB b hb).1.2.2.2.2.2⟩
      have nn : HH ce.locals = none := IE.free
      obtain ⟨mm, ns, _⟩ := IE.loc
      have ns : sE.heap.Ns ce.locals mm := ns
      exact fin DD ce sE mm HH IO qq ns (IB.fpOk (by rw [ceL]; exact Nat.le_refl _) nn)
    · refine thnF (TT.item (blkX X sB HB scope ce fB) rfl rfl rfl calm i [] st _ HH (fun _ _ => False) IH (fpIn IH nnH) tnH go) fun r s6 ⟨u, er, h6⟩ => ?_
      subst er
      refine thnF h6 fun _ s7 ⟨x, H7, I7, r7, y7, tn7, n7⟩ => ?_
      have P7 := I7.pinned (fpIn I7 n7) (TT.obj _ _ tn7)
      refine wpAny_mono (pg.run _ s7 _ H7 x u _ P7 r7 (step x H7 y7)) (fun _ s8 ⟨z8, H8, I8, ez, q8⟩ => ?_) fun _ _ h => noted_ends h
      have again : ∀ {ss : Shared} {HX : Hp}, Inv (blkX X sB HB scope ce fB) ([] ++ pinsAt fB s7.heap) z8 HX ss → Nx HX → ∃ j, j < k ∧ ∃ i HX, Inv (blkX X sB HB scope ce fB) [] (wipe z (own.map (·.2))) HX ss ∧ tn i ss.heap ∧ (∀ b ∈ fB, HX b = none) ∧ W i j HX := by
        intro ss HX IX nx
        obtain ⟨j, lt, wX⟩ := hNx HX nx
        have same : ∀ b ∈ fB, ∀ ob, s7.heap.get? b = some ob → ss.heap.get? b = some ob ∧ HX b = none := by
          intro b hb ob k
          have pp := IX.pin (b, ob) (List.mem_append_right _ (List.mem_append_right _ (mem_pinsAt hb k)))
          exact ⟨pp.1, pp.2.1⟩
        refine ⟨j, lt, i + 1, HX, (IX.unpinned (pins := [])).weak (by rw [← ez, wipe_length]) (fun n v e => (wipe_some (by rw [ez]; exact e)).1), TT.keep _ _ _ tn7 fun b hb ob k => (same b hb ob k).1, fun b hb => ?_, wX⟩
        obtain ⟨ob, k, _⟩ := TT.obj _ _ tn7 b hb
        exact (same b hb ob k).2
      refine wpAny_mono (pt.run _ s8 z8 H8 _ I8 q8) (fun b s9 ⟨H9, I9, q9⟩ => ?_) fun _ _ h => noted_ends h
      cases b with
      | false =>
        rw [if_neg Bool.false_ne_true] at q9 ⊢
        exact again I9 q9
      | true =>
        rw [if_pos rfl] at q9 ⊢
        refine wpAny_mono (pe.run _ s9 z8 H9 _ I9 q9) (fun v sV ⟨yv, HV, IV, rV, acc, eV, lV, nx⟩ => ?_) fun _ _ h => noted_ends h
        exact app_ok (X := blkX X sB HB scope ce fB) IV eV lV rV fun sW IW => again IW nx
  exact codeAny_compStart_list walk (TT.self X.A 0 _ _ _ tnC walk)
theorem lcx_pe {own : List (Str × Nat)} {wi : TI} {g : TG} {tt : TT} {te : TE} {elt tg iter : Expr} {ifs : List Expr} {scope : Scope} {cpos : Pos} (calm : X.calm = true) (nd : X.N.Nodup) (hit : PI X tg iter wi) (bok : BlkOk X.N X.env.scope scope own)
    (parts : PartsX X scope fun BX => PG BX tg g ∧ PTs BX ifs tt ∧ PE BX elt te) (fold : ∀ x, foldedSetIterable iter X.env x = pure x := by intro _; rfl) :
    PE X (.ListComp elt [⟨tg, iter, ifs, 0⟩] scope cpos) (tLc wi g tt te (own.map (·.2))) := by
  refine ⟨fun pz sA z HA Q IA rdg => ?_⟩
  rw [eval_ListComp]
  refine lcx_core calm nd IA hit bok parts fold rdg fun D ce s' m H' I' q ns ⟨f0, f1, f2, f3, f4, f5⟩ => ⟨m, ns, fun h3 sb => ?_⟩
  exact ⟨.ref D, H', I'.turned (t' := s'.toks) (fun b o hb k => (sb.2 b hb).trans k) f0 f1 f3 f4 f5, rfl, q⟩
theorem lcx_set {i : Nat} {y : Str} {py spos : Pos} {own : List (Str × Nat)} {wi : TI} {g : TG} {tt : TT} {te : TE} {elt tg iter : Expr} {ifs : List Expr} {scope : Scope} {cpos : Pos} (calm : X.calm = true) (nd : X.N.Nodup) (hy : X.N[i]? = some y) (loc : X.env.scope.names.lookup y = some .local)
    (sw : swapsWith (.ListComp elt [⟨tg, iter, ifs, 0⟩] scope cpos) (some (.Name y py)) spos.line X.env = pure true) (hit : PI X tg iter wi) (bok : BlkOk X.N X.env.scope scope own)
    (parts : PartsX X scope fun BX => PG BX tg g ∧ PTs BX ifs tt ∧ PE BX elt te) (fold : ∀ x, foldedSetIterable iter X.env x = pure x := by intro _; rfl) :
    PS X (.Assign [.Name y py] (.ListComp elt [⟨tg, iter, ifs, 0⟩] scope cpos) spos) (tAsg (tLc wi g tt te (own.map (·.2))) (gName i)) := by
  refine ⟨fun pz sA z HA D IA rdg => ?_⟩
  rw [exec_Assign_Name_used _ _ _ _ sw]
  refine wpAny_bind (wpAny_standAt (wpAny_bind ?_))
  have rdg : tLc wi g tt te (own.map (·.2)) z HA (fun x H1 => gName i x z H1 D.nx) := rdg
  have main := lcx_core (ipos := firstIterPos [⟨tg, iter, ifs, 0⟩] cpos) (cpos := cpos) (use := some (assign (.Name y py) X.env)) (Qf := fun _ s' => SP X pz D .next s') calm nd IA hit bok parts fold rdg fun L ce s' m H' I' q ns fp => by
    refine wpAny_assign_Name (store_ok2 (v := V.ref L) I' nd hy (.inl loc) rfl (fun s2 I2 ⟨a, sb, ha⟩ => ?_) (.inr loc))
    obtain ⟨f0, f1, f2, f3, f4, f5⟩ := fp
    have apart : ce.locals ≠ a := by
      rcases ha with k | k
      · rw [k]
        exact f1
      · intro e
        exact f4 y a k e.symm
    exact ⟨m, ns.sameBut sb apart, fun h3 sb3 => ⟨_, H', I2.turned (t' := s2.toks) (fun b o hb k => (sb3.2 b hb).trans k) f0 f1 f3 f4 f5, q⟩⟩
  show wpAny _ X.A (do let _ ← comprehension (.ListComp elt [⟨tg, iter, ifs, 0⟩] scope cpos) scope X.env (firstIterPos [⟨tg, iter, ifs, 0⟩] cpos) (newList []) false (eval iter X.env) (some (assign (.Name y py) X.env))) _ _ sA
  exact wpAny_bind (thn main fun _ _ q => wpAny_pure (wpAny_pure q))
end
end Y

set_option Elab.async false
set_option linter.all false
set_option maxRecDepth 100000
set_option maxHeartbeats 1000000
/-! Y9: list comprehensions. -/
namespace Y
open PySem PySem.Spec PyProof.Rows L2
/-- a target of names -/
inductive Tg where
  | nm (i : Nat) | tp (l : List Nat)
def setsV : List Nat → List V → L2.St → L2.St
  | i :: is, v :: vs, σ => setsV is vs (σ.set i (some v))
  | _, _, σ => σ
def setsD : List Nat → List D → Gm → Gm
  | i :: is, v :: vs, σ => setsD is vs (σ.set i (some v))
  | _, _, σ => σ
def gTg (K : PySem.W.Frag) : Tg → TG
  | .nm i => fun v σ H Q => Q (σ.set i (some v)) H
  | .tp is => fun v σ H Q => ∃ a vs, v = .ref a ∧ SqT K H a vs ∧ vs.length = is.length ∧ Q (setsV is vs σ) H
def gNms (is : List Nat) : TGs := fun vs σ H Q => vs.length = is.length ∧ Q (setsV is vs σ) H
def Tg.put : Tg → D → Gm → Option Gm
  | .nm i, d, g => some (g.set i (some d))
  | .tp is, .tup l, g => if l.length = is.length then some (setsD is l g) else none
  | .tp is, .ktp l, g => if l.length = is.length then some (setsD is l g) else none
  | _, _, _ => none
def Tg.ix : Tg → List Nat
  | .nm i => [i]
  | .tp l => l
def wipeD (g : Gm) : List Nat → Gm
  | [] => g
  | v :: vs => (wipeD g vs).set v none
section
variable {X : Cx} {c : Ct} {E : XK} {m : Nat → Addr} {S : Sr} {H : Hp} {g : Gm} {σ : L2.St}
theorem qt_name {i : Nat} {x : Str} {pos : Pos} (hN : X.N.Nodup) (hi : X.N[i]? = some x) (hx : Loc X.env.scope x) (hf : X.fn x = true ∨ X.env.scope.names.lookup x = some .local := by first | exact .inl rfl | exact .inr rfl | assumption) : PG X (.Name x pos) (gTg X.K (.nm i)) :=
  PG.imp (pg_name hN hi hx hf) fun v σ H Q q => q
theorem qt_nil : PGs X [] (gNms []) := PGs.imp pgs_nil fun vs σ H Q ⟨h, q⟩ => by
  cases vs with
  | nil => exact ⟨rfl, q⟩
  | cons v vs => exact absurd h (by simp)
theorem qt_cons {i : Nat} {is : List Nat} {x : Str} {pos : Pos} {es : List Expr} (hN : X.N.Nodup) (hi : X.N[i]? = some x) (hx : Loc X.env.scope x) (h2 : PGs X es (gNms is)) (hf : X.fn x = true ∨ X.env.scope.names.lookup x = some .local := by first | exact .inl rfl | exact .inr rfl | assumption)
    (hs : (assignEach (.Name x pos :: es) X.env).map (·.2) = assign (.Name x pos) X.env :: (assignEach es X.env).map (·.2) := by rfl) : PGs X (.Name x pos :: es) (gNms (i :: is)) :=
  PGs.imp (pgs_cons (pg_name hN hi hx hf) h2 hs) fun vs σ H Q ⟨h, q⟩ => by
    cases vs with
    | nil => exact absurd h (by simp)
    | cons v vs => exact ⟨v, vs, rfl, by simpa using h, q⟩
theorem qt_tup {es : List Expr} {k : Nat} {is : List Nat} {pos : Pos} (hc : X.calm = true) (h : PGs X es (gNms is)) (hn : (assignEach es X.env).length = is.length := by rfl) (hst : (assignEach es X.env).findIdx? (·.1) = none := by rfl) : PG X (.Tuple es k pos) (gTg X.K (.tp is)) :=
  PG.imp (pg_tup hc h hn hst) fun v σ H Q ⟨a, vs, e, hq, hl, q⟩ => ⟨a, vs, e, hq, hl, hl, q⟩
theorem wipe_set {i : Nat} {o : Option V} (σ : L2.St) : ∀ {vs : List Nat}, i ∈ vs → wipe (σ.set i o) vs = wipe σ vs
  | v :: vs, h => by
    unfold wipe
    by_cases hi : i ∈ vs
    · rw [wipe_set σ hi]
    · have e : i = v := by
        rcases List.mem_cons.mp h with e | e
        · exact e
        · exact absurd e hi
      subst e
      have : ∀ (vs : List Nat), i ∉ vs → wipe (σ.set i o) vs = (wipe σ vs).set i o := by
        intro vs
        induction vs with
        | nil => intro _; rfl
        | cons w ws ih =>
          intro hn
          have h1 : i ∉ ws := fun z => hn (List.mem_cons_of_mem _ z)
          have h2 : i ≠ w := fun z => hn (by rw [z]; exact List.mem_cons_self)
          unfold wipe
          rw [ih h1, List.set_comm _ _ h2]
      rw [this vs hi, List.set_set]
theorem wipe_idem (σ : L2.St) : ∀ (vs ws : List Nat), (∀ i ∈ ws, i ∈ vs) → wipe (wipe σ ws) vs = wipe σ vs
  | vs, [], _ => rfl
  | vs, w :: ws, h => by
    show L2.wipe ((L2.wipe σ ws).set w none) vs = L2.wipe σ vs
    rw [wipe_set _ (h w List.mem_cons_self)]
    exact wipe_idem σ vs ws fun i hi => h i (List.mem_cons_of_mem _ hi)
theorem wipe_sets : ∀ {is : List Nat} {xs : List V} {σ : L2.St} {vs : List Nat}, (∀ i ∈ is, i ∈ vs) → wipe (setsV is xs σ) vs = wipe σ vs
  | [], _, _, _, _ => rfl
  | i :: is, [], _, _, _ => rfl
  | i :: is, x :: xs, σ, vs, h => by
    unfold setsV
    rw [wipe_sets fun j hj => h j (List.mem_cons_of_mem _ hj)]
    exact wipe_set σ (h i List.mem_cons_self)
theorem RelG.wipe {n : Nat} (rg : RelG c m n H g σ) : ∀ (vs : List Nat), RelG c m n H (wipeD g vs) (L2.wipe σ vs)
  | [] => rg
  | v :: vs => by
    have ih := RelG.wipe rg vs
    unfold wipeD L2.wipe
    refine ⟨by rw [List.length_set, List.length_set]; exact ih.1, fun j x e => ?_⟩
    by_cases h : v = j
    · subst h
      by_cases hl : v < (wipeD g vs).length
      · rw [List.getElem?_set_self hl] at e
        cases e
      · rw [List.getElem?_eq_none (by rw [List.length_set]; omega)] at e
        cases e
    · rw [List.getElem?_set_ne h] at e
      obtain ⟨w, e1, r1⟩ := ih.2 j x e
      exact ⟨w, by rw [List.getElem?_set_ne h]; exact e1, r1⟩
theorem RelG.sets {n : Nat} : ∀ {is : List Nat} {ds : List D} {vs : List V} {g : Gm} {σ : L2.St}, RelG c m n H g σ → RelDs c m n H ds vs → RelG c m n H (setsD is ds g) (setsV is vs σ)
  | [], _, _, _, _, rg, _ => rg
  | i :: is, [], vs, _, _, rg, r => by rw [rd_nil r]; exact rg
  | i :: is, d :: ds, _, _, _, rg, r => by
    obtain ⟨v, w, rfl, r1, r2⟩ := rd_cons r
    exact RelG.sets (is := is) (ds := ds) (rg.set i r1) r2
/-- the turns -/
def lcG (sr : Src) (t : Tg) (mt : MT) (me : ME) (g0 : Gm) (D0 : Nat) : Nat → Nat → SM Unit
  | 0, i => fun S => match sr.nxt i S with
    | some none => .ok () S
    | _ => .bad
  | r + 1, i => fun S => match sr.nxt i S with
    | some none => .ok () S
    | some (some d) => (match t.put d g0 with
      | none => .bad
      | some g => (match mt g S with
        | .ok false S1 => lcG sr t mt me g0 D0 r (i + 1) S1
        | .ok true S1 => (match me g S1 with
          | .ok y S2 => (match S2.f D0 with
            | some (.lst acc) => if acc.length < sizeLine then lcG sr t mt me g0 D0 r (i + 1) (S2.put D0 (.lst (acc ++ [y]))) else .bad
            | _ => .bad)
          | .exc q S2 => .exc q S2
          | .bad => .bad)
        | .exc q S1 => .exc q S1
        | .bad => .bad))
    | none => .bad
def mLc (src : MI) (t : Tg) (mt : MT) (me : ME) (vs : List Nat) : ME := fun g => SM.bind (src g) fun sr S1 => SM.bind (lcG sr t mt me (wipeD g vs) S1.n sr.n 0) (fun _ S' => .ok (.adr S1.n) S') (S1.alloc (.lst []))
def mYes : MT := fun _ S => .ok true S
theorem qy_nil : PTs X [] (rdT c E mYes) := ⟨fun pins s σ H Q I ⟨m, S, g, si, rg, q⟩ => pts_nil.run pins s σ H Q I (q m H (Nxt.refl si))⟩
/-- an exception leaves no element -/
abbrev noX : XK := fun _ _ _ => False
theorem lc_of {mi : MI} {t : Tg} {mt : MT} {me : ME} {vs : List Nat} (ht : ∀ i ∈ t.ix, i ∈ vs) (σ : L2.St) (H : Hp) (Q : VK) (h : rdE c E (mLc mi t mt me vs) σ H Q) :
    tLc (rdI c E mi) (gTg c.K t) (rdT c E mt) (rdE c E me) vs σ H Q := by
  obtain ⟨m, S, g, s, rg, q⟩ := h
  refine ⟨m, S, g, s, rg, ?_⟩
  unfold mLc SM.bind at q
  cases e : mi g S with
  | exc p S1 => rw [e] at q; exact q
  | bad => rw [e] at q; exact q.elim
  | ok sr S1 =>
    rw [e] at q
    intro m1 H1 J a io DD hD
    have al := Nxt.alloc (x := .lst []) (o := .lst []) a.sim hD ⟨[], rfl, mk_nil⟩
    have n0 := a.trans s al
    have q1 := PoE.go s n0 q
    -- a word that goes from turn to turn
    have gm : ext m1 S1.n DD S1.n = DD := ext_same
    refine ⟨fun i k H => ∃ m S, Nxt c (ext m1 S1.n DD) (S1.alloc (.lst [])) (upd H1 DD (.lst [])) m S H ∧ PoE c E m S H Q (SM.bind (lcG sr t mt me (wipeD g vs) S1.n k i) (fun _ S' => .ok (.adr S1.n) S') S), ⟨sr.n, _, _, Nxt.refl al.sim, q1⟩, ?_⟩
    rintro i k H2 ⟨m2, S2, n2, q2⟩
    have hm2 : m2 S1.n = DD := by rw [n2.mu S1.n (Nat.lt_succ_self _), gm]
    have hlt2 : S1.n < S2.n := Nat.lt_of_lt_of_le (Nat.lt_succ_self _) n2.le
    cases hn : sr.nxt i S2 with
    | none => cases k <;> (unfold SM.bind lcG at q2; rw [hn] at q2; exact q2.elim)
    | some o =>
      have nn := al.trans a.sim n2
      cases o with
      | none =>
        refine .inl ⟨io.stop i m2 S2 H2 nn hn, ?_⟩
        cases k <;> (unfold SM.bind lcG at q2; rw [hn] at q2; refine q2 m2 H2 _ (Nxt.refl n2.sim) ?_; rw [← hm2]; exact mk_adr hlt2)
      | some d =>
        cases k with
        | zero => unfold SM.bind lcG at q2; rw [hn] at q2; exact q2.elim
        | succ k =>
          unfold SM.bind lcG at q2
          rw [hn] at q2
          dsimp only at q2
          obtain ⟨h1, h2⟩ := io.go i m2 S2 H2 d nn hn
          refine .inr ⟨h1, fun H' => ∃ m S, Nxt c (ext m1 S1.n DD) (S1.alloc (.lst [])) (upd H1 DD (.lst [])) m S H' ∧ PoE c E m S H' Q (SM.bind (lcG sr t mt me (wipeD g vs) S1.n k (i + 1)) (fun _ S' => .ok (.adr S1.n) S') S), fun H' w => ⟨k, Nat.lt_succ_self k, w⟩, fun x H3 y => ?_⟩
          obtain ⟨n3, r3⟩ := h2 x H3 y
          have n23 := n2.trans al.sim n3
          have rg3 : RelG c m2 S2.n H3 (wipeD g vs) (L2.wipe σ vs) := n23.relG (al.relG ((a.relG rg).wipe vs))
          have q3 := PoE.go n2.sim n3 q2
          cases ep : t.put d (wipeD g vs) with
          | none => rw [ep] at q3; exact q3.elim
          | some g4 =>
            rw [ep] at q3
            dsimp only at q3
            -- the turn's own part
            have core : ∀ σ4 : L2.St, RelG c m2 S2.n H3 g4 σ4 → rdT c E mt σ4 H3 fun b H4 => if b = true then rdE c E me σ4 H4 fun y H5 => ∃ acc, H5 DD = some (.lst acc) ∧ acc.length < sizeLine ∧ (∃ m S, Nxt c (ext m1 S1.n DD) (S1.alloc (.lst [])) (upd H1 DD (.lst [])) m S (upd H5 DD (.lst (acc ++ [y]))) ∧ PoE c E m S (upd H5 DD (.lst (acc ++ [y]))) Q (SM.bind (lcG sr t mt me (wipeD g vs) S1.n k (i + 1)) (fun _ S' => .ok (.adr S1.n) S') S)) else (∃ m S, Nxt c (ext m1 S1.n DD) (S1.alloc (.lst [])) (upd H1 DD (.lst [])) m S H4 ∧ PoE c E m S H4 Q (SM.bind (lcG sr t mt me (wipeD g vs) S1.n k (i + 1)) (fun _ S' => .ok (.adr S1.n) S') S)) := by
              intro σ4 rg4
              refine ⟨m2, S2, g4, n3.sim, rg4, ?_⟩
              cases et : mt g4 S2 with
              | exc p S3 => rw [et] at q3; exact q3
              | bad => rw [et] at q3; exact q3.elim
              | ok b S3 =>
                rw [et] at q3
                intro m3 H4 n4
                have q4 := PoE.go n3.sim n4 q3
                have n24 := n23.trans al.sim n4
                cases b with
                | false => exact ⟨m3, S3, n24, q4⟩
                | true =>
                  rw [if_pos rfl]
                  dsimp only at q4
                  refine ⟨m3, S3, g4, n4.sim, n4.relG rg4, ?_⟩
                  cases ee : me g4 S3 with
                  | exc p S4 => rw [ee] at q4; exact q4
                  | bad => rw [ee] at q4; exact q4.elim
                  | ok yd S4 =>
                    rw [ee] at q4
                    dsimp only at q4
                    intro m5 H5 yv n5 ry
                    have q5 := PoE.go n4.sim n5 q4
                    have n25 := n24.trans al.sim n5
                    have hm5 : m5 S1.n = DD := by rw [n25.mu S1.n (Nat.lt_succ_self _), gm]
                    cases ea : S4.f S1.n with
                    | none => rw [ea] at q5; exact q5.elim
                    | some mo =>
                      rw [ea] at q5
                      cases mo with
                      | lst acc =>
                        dsimp only at q5
                        by_cases hz : acc.length < sizeLine
                        · rw [if_pos hz] at q5
                          obtain ⟨vs', hh, rs⟩ := n5.sim.lst ea
                          rw [hm5] at hh
                          have pu := Nxt.put (x := .lst (acc ++ [yd])) (o := .lst (vs' ++ [yv])) n5.sim ea ⟨_, rfl, rs.append (mk_cons ry mk_nil)⟩
                          rw [hm5] at pu
                          exact ⟨vs', hh, by rw [← rs.length]; exact hz, m5, _, n25.trans al.sim pu, PoE.go n5.sim pu q5⟩
                        · rw [if_neg hz] at q5
                          exact q5.elim
                      | _ => exact q5.elim
            cases t with
            | nm j =>
              cases ep
              exact ⟨by rw [wipe_set _ (ht j (List.mem_singleton.mpr rfl))]; exact wipe_idem σ vs vs fun _ h => h, core _ (rg3.set j r3)⟩
            | tp is =>
              cases d with
              | tup l =>
                dsimp only [Tg.put] at ep
                split at ep
                · rename_i hl
                  cases ep
                  obtain ⟨p, ws, rfl, hh, rs⟩ := rd_tup r3
                  exact ⟨p, ws, rfl, .inl (.inl hh), by rw [← rs.length]; exact hl, by rw [wipe_sets (is := is) ht]; exact wipe_idem σ vs vs fun _ h => h, core _ (rg3.sets rs)⟩
                · cases ep
              | ktp l =>
                dsimp only [Tg.put] at ep
                split at ep
                · rename_i hl
                  cases ep
                  obtain ⟨p, ws, rfl, hh, rs⟩ := rd_ktp r3
                  exact ⟨p, ws, rfl, hh.sq, by rw [← rs.length]; exact hl, by rw [wipe_sets (is := is) ht]; exact wipe_idem σ vs vs fun _ h => h, core _ (rg3.sets rs)⟩
                · cases ep
              | _ => cases ep
/-- what a block's parts may lean on -/
abbrev BlkP (X : Cx) (E : XK) (scope : Scope) (R : Cx → Prop) : Prop := ∀ (s : Shared) (H : Hp) (cl : List (Str × Addr)) (fp : List Addr), Passes (L2.CX X.prog X.w) (blkX X s H scope (compEnvC scope cl s.heap.objs.size X.env) fp) E → Fl (blkX X s H scope (compEnvC scope cl s.heap.objs.size X.env) fp) E → R (blkX X s H scope (compEnvC scope cl s.heap.objs.size X.env) fp)
theorem parts_of {scope : Scope} {R1 R2 R3 : Cx → Prop} (F : Fl X E) (h1 : BlkP X E scope R1) (h2 : BlkP X E scope R2) (h3 : BlkP X E scope R3) : PartsX X scope fun BX => R1 BX ∧ R2 BX ∧ R3 BX := fun pz z sB HB clB fB IB fpB => by
  have p := passes_blk (scope := scope) (clB := clB) F IB fpB
  have f := fl_blk (scope := scope) (clB := clB) F IB fpB
  exact ⟨h1 sB HB clB fB p f, h2 sB HB clB fB p f, h3 sB HB clB fB p f⟩
theorem qe_lc {elt tg iter : Expr} {ifs : List Expr} {scope : Scope} {own : List (Str × Nat)} {pos : Pos} {mi : MI} {t : Tg} {mt : MT} {me : ME} (F : Fl X E) (hK : X.K = c.K) (hc : X.calm = true) (hN : X.N.Nodup) (hi : PI X tg iter (rdI c E mi)) (ok : BlkOk X.N X.env.scope scope own)
    (hg : BlkP X E scope fun BX => PG BX tg (gTg X.K t)) (ht : BlkP X E scope fun BX => PTs BX ifs (rdT c E mt)) (he : BlkP X E scope fun BX => PE BX elt (rdE c E me))
    (hv : ∀ i ∈ t.ix, i ∈ own.map (·.2) := by decide) (hs : ∀ x, foldedSetIterable iter X.env x = pure x := by intro _; rfl) :
    PE X (.ListComp elt [⟨tg, iter, ifs, 0⟩] scope pos) (rdE c E (mLc mi t mt me (own.map (·.2)))) :=
  PE.imp (lcx_pe hc hN hi ok (parts_of F hg ht he) hs) fun σ H Q h => by
    rw [hK]
    exact lc_of hv σ H Q h
theorem qs_setLc {i : Nat} {y : Str} {py : Pos} {elt tg iter : Expr} {ifs : List Expr} {scope : Scope} {own : List (Str × Nat)} {pos spos : Pos} {mi : MI} {t : Tg} {mt : MT} {me : ME} (F : Fl X E) (hK : X.K = c.K) (hc : X.calm = true) (hN : X.N.Nodup) (hy : X.N[i]? = some y) (hyl : X.env.scope.names.lookup y = some .local)
    (hsw : swapsWith (.ListComp elt [⟨tg, iter, ifs, 0⟩] scope pos) (some (.Name y py)) spos.line X.env = pure true) (hi : PI X tg iter (rdI c E mi)) (ok : BlkOk X.N X.env.scope scope own)
    (hg : BlkP X E scope fun BX => PG BX tg (gTg X.K t)) (ht : BlkP X E scope fun BX => PTs BX ifs (rdT c E mt)) (he : BlkP X E scope fun BX => PE BX elt (rdE c E me))
    (hv : ∀ i ∈ t.ix, i ∈ own.map (·.2) := by decide) (hs : ∀ x, foldedSetIterable iter X.env x = pure x := by intro _; rfl) :
    PS X (.Assign [.Name y py] (.ListComp elt [⟨tg, iter, ifs, 0⟩] scope pos) spos) (rdS c E (mSet i (mLc mi t mt me (own.map (·.2))))) :=
  PS.imp (lcx_set hc hN hy hyl hsw hi ok (parts_of F hg ht he) hs) fun Z σ H ⟨m, S, g, s, rg, q⟩ => by
    have z : rdE c E (mLc mi t mt me (own.map (·.2))) σ H fun v H1 => Z.nx (σ.set i (some v)) H1 := by
      refine seqSE s rg q fun m1 S1 H1 d v a r q1 => q1 m1 H1 _ (Nxt.refl a.sim) ((a.relG rg).set i r)
    have z2 := lc_of hv σ H _ z
    rw [hK]
    exact z2
end
end Y

set_option Elab.async false
set_option linter.all false
set_option maxRecDepth 100000
set_option maxHeartbeats 1000000
/-! Y10: methods of built-in types, dicts written out. -/
namespace Y
open PySem PySem.Spec PyProof.Rows L2
def tyF (T : String) (d : D) (S : Sr) : Bool := match d with
  | .str _ => T == "str"
  | .fro _ => T == "list"
  | .ktp _ => T == "tuple"
  | .adr i => (match S.f i with
    | some (.lst _) => T == "list"
    | some (.dic _) => T == "dict"
    | some (.dit _) => T == "dict"
    | _ => false)
  | _ => false
section
variable {X : Cx} {c : Ct} {E : XK} {m : Nat → Addr} {S : Sr} {H : Hp} {g : Gm} {σ : L2.St}
theorem tyF_ok {T : String} {d : D} {v : V} (s : Sim c m S H) (r : RelD c m S.n H d v) (h : tyF T d S = true) : tyV c.K T v H := by
  cases d with
  | str z => rw [rd_str r]; exact eq_of_beq h
  | fro l =>
    obtain ⟨a, vs, rfl, hh, rs⟩ := rd_fro r
    exact .inl ⟨eq_of_beq h, vs, hh.sq⟩
  | ktp l =>
    obtain ⟨a, vs, rfl, ⟨o, its, n, h1, h2, h3, h4⟩, rs⟩ := rd_ktp r
    exact .inr (.inl ⟨eq_of_beq h, o, h1, h2, h3⟩)
  | adr i =>
    obtain ⟨rfl, hi⟩ := rd_adr r
    unfold tyF at h
    dsimp only at h
    split at h
    · rename_i l el
      obtain ⟨vs, hh, rs⟩ := s.lst el
      exact .inl ⟨eq_of_beq h, vs, .inl (.inl hh)⟩
    · rename_i l el
      obtain ⟨vs, hh, rs⟩ := s.dic el
      exact .inr (.inr (.inl ⟨eq_of_beq h, .inl ⟨vs, hh⟩⟩))
    · rename_i l el
      obtain ⟨vs, hh, rs⟩ := s.dit el
      exact .inr (.inr (.inl ⟨eq_of_beq h, .inr ⟨vs, hh⟩⟩))
    · cases h
  | _ => cases h
/-- what a method answers -/
abbrev FM := D → List D → SM D
def SndM (c : Ct) (r : V → List V → Hp → VK → Prop) (f : FM) : Prop := ∀ (E : XK) (m : Nat → Addr) (S : Sr) (H : Hp) (Q : VK) (x : D) (v : V) (l : List D) (vs : List V), Sim c m S H → RelD c m S.n H x v → RelDs c m S.n H l vs → PoE c E m S H Q (f x l S) → r v vs H Q
def mBM (T : String) (f : FM) (o : ME) (a : MA) : ME := fun g => SM.bind (o g) fun x S1 => if tyF T x S1 = true then SM.bind (a g) (f x) S1 else .bad
theorem tBM_of {T : String} {r : V → List V → Hp → VK → Prop} {f : FM} {mo : ME} {ma : MA} (hs : SndM c r f) (σ : L2.St) (H : Hp) (Q : VK) (h : rdE c E (mBM T f mo ma) σ H Q) : tBM c.K T r (rdE c E mo) (rdA c E ma) σ H Q := by
  obtain ⟨m, S, g, s, rg, q⟩ := h
  refine seqE s rg q fun m1 S1 H1 x v a r q1 => ?_
  obtain ⟨ht, q2⟩ := po_if q1
  exact ⟨tyF_ok a.sim r ht, seqEA a.sim (a.relG rg) q2 fun m2 S2 H2 l vs b rs q3 => hs E m2 S2 H2 Q x v l vs b.sim (b.relD r) rs q3⟩
theorem qe_bm {o e : Expr} {es : List Expr} {mo : ME} {ma : MA} {name : Str} {apos cpos : Pos} {T id : String} {r : V → List V → Hp → VK → Prop} {f : FM} (hK : X.K = c.K) (pa : PlainAttrs T) (slot : Slot T name id) (hty : typeOf (.builtin id) = pure (.type "method_descriptor")) (hm : MtR X id r) (hs : SndM c r f)
    (ho : PE X o (rdE c E mo)) (ha : PA X (e :: es) (rdA c E ma))
    (hbase : attributeBase o name X.env (eval o X.env) = eval o X.env := by rfl)
    (hfew : ((backTo cpos (starEach (e :: es) X.env)).all (fun x => !x.1) && (backToKw cpos (keywordEach [] X.env)).all (fun x => x.1.isSome)
      && decide ((e :: es).length + ([] : List Keyword).length + (if ([] : List Keyword).isEmpty then 0 else 1) < 30)) = true := by rfl)
    (hline : (apos.endLine == cpos.line) = true := by rfl) (hst : starEach (e :: es) X.env = (false, eval e X.env) :: starEach es X.env := by rfl) (hplain : (backTo cpos (starEach es X.env)).any (·.1) = false := by rfl) :
    PE X (.Call (.Attribute o name apos) (e :: es) [] cpos) (rdE c E (mBM T f mo ma)) :=
  PE.imp (pe_bm pa slot hty hm ho ha hbase hfew hline hst hplain) fun σ H Q h => by
    rw [hK]
    exact tBM_of hs σ H Q h
theorem qe_bm0 {o : Expr} {mo : ME} {name : Str} {apos cpos : Pos} {T id : String} {r : V → List V → Hp → VK → Prop} {f : FM} (hK : X.K = c.K) (pa : PlainAttrs T) (slot : Slot T name id) (hty : typeOf (.builtin id) = pure (.type "method_descriptor")) (hm : MtR X id r) (hs : SndM c r f)
    (ho : PE X o (rdE c E mo)) (hbase : attributeBase o name X.env (eval o X.env) = eval o X.env := by rfl) (hline : (apos.endLine == cpos.line) = true := by rfl) :
    PE X (.Call (.Attribute o name apos) [] [] cpos) (rdE c E (mBM T f mo mNil)) :=
  PE.imp (pe_bm0 pa slot hty hm ho hbase hline) fun σ H Q h => by
    rw [hK]
    obtain ⟨m, S, g, s, rg, q⟩ := h
    refine seqE s rg q fun m1 S1 H1 x v a r q1 => ?_
    obtain ⟨ht, q2⟩ := po_if q1
    exact ⟨tyF_ok a.sim r ht, hs E m1 S1 H1 Q x v [] [] a.sim r mk_nil q2⟩
/-! ### lists -/
def fApp : FM := fun x l S => match x, l with
  | .adr i, [d] => (match S.f i with
    | some (.lst xs) => if xs.length < sizeLine then .ok .non (S.put i (.lst (xs ++ [d]))) else .bad
    | _ => .bad)
  | _, _ => .bad
theorem snd_append : SndM c rAppend fApp := fun E m S H Q x v l vs s rx rs q => by
  unfold fApp at q
  split at q
  · rename_i i d
    obtain ⟨rfl, hi⟩ := rd_adr rx
    obtain ⟨w, t, rfl, r1, r2⟩ := rd_cons rs
    rw [rd_nil r2]
    split at q
    · rename_i xs ex
      obtain ⟨hz, q⟩ := po_if q
      obtain ⟨ys, hh, rs⟩ := s.lst ex
      have pu := Nxt.put (x := .lst (xs ++ [d])) (o := .lst (ys ++ [w])) s ex ⟨_, rfl, rs.append (mk_cons r1 mk_nil)⟩
      exact ⟨_, ys, w, rfl, rfl, hh, by rw [← rs.length]; exact hz, q m _ _ pu mk_non⟩
    · exact q.elim
  · exact q.elim
def fPop : FM := fun x l S => match x, l with
  | .adr i, [] => (match S.f i with
    | some (.lst xs) => (match xs[xs.length - 1]? with
      | some d => .ok d (S.put i (.lst xs.dropLast))
      | none => .bad)
    | _ => .bad)
  | _, _ => .bad
theorem RelDs.dropLast {n : Nat} : ∀ {l : List D} {vs : List V}, RelDs c m n H l vs → RelDs c m n H l.dropLast vs.dropLast
  | [], _, h => by rw [rd_nil h]; exact mk_nil
  | [d], _, h => by
    obtain ⟨w, t, rfl, r1, r2⟩ := rd_cons h
    rw [rd_nil r2]
    exact mk_nil
  | d :: e :: l, _, h => by
    obtain ⟨w, t, rfl, r1, r2⟩ := rd_cons h
    obtain ⟨w2, t2, rfl, r3, r4⟩ := rd_cons r2
    exact mk_cons r1 (RelDs.dropLast (l := e :: l) r2)
theorem snd_pop : SndM c rPop fPop := fun E m S H Q x v l vs s rx rs q => by
  unfold fPop at q
  split at q
  · rename_i i
    obtain ⟨rfl, hi⟩ := rd_adr rx
    rw [rd_nil rs]
    split at q
    · rename_i xs ex
      split at q
      · rename_i d ed
        obtain ⟨ys, hh, rs⟩ := s.lst ex
        obtain ⟨w, e1, r1⟩ := rs.get ed
        have pu := Nxt.put (x := .lst xs.dropLast) (o := .lst ys.dropLast) s ex ⟨_, rfl, rs.dropLast⟩
        exact ⟨_, ys, w, rfl, rfl, hh, by rw [← rs.length]; exact e1, q m _ _ pu (pu.relD r1)⟩
      · exact q.elim
    · exact q.elim
  · exact q.elim
theorem RelDs.erase {n : Nat} : ∀ {l : List D} {vs : List V} (k : Nat), RelDs c m n H l vs → RelDs c m n H (l.eraseIdx k) (vs.eraseIdx k)
  | [], _, k, h => by rw [rd_nil h]; exact mk_nil
  | d :: l, _, 0, h => by
    obtain ⟨w, t, rfl, r1, r2⟩ := rd_cons h
    exact r2
  | d :: l, _, k + 1, h => by
    obtain ⟨w, t, rfl, r1, r2⟩ := rd_cons h
    exact mk_cons r1 (RelDs.erase k r2)
def fPopAt : FM := fun x l S => match x, l with
  | .adr i, [.int j] => (match S.f i with
    | some (.lst xs) => if -(2 ^ 63) ≤ j ∧ j < 2 ^ 63 then (match seqIndex? j xs.length with
      | some k => (match xs[k]? with
        | some d => .ok d (S.put i (.lst (xs.eraseIdx k)))
        | none => .bad)
      | none => .bad) else .bad
    | _ => .bad)
  | _, _ => .bad
theorem snd_popAt : SndM c rPopAt fPopAt := fun E m S H Q x v l vs s rx rs q => by
  unfold fPopAt at q
  split at q
  · rename_i i j
    obtain ⟨rfl, hi⟩ := rd_adr rx
    obtain ⟨w, t, rfl, r1, r2⟩ := rd_cons rs
    rw [rd_int r1, rd_nil r2]
    split at q
    · rename_i xs ex
      obtain ⟨hj, q⟩ := po_if q
      split at q
      · rename_i k ek
        split at q
        · rename_i d ed
          obtain ⟨ys, hh, rs⟩ := s.lst ex
          obtain ⟨w, e1, r1⟩ := rs.get ed
          have pu := Nxt.put (x := .lst (xs.eraseIdx k)) (o := .lst (ys.eraseIdx k)) s ex ⟨_, rfl, rs.erase k⟩
          exact ⟨_, ys, j, k, w, rfl, rfl, hh, hj.1, hj.2, by rw [← rs.length]; exact ek, e1, q m _ _ pu (pu.relD r1)⟩
        · exact q.elim
      · exact q.elim
    · exact q.elim
  · exact q.elim
/-- a tuple of texts of the module's own -/
def strsOf : List D → Option (List Str)
  | [] => some []
  | .str z :: l => (strsOf l).map fun r => z :: r
  | _ => none
theorem strs_rel {n : Nat} : ∀ {l : List D} {ys : List Str} {vs : List V}, strsOf l = some ys → RelDs c m n H l vs → vs = ys.map V.str
  | [], ys, vs, e, r => by
    cases e
    rw [rd_nil r]
    rfl
  | d :: l, ys, vs, e, r => by
    obtain ⟨w, t, rfl, r1, r2⟩ := rd_cons r
    cases d with
    | str z =>
      obtain ⟨zs, e1, e2⟩ := Option.map_eq_some_iff.mp e
      subst e2
      rw [strs_rel e1 r2, rd_str r1]
      rfl
    | _ => cases e
def ixS : List Str → Str → Option Nat
  | [], _ => none
  | y :: l, z => if y = z then some 0 else (ixS l z).map (· + 1)
theorem ixS_of : ∀ {l : List Str} {z : Str} {j : Nat}, ixS l z = some j → l[j]? = some z ∧ ∀ k, k < j → l[k]? ≠ some z
  | [], _, _, e => by cases e
  | y :: l, z, j, e => by
    unfold ixS at e
    split at e
    · rename_i h
      cases e
      exact ⟨by rw [h]; rfl, fun k hk => absurd hk (Nat.not_lt_zero k)⟩
    · rename_i h
      obtain ⟨i, e1, e2⟩ := Option.map_eq_some_iff.mp e
      subst e2
      obtain ⟨h1, h2⟩ := ixS_of e1
      refine ⟨h1, fun k hk e3 => ?_⟩
      cases k with
      | zero => exact h (Option.some.inj e3)
      | succ k => exact h2 k (Nat.lt_of_succ_lt_succ hk) e3
def fTix : FM := fun x l S => match x, l with
  | .ktp xs, [.str z] => (match strsOf xs with
    | some ys => (match ixS ys z with
      | some j => .ok (.int (j : Nat)) S
      | none => .bad)
    | none => .bad)
  | _, _ => .bad
theorem snd_tix : SndM c (fun x xs H Q => ∃ p, ∃ ys : List Str, ∃ z j, x = .ref p ∧ xs = [.str z] ∧ SqT c.K H p (ys.map V.str) ∧ ys[j]? = some z ∧ (∀ m, m < j → ys[m]? ≠ some z) ∧ Q (.int (j : Nat)) H) fTix := fun E m S H Q x v l vs s rx rs q => by
  unfold fTix at q
  split at q
  · rename_i xs z
    obtain ⟨a, ws, rfl, hh, r0⟩ := rd_ktp rx
    obtain ⟨w, t, rfl, r1, r2⟩ := rd_cons rs
    rw [rd_str r1, rd_nil r2]
    split at q
    · rename_i ys ey
      split at q
      · rename_i j ej
        have e := strs_rel ey r0
        subst e
        obtain ⟨h1, h2⟩ := ixS_of ej
        exact ⟨a, ys, z, j, rfl, rfl, hh.sq, h1, h2, q m H _ (Nxt.refl s) mk_int⟩
      · exact q.elim
    · exact q.elim
  · exact q.elim
/-! ### a dict written out -/
abbrev MP := Gm → SM (List (D × D))
def evP : List (ME × ME) → MP
  | [] => fun _ S => .ok [] S
  | p :: r => fun g => SM.bind (p.1 g) fun x => SM.bind (p.2 g) fun y => SM.bind (evP r g) fun l S => .ok ((x, y) :: l) S
def RelP (c : Ct) (m : Nat → Addr) (n : Nat) (H : Hp) : List (D × D) → List (V × V) → Prop
  | [], ws => ws = []
  | p :: r, ws => ∃ x y t, ws = (x, y) :: t ∧ RelD c m n H p.1 x ∧ RelD c m n H p.2 y ∧ RelP c m n H r t
def PoP (c : Ct) (E : XK) (m : Nat → Addr) (S : Sr) (H : Hp) (Q : List (V × V) → Hp → Prop) : R (List (D × D)) → Prop
  | .ok l S' => ∀ m' H' ws, Nxt c m S H m' S' H' → RelP c m' S'.n H' l ws → Q ws H'
  | .exc q S' => ∀ m' H', Nxt c m S H m' S' H' → E (.ref (c.cls q)) none H'
  | .bad => False
theorem PoP.go {m1 : Nat → Addr} {S1 : Sr} {H1 : Hp} (s : Sim c m S H) (a : Nxt c m S H m1 S1 H1) {Q : List (V × V) → Hp → Prop} {r : R (List (D × D))} (h : PoP c E m S H Q r) : PoP c E m1 S1 H1 Q r := by
  cases r with
  | ok d S' => exact fun m' H' v b r => h m' H' v (a.trans s b) r
  | exc q S' => exact fun m' H' b => h m' H' (a.trans s b)
  | bad => exact h
theorem seqPE {x : ME} {k : D → SM (List (D × D))} {Q : List (V × V) → Hp → Prop} {QQ : VK} (s : Sim c m S H) (rg : RelG c m S.n H g σ) (h : PoP c E m S H Q (SM.bind (x g) k S))
    (hk : ∀ m1 S1 H1 d v, Nxt c m S H m1 S1 H1 → RelD c m1 S1.n H1 d v → PoP c E m1 S1 H1 Q (k d S1) → QQ v H1) : rdE c E x σ H QQ := by
  refine ⟨m, S, g, s, rg, ?_⟩
  unfold SM.bind at h
  cases e : x g S with
  | ok d S1 =>
    rw [e] at h
    exact fun m1 H1 v a r => hk m1 S1 H1 d v a r (PoP.go s a h)
  | exc q S1 =>
    rw [e] at h
    exact h
  | bad =>
    rw [e] at h
    exact h
def rdPs (c : Ct) (E : XK) (prs : List (ME × ME)) : List (TE × TE) := prs.map fun p => (rdE c E p.1, rdE c E p.2)
theorem pairs_of : ∀ {prs : List (ME × ME)} {m : Nat → Addr} {S : Sr} {H : Hp} {Q : List (V × V) → Hp → Prop}, Sim c m S H → RelG c m S.n H g σ → PoP c E m S H Q (evP prs g S) → tPairs (rdPs c E prs) σ H Q
  | [], m, S, H, Q, s, rg, q => q m H [] (Nxt.refl s) rfl
  | p :: r, m, S, H, Q, s, rg, q => by
    refine seqPE s rg q fun m1 S1 H1 d v a rd q1 => seqPE a.sim (a.relG rg) q1 fun m2 S2 H2 e w b re q2 => ?_
    refine pairs_of (prs := r) b.sim (b.relG (a.relG rg)) ?_
    unfold SM.bind at q2
    cases e0 : evP r g S2 with
    | ok l S3 =>
      rw [e0] at q2
      exact fun m3 H3 ws n rw_ => q2 m3 H3 _ n ⟨v, w, ws, rfl, n.relD (b.relD rd), n.relD re, rw_⟩
    | exc p S3 => rw [e0] at q2; exact q2
    | bad => rw [e0] at q2; exact q2
def keysP : List (D × D) → Option (List (Key × D))
  | [] => some []
  | (k, v) :: r => (match keyD k, keysP r with
    | some a, some l => some ((a, v) :: l)
    | _, _ => none)
theorem keysP_of {n : Nat} : ∀ {l : List (D × D)} {ks : List (Key × D)} {ws : List (V × V)}, keysP l = some ks → RelP c m n H l ws → ∃ kvs : List (Key × V), ws = kvs.map (fun kv => (kV kv.1, kv.2)) ∧ RelK c m n H ks kvs
  | [], ks, ws, e, r => by
    cases e
    exact ⟨[], r, mkk_nil⟩
  | (k, v) :: l, ks, ws, e, r => by
    obtain ⟨x, y, t, rfl, r1, r2, r3⟩ := r
    unfold keysP at e
    split at e
    · rename_i a l2 ea el
      cases e
      obtain ⟨kvs, h1, h2⟩ := keysP_of el r3
      refine ⟨(a, y) :: kvs, ?_, mkk_cons (p := (a, v)) r2 h2⟩
      rw [key_of r1 ea, h1]
      rfl
    · cases e
def mergeD (l more : List (Key × D)) : List (Key × D) := more.foldl (fun acc kv => putD acc kv.1 kv.2) l
theorem RelK.merge {n : Nat} : ∀ {more : List (Key × D)} {mv : List (Key × V)} {l : List (Key × D)} {vs : List (Key × V)}, RelK c m n H more mv → RelK c m n H l vs → RelK c m n H (mergeD l more) (mergeK vs mv)
  | [], _, l, vs, h, r => by rw [rk_nil h]; exact r
  | p :: more, _, l, vs, h, r => by
    obtain ⟨v, t, rfl, h1, h2⟩ := rk_cons h
    exact RelK.merge (more := more) (mv := t) h2 (RelK.put p.1 h1 r)
/-- the new dict stands empty while the pairs are made -/
def mDisp (prs : List (ME × ME)) : ME := fun g S => SM.bind (evP prs g) (fun l S1 => match S1.f S.n with
  | some (.dic []) => (match keysP l with
    | some ks => if ks.length ≤ 15 then .ok (.adr S.n) (S1.put S.n (.dic (mergeD [] ks))) else .bad
    | none => .bad)
  | _ => .bad) (S.alloc (.dic []))
theorem qe_disp {pos : Pos} {keys : List (Option Expr)} {values : List Expr} {prs : List (ME × ME)} (h : PPs X pos keys values (rdPs c E prs)) (hall : keys.all (·.isSome) = true) (hl : keys.length = values.length) (h0 : keys ≠ []) (h15 : keys.length ≤ 15) : PE X (.Dict keys values pos) (rdE c E (mDisp prs)) :=
  PE.imp (pe_disp h hall hl h0 h15) fun σ H Q ⟨m, S, g, s, rg, q⟩ p hp => by
    have al := Nxt.alloc (x := .dic []) (o := .dK []) s hp ⟨[], rfl, mkk_nil⟩
    have q := PoE.go s al q
    refine pairs_of al.sim (al.relG rg) ?_
    unfold mDisp SM.bind at q
    cases e0 : evP prs g (S.alloc (.dic [])) with
    | exc p S3 => rw [e0] at q; exact q
    | bad => rw [e0] at q; exact q
    | ok l S3 =>
      rw [e0] at q
      intro m3 H3 ws n rw_
      have q := PoE.go al.sim n q
      have e1 : m3 S.n = p := by rw [n.mu S.n (Nat.lt_succ_self _)]; exact ext_same
      have hlt : S.n < S3.n := Nat.lt_of_lt_of_le (Nat.lt_succ_self _) n.le
      dsimp only at q
      split at q
      · rename_i es
        obtain ⟨vs, hh, rk⟩ := n.sim.dic es
        rw [rk_nil rk, e1] at hh
        split at q
        · rename_i ks ek
          obtain ⟨hz, q⟩ := po_if q
          obtain ⟨kvs, h1, h2⟩ := keysP_of ek rw_
          have pu := Nxt.put (x := .dic (mergeD [] ks)) (o := .dK (mergeK [] kvs)) n.sim es ⟨_, rfl, RelK.merge h2 mkk_nil⟩
          refine ⟨hh, kvs, h1, by rw [← h2.length]; exact hz, ?_⟩
          have z := q m3 _ _ pu (mk_adr hlt)
          rw [e1] at z
          exact z
        · exact q.elim
      · exact q.elim
theorem qp_nil {pos : Pos} : PPs X pos [] [] (rdPs c E []) := pps_nil
theorem qp_cons {pos : Pos} {k v : Expr} {ks : List (Option Expr)} {vs : List Expr} {mk mv : ME} {prs : List (ME × ME)} (hk : PE X k (rdE c E mk)) (hv : PE X v (rdE c E mv)) (hr : PPs X pos ks vs (rdPs c E prs)) : PPs X pos (some k :: ks) (v :: vs) (rdPs c E ((mk, mv) :: prs)) := pps_cons hk hv hr
end
end Y

set_option Elab.async false
set_option linter.all false
set_option maxRecDepth 100000
set_option maxHeartbeats 1000000
/-! Y11: defs, lambdas that are told. -/
namespace Y
open PySem PySem.Spec PyProof.Rows L2
/-! ### what may leave -/
theorem passesT {X : Cx} {E : XK} (tk : Takes X (fun cls d _ H => E cls d H)) : Passes (L2.CX X.prog X.w) X E := passes_call tk fun _ _ _ _ h => h
theorem passesN {X : Cx} : Passes (L2.CX X.prog X.w) X noX := fun pins σ H s e s' I c => by
  obtain ⟨_, _, _, _, _, _, _, _, _, _, _, _, z⟩ := c
  exact z.elim
/-- nothing is told of what is never reached -/
def mBad : ME := fun _ _ => .bad
def mBadS : MS := fun _ _ => .bad
def mBadT : MT := fun _ _ => .bad
def mBadA : MA := fun _ _ => .bad
def mBadI : MI := fun _ _ => .bad
section
variable {X : Cx} {c : Ct} {E : XK}
theorem qe_bad {e : Expr} : PE X e (rdE c E mBad) := ⟨fun _ _ _ _ _ _ ⟨_, _, _, _, _, q⟩ => q.elim⟩
theorem qs_bad {e : Stmt} : PS X e (rdS c E mBadS) := ⟨fun _ _ _ _ _ _ ⟨_, _, _, _, _, q⟩ => q.elim⟩
theorem qss_bad {e : List Stmt} : PSs X e (rdS c E mBadS) := ⟨fun _ _ _ _ _ _ ⟨_, _, _, _, _, q⟩ => q.elim⟩
theorem qt_bad {e : Expr} : PT X e (rdT c E mBadT) := ⟨fun _ _ _ _ _ _ ⟨_, _, _, _, _, q⟩ => q.elim⟩
/-- a global -/
theorem qe_glob {x : Str} {d : D} {v : V} {u : Value} {pos : Pos} (hg : Gl X x) (hm : X.mg x = some u) (r : RelV v u) (rd : ∀ m n H, RelD c m n H d v) (hd : (x == ("__debug__" : Str)) = false := by decide) : PE X (.Name x pos) (rdE c E (mC d)) := qe_k (pe_glob hg hm r hd) rd
end
/-! ### defs -/
def mFun (N : Nat) (b : MS) : List D → SM D := fun l S => match b (l.map some ++ List.replicate (N - l.length) none) S with
  | .nx _ S' => .ok .non S'
  | .rt d S' => .ok d S'
  | .ex q S' => .exc q S'
  | _ => .bad
section
variable {c : Ct} {m : Nat → Addr} {n : Nat} {H : Hp}
theorem relG_none : ∀ (k : Nat), RelG c m n H (List.replicate k none) (List.replicate k none) := fun k => ⟨by simp, fun i d e => by
  rw [List.getElem?_replicate] at e
  split at e
  · cases e
  · cases e⟩
theorem relG_start : ∀ {l : List D} {vs : List V} (k : Nat), RelDs c m n H l vs → RelG c m n H (l.map some ++ List.replicate k none) (vs.map some ++ List.replicate k none)
  | [], _, k, h => by rw [rd_nil h]; exact relG_none k
  | d :: l, _, k, h => by
    obtain ⟨v, w, rfl, r1, r2⟩ := rd_cons h
    have ih := relG_start (l := l) k r2
    refine ⟨?_, fun i x e => ?_⟩
    · show (l.map some ++ List.replicate k none).length + 1 = (w.map some ++ List.replicate k none).length + 1
      rw [ih.1]
    · cases i with
      | zero =>
        have e2 : d = x := Option.some.inj (Option.some.inj e)
        subst e2
        exact ⟨v, rfl, r1⟩
      | succ i => exact ih.2 i x e
end
section
variable {P : Program} {w : World} {K : PySem.W.Frag} {mg : Str → Option Value} {base : Heap} {c : Ct}
theorem fn_run {N ps : List Str} {x qual : Str} {params : Arguments} {body : List Stmt} {scope : Scope} {dvs : List V} {kws : List (Str × V)} {f : Addr} {fd : FuncData} {k : Nat} {b : MS} (F : FunD K x qual params body scope dvs kws f fd) (S : FnScope N ps scope)
    (hb : ∀ (cdv : Value) (A : Around) (outer : List Env) (s : Shared) (H : Hp) (E : XK), Room k (A.deeper (envOfC qual scope s.heap.objs.size f cdv)) → PSs (cxOf (L2.CX P w) P w K mg base N qual scope f cdv A outer s H E) body (rdS c E b)) :
    FnOk P w K mg base (L2.CX P w) (k + 1) f fd ps (spOf c ps.length (mFun N.length b)) := by
  refine F.ok S (fun vs H Q E h => h.1) fun cdv A outer s H vs Q E hr h => ⟨_, hb cdv A outer s H E hr, ?_⟩
  obtain ⟨hl, m, S, l, si, rs, q⟩ := h
  unfold mFun at q
  refine ⟨m, S, l.map some ++ List.replicate (N.length - l.length) none, si, ?_, ?_⟩
  · unfold L2.start
    rw [← rs.length]
    exact relG_start _ rs
  · cases e : b (l.map some ++ List.replicate (N.length - l.length) none) S with
    | nx g S' =>
      rw [e] at q
      exact fun m' H' σ' a r => q m' H' _ a mk_non
    | rt d S' => rw [e] at q; exact q
    | ex d S' => rw [e] at q; exact q
    | bk g S' => rw [e] at q; exact q.elim
    | ct g S' => rw [e] at q; exact q.elim
    | bad => rw [e] at q; exact q.elim
/-- a def without defaults, by its name -/
theorem gfn_of {k n : Nat} {x qual : Str} {params : Arguments} {body : List Stmt} {scope : Scope} {kws : List (Str × V)} {f : Addr} {fd : FuncData} {ps : List Str} {mf : List D → SM D} (F : FunD K x qual params body scope [] kws f fd) (hn : ps.length = n) (h : FnOk P w K mg base (L2.CX P w) k f fd ps (spOf c n mf)) (hm : mg x = some (.ref f)) (b : Binds K fd ps []) :
    Gfn P w K mg base c k x n [] mf := ⟨f, fd, ps, [], [], h, hm, F.kp, b, .nil, fun _ _ _ => mk_nil⟩
theorem gm_of {k n : Nat} {q x qual : Str} {params : Arguments} {body : List Stmt} {scope : Scope} {kws : List (Str × V)} {f : Addr} {fd : FuncData} {ps : List Str} {mf : List D → SM D} (F : FunD K x qual params body scope [] kws f fd) (hn : ps.length = n) (h : FnOk P w K mg base (L2.CX P w) k f fd ps (spOf c n mf)) (hc : Cls K (c.cls q)) (hm : Meth K (c.cls q) x f) (b : Binds K fd ps []) :
    Gm' P w K mg base c k q x n [] mf := ⟨hc, f, fd, ps, [], [], h, hm, b, .nil, fun _ _ _ => mk_nil⟩
theorem gk_of {k n : Nat} {q x qual : Str} {params : Arguments} {body : List Stmt} {scope : Scope} {kws : List (Str × V)} {f : Addr} {fd : FuncData} {ps : List Str} {mf : List D → SM D} (F : FunD K x qual params body scope [] kws f fd) (hn : ps.length = n) (h : FnOk P w K mg base (L2.CX P w) k f fd ps (spOf c n mf)) (hg : mg q = some (.ref (c.cls q))) (hm : Mk K (c.cls q) f) (b : Binds K fd ps []) :
    Gk P w K mg base c k q n [] mf := ⟨hg, f, fd, ps, [], [], h, hm, b, .nil, fun _ _ _ => mk_nil⟩
/-- .. with defaults -/
theorem gk_ofD {k n : Nat} {q x qual : Str} {params : Arguments} {body : List Stmt} {scope : Scope} {dvs : List V} {kws : List (Str × V)} {f : Addr} {fd : FuncData} {ps : List Str} {mf : List D → SM D} {dd : List D} (F : FunD K x qual params body scope dvs kws f fd) (hn : ps.length = n) (h : FnOk P w K mg base (L2.CX P w) k f fd ps (spOf c n mf)) (hg : mg q = some (.ref (c.cls q))) (hm : Mk K (c.cls q) f)
    (j : Nat) (b : ∃ ds, Vals (dvs.drop j) ds ∧ Binds K fd ps ds) (hd : ∀ m n H, RelDs c m n H dd (dvs.drop j)) : Gk P w K mg base c k q n dd mf := by
  obtain ⟨ds, h1, h2⟩ := b
  exact ⟨hg, f, fd, ps, ds, _, h, hm, h2, h1, hd⟩
end
/-! ### told: try: return what() / except .. -/
/-- the except clauses: class, answer -/
abbrev Tcl := List (Str × Str)
/-- is the class q' caught by the clause of q (own: the classes of the program, each with the ones above it) -/
def pickT (sub : Str → Str → Bool) (q : Str) : Tcl → Option Str
  | [] => none
  | p :: r => if sub q p.1 = true then some p.2 else pickT sub q r
def mTold (sub : Str → Str → Bool) (qs : List Str) (cl : Tcl) (a : ME) : ME := fun g S => match a g S with
  | .ok d S' => .ok d S'
  | .exc q S' => if q ∈ qs then (match pickT sub q cl with
    | some r => .ok (.str r) S'
    | none => .bad) else .bad
  | .bad => .bad
section
variable {X : Cx}
def TMany (K : PySem.W.Frag) : List (Addr × Str) → Value → (Str → Hp → Prop) → Hp → Prop
  | [], _, _, _ => False
  | p :: r, cls, Q, H => ∃ b, PySem.W.exmOne K cls (.ref p.1) = some b ∧ (b = true → Q p.2 H) ∧ (b = false → TMany K r cls Q H)
def TToldM (K : PySem.W.Frag) (l : List (Addr × Str)) : (XK → Hp → VK → Prop) → Hp → VK → Prop := fun tl H Q => tl (fun cls _ H' => TMany K l cls (fun r H'' => Q (.str r) H'') H') H Q
/-- two clauses -/
theorem told2_gives {Ng : List Str} {x a e e2 q ret ret2 : Str} {sg : Scope} {g CS CS2 : Addr} {cdg : Value} {j j2 : Nat} {p1 p2 p3 p4 p5 p6 p7 p8 p9 pa pb pc : Pos} (hge : sg.names.lookup e = some .globalImplicit) (hme : X.mg e = some (.ref CS)) (hde : (e == ("__debug__" : Str)) = false) (hge2 : sg.names.lookup e2 = some .globalImplicit) (hme2 : X.mg e2 = some (.ref CS2)) (hde2 : (e2 == ("__debug__" : Str)) = false)
    (h0 : ∀ f : Addr, (L2.start Ng [V.ref f])[0]? = some (some (V.ref f))) :
    LamX.GivesTo X Ng x sg g cdg [.Try [.Return (some (.Call (.Name a p1) [] [] p2)) p3] [.ExceptHandler (some (.Name e p4)) none [.Return (some (.Constant (.str ret) j p5)) p6] p7, .ExceptHandler (some (.Name e2 p9)) none [.Return (some (.Constant (.str ret2) j2 pa)) pb] pc] [] [] p8] a q (TToldM X.K [(CS, ret), (CS2, ret2)]) := by
  intro f c' s H Q tl act hc h
  have hgl : Gl (cxOf C8.CX0 X.prog X.w X.K X.mg X.base Ng x sg g cdg X.A X.stack s H C8.E0).nox e := hge
  have hgl2 : Gl (cxOf C8.CX0 X.prog X.w X.K X.mg X.base Ng x sg g cdg X.A X.stack s H C8.E0).nox e2 := hge2
  refine ⟨_, pss_one (ps_try_many (X := (cxOf C8.CX0 X.prog X.w X.K X.mg X.base Ng x sg g cdg X.A X.stack s H C8.E0).nox) (l := [(.ref CS, fun _ _ _ => tRet (tC (.str ret))), (.ref CS2, fun _ _ _ => tRet (tC (.str ret2)))]) (Wout := fun _ _ _ _ => False)
      (tb := fun W D σ H => ∃ Ech : XK, (∀ cls d σ' H', Ech cls d H' → W cls d σ' H') ∧ σ[0]? = some (some (.ref f)) ∧ H c' = some (LamX.CodeO c' q) ∧ tl Ech H D.rt)
      rfl rfl takes_none5 (fun W pn xe tk _ => ?_) (.cons ⟨hgl, hde, .inl hme⟩ (fun a oe cls d pn _ _ => pss_one (ps_ret pe_str)) (.cons ⟨hgl2, hde2, .inl hme2⟩ (fun a oe cls d pn _ _ => pss_one (ps_ret pe_str)) .nil))), ?_⟩
  · refine ⟨fun pins s' σ H' D I h' => ?_⟩
    obtain ⟨Ech, hW, h1, h2, h3⟩ := h'
    have hp := act W pn xe Ech p1 p2 tk hW
    have hq := pss_one (ps_ret (pos := p3) hp)
    exact hq.run pins s' σ H' D I ⟨h1, h2, h3⟩
  · refine ⟨_, fun cls d σ' H' hw => ?_, h0 f, hc, h⟩
    obtain ⟨b, e1, e2, e3⟩ := hw
    refine ⟨b, e1, fun hb a _ => e2 hb, fun hb => ?_⟩
    obtain ⟨b2, e4, e5, e6⟩ := e3 hb
    exact ⟨b2, e4, fun hb a _ => e5 hb, fun hb => e6 hb⟩
/-- what the clauses' classes say of the program's -/
def ExmOk (K : PySem.W.Frag) (c : Ct) (sub : Str → Str → Bool) (qs : List Str) (cl : Tcl) : Prop := ∀ q ∈ qs, ∀ p ∈ cl, PySem.W.exmOne K (.ref (c.cls q)) (.ref (c.cls p.1)) = some (sub q p.1)
theorem tmany_of {K : PySem.W.Frag} {c : Ct} {sub : Str → Str → Bool} {q : Str} : ∀ {cl : Tcl} {z : Str} {Q : Str → Hp → Prop} {H : Hp}, (∀ p ∈ cl, PySem.W.exmOne K (.ref (c.cls q)) (.ref (c.cls p.1)) = some (sub q p.1)) → pickT sub q cl = some z → Q z H → TMany K (cl.map fun p => (c.cls p.1, p.2)) (.ref (c.cls q)) Q H
  | [], _, _, _, _, e, _ => by cases e
  | r :: cl, z, Q, H, ex, e, h => by
    unfold pickT at e
    refine ⟨sub q r.1, ex r List.mem_cons_self, fun hb => ?_, fun hb => ?_⟩
    · rw [if_pos hb] at e
      cases e
      exact h
    · rw [if_neg (by rw [hb]; exact Bool.false_ne_true)] at e
      exact tmany_of (fun p hp => ex p (List.mem_cons_of_mem _ hp)) e h
/-- the def told as the module has it -/
structure Told (P : Program) (w : World) (K : PySem.W.Frag) (mg : Str → Option Value) (base : Heap) (c : Ct) (x : Str) (sub : Str → Str → Bool) (qs : List Str) (cl : Tcl) : Prop where
  ex : ∀ (X : Cx) (q : Str), X.prog = P → X.w = w → X.K = K → X.mg = mg → X.base = base → ∃ (a : Str) (g : Addr) (pg : Arguments) (bg : List Stmt) (sg : Scope) (dV kV doc pm cdv ct oc : Value) (an od : Option Addr) (osl : Array (Option Value)) (Ng : List Str),
    mg x = some (.ref g) ∧ PySem.W.keepIn K (.ref g) = true ∧ K.lookup g = some ⟨oc, od, .func (PySem.W.fnOf x x pg bg sg dV kV doc pm an cdv ct), osl⟩ ∧ PySem.W.codeIn K cdv x = true ∧ L2.Binds K (PySem.W.fnOf x x pg bg sg dV kV doc pm an cdv ct) [a] [] ∧ FnScope Ng [a] sg ∧ Ng[0]? = some a ∧ Vis sg a ∧
      LamX.GivesTo X Ng x sg g cdv bg a q (TToldM K (cl.map fun p => (c.cls p.1, p.2))) ∧ (a == ("__debug__" : Str)) = false ∧ (a == ("__classdict__" : Str)) = false
  exm : ExmOk K c sub qs cl
theorem qe_told {c : Ct} {E : XK} {sub : Str → Str → Bool} {qs : List Str} {cl : Tcl} {x : Str} {cc P : Addr} {k : Nat} {params : Arguments} {body : Expr} {scope : Scope} {me : ME} {p lpos pos : Pos} (T : Told X.prog X.w X.K X.mg X.base c x sub qs cl) (hg : Gl X x)
    (TB : LamX.TabB X.base X.mg cc P) (hcode : X.env.code = .ref cc) (hmT : (P, X.env.qual ++ "<lambda>") ∈ c.T) (hu : ∀ p ∈ c.T, p.1 = P → p.2 = X.env.qual ++ "<lambda>") (hr : Room (k + 2) X.A) (L : LamX.LamS X.env.scope scope)
    (hbody : ∀ (A : Around) (outer : List Env) (s : Shared) (H : Hp) (E : XK) (f c' : Addr), Room k (A.deeper (LamX.lamEnv X scope s.heap.objs.size f c')) → PE (LamX.lamCx X A outer s H E scope f c') body (rdE c E me))
    (hdef : defaultsOf params X.env = ([], []) := by rfl)
    (hbind : ∀ (q : Str) (cl : List (Str × Addr)) (pm cv ctv : Value), bindArgs (PySem.W.kla_fn "<lambda>" q params body scope cl pm cv ctv) ⟨[], []⟩ = pure [] := by intros; rfl)
    (hdb : (x == ("__debug__" : Str)) = false := by decide) :
    PE X (.Call (.Name x p) [.Lambda params body scope lpos] [] pos) (rdE c E (mTold sub qs cl me)) := by
  obtain ⟨a, g, pg, bg, sg, dV, kV, doc, pm, cdv, ct, oc, an, od, osl, Ng, h1, h2, h3, h4, h5, h6, h7, h8, h9, h10, h11⟩ := T.ex X (X.env.qual ++ "<lambda>") rfl rfl rfl rfl rfl
  refine PE.imp (LamX.pe_lamcall (T := c.T) hg h1 h2 h3 h4 h5 h6 h7 h8 h9 TB hcode hmT hu hr L hdef hbind hbody hdb h10 h11) fun σ H Q ⟨m, S, g, s, rg, q⟩ => ⟨s.tabs, fun H1 eN T1 => ?_⟩
  have n := Nxt.extN s eN T1
  refine ⟨m, S, g, n.sim, n.relG rg, ?_⟩
  unfold mTold at q
  cases e : me g S with
  | ok d S' =>
    rw [e] at q
    exact fun m' H' v a r => q m' H' v (n.trans s a) r
  | bad => rw [e] at q; exact q.elim
  | exc p S' =>
    rw [e] at q
    intro m' H' a
    dsimp only at q
    split at q
    · rename_i hp
      split at q
      · rename_i r er
        exact tmany_of (fun p' hp' => T.exm p hp p' hp') er (q m' H' _ (n.trans s a) mk_str)
      · exact q.elim
    · exact q.elim
end
end Y

set_option Elab.async false
set_option linter.all false
set_option maxRecDepth 100000
set_option maxHeartbeats 1000000
/-! Y12: for what is printed. -/
namespace Y
open PySem PySem.Spec PyProof.Rows L2
/-- a global of the module: its value -/
def GK (mg : Str → Option Value) (c : Ct) (x : Str) (d : D) : Prop := ∃ v u, mg x = some u ∧ RelV v u ∧ ∀ m n H, RelD c m n H d v
theorem qe_gk {X : Cx} {c : Ct} {E : XK} {x : Str} {d : D} {pos : Pos} (h : GK X.mg c x d) (hg : Gl X x) (hd : (x == ("__debug__" : Str)) = false := by decide) : PE X (.Name x pos) (rdE c E (mC d)) := by
  obtain ⟨v, u, h1, h2, h3⟩ := h
  exact qe_glob hg h1 h2 h3 hd
theorem qt_pw {X : Cx} {e : Expr} {t : TT} (h : PW X e t) : PT X e t := h.pt
theorem passesL {X : Cx} {A : Around} {outer : List Env} {s : Shared} {H : Hp} {E : XK} {scope : Scope} {f c' : Addr} : Passes (L2.CX (LamX.lamCx X A outer s H E scope f c').prog (LamX.lamCx X A outer s H E scope f c').w) (LamX.lamCx X A outer s H E scope f c') E := passesT (takes_of rfl rfl rfl rfl)
/-- while: so many turns -/
def FU : Nat := 1000000
end Y

set_option Elab.async false
set_option linter.all false
set_option maxRecDepth 100000
set_option maxHeartbeats 1000000
/-! Y13: from a head's facts. -/
namespace Y
open PySem PySem.Spec PyProof.Rows L2
/-! ### values of the written part -/
mutual
def vB (K : PySem.W.Frag) : D → Value → Bool
  | .non, .none => true
  | .bl b, .bool c => b == c
  | .int i, .int j _ => decide (i = j)
  | .str x, .str y _ => decide (x = y)
  | .ktp l, .ref a => (match K.lookup a with
    | some ⟨.type t, none, .seq its _, _⟩ => decide (t = "tuple") && (decide (its.size ≤ sizeLine) && vsB K l its.toList)
    | _ => false)
  | .fro l, .ref a => (match K.lookup a with
    | some ⟨.type t, none, .seq its _, _⟩ => decide (t = "list") && (decide (its.size ≤ sizeLine) && vsB K l its.toList)
    | _ => false)
  | _, _ => false
def vsB (K : PySem.W.Frag) : List D → List Value → Bool
  | [], [] => true
  | d :: l, u :: us => vB K d u && vsB K l us
  | _, _ => false
end
mutual
theorem vB_ok {c : Ct} : ∀ {d : D} {u : Value}, vB c.K d u = true → ∃ v, RelV v u ∧ ∀ m n H, RelD c m n H d v
  | .non, u, h => by
    cases u <;> first | exact ⟨.non, rfl, fun _ _ _ => mk_non⟩ | (unfold vB at h; cases h)
  | .bl b, u, h => by
    cases u <;> first | (unfold vB at h; exact ⟨.bl b, by rw [eq_of_beq h]; rfl, fun _ _ _ => mk_bl⟩) | (unfold vB at h; cases h)
  | .int i, u, h => by
    cases u <;> first | (unfold vB at h; exact ⟨.int i, ⟨_, by rw [of_decide_eq_true h]⟩, fun _ _ _ => mk_int⟩) | (unfold vB at h; cases h)
  | .str i, u, h => by
    cases u <;> first | (unfold vB at h; exact ⟨.str i, ⟨_, by rw [of_decide_eq_true h]⟩, fun _ _ _ => mk_str⟩) | (unfold vB at h; cases h)
  | .ktp l, u, h => by
    cases u <;> first | (unfold vB at h; done) | skip
    case ref a =>
      unfold vB at h
      split at h
      · rename_i t its n sl e
        obtain ⟨h1, h2⟩ := He.ba h
        obtain ⟨h3, h4⟩ := He.ba h2
        obtain ⟨vs, r, k⟩ := vsB_ok (c := c) h4
        exact ⟨.ref a, rfl, fun m n H => mk_ktp ⟨_, its, _, e, congrArg Value.type (of_decide_eq_true h1), rfl, rfl, of_decide_eq_true h3, r⟩ (k m n H)⟩
      · cases h
    all_goals (unfold vB at h; cases h)
  | .fro l, u, h => by
    cases u <;> first | (unfold vB at h; done) | skip
    case ref a =>
      unfold vB at h
      split at h
      · rename_i t its n sl e
        obtain ⟨h1, h2⟩ := He.ba h
        obtain ⟨h3, h4⟩ := He.ba h2
        obtain ⟨vs, r, k⟩ := vsB_ok (c := c) h4
        refine ⟨.ref a, rfl, fun m n H => ?_⟩
        unfold RelD
        exact ⟨a, vs, rfl, .inr ⟨_, its, _, e, congrArg Value.type (of_decide_eq_true h1), rfl, rfl, of_decide_eq_true h3, r⟩, k m n H⟩
      · cases h
    all_goals (unfold vB at h; cases h)
  | .tup l, u, h => by unfold vB at h; cases h
  | .gtp l, u, h => by unfold vB at h; cases h
  | .adr l, u, h => by unfold vB at h; cases h
theorem vsB_ok {c : Ct} : ∀ {l : List D} {us : List Value}, vsB c.K l us = true → ∃ vs, Vals vs us ∧ ∀ m n H, RelDs c m n H l vs
  | [], [], h => ⟨[], .nil, fun _ _ _ => mk_nil⟩
  | [], _ :: _, h => by unfold vsB at h; cases h
  | _ :: _, [], h => by unfold vsB at h; cases h
  | d :: l, u :: us, h => by
    unfold vsB at h
    obtain ⟨h1, h2⟩ := He.ba h
    obtain ⟨v, r1, k1⟩ := vB_ok (c := c) h1
    obtain ⟨vs, r2, k2⟩ := vsB_ok (c := c) h2
    exact ⟨v :: vs, .cons r1 r2, fun m n H => mk_cons (k1 m n H) (k2 m n H)⟩
end
/-- the module's name x is this -/
def glB (K : PySem.W.Frag) (x : Str) (d : D) : Bool := match PySem.W.nsIn K mainGlobals x with
  | some (some u) => vB K d u
  | _ => false
theorem glB_ok {c : Ct} {h : Heap} {mg : Str → Option Value} {x : Str} {d : D} (X : c.K.In h) (G : h.Ns mainGlobals mg) (e : glB c.K x d = true) : GK mg c x d := by
  unfold glB at e
  split at e
  · rename_i u eu
    obtain ⟨v, r, k⟩ := vB_ok (c := c) e
    exact ⟨v, u, PySem.W.mg_of X G eu, r, k⟩
  · cases e
theorem exo_of {c : Ct} {h : Heap} {mg : Str → Option Value} {x : Str} (X : c.K.In h) (G : h.Ns mainGlobals mg) (hc : c.cls x = He.ga c.K x) (e1 : (He.Fa.glo x).ok c.K = true) (e2 : (He.Fa.exc x).ok c.K = true) : Exo c.K mg c x := by
  obtain ⟨h1, h2, h3, h4⟩ := He.exc_ok e2
  exact ⟨by rw [hc]; exact He.glo_ok X G e1, by rw [hc]; exact h1, by rw [hc]; exact h2, by rw [hc]; exact h3, by rw [hc]; exact h4⟩
/-! ### told with two clauses -/
theorem told2_of {P : Program} {w : World} {K : PySem.W.Frag} {mg : Str → Option Value} {base : Heap} {c : Ct} {x a e e2 ret ret2 : Str} {params : Arguments} {scope : Scope} {f : Addr} {fd : FuncData} {j j2 : Nat} {p1 p2 p3 p4 p5 p6 p7 p8 p9 pa pb pc : Pos} {sub : Str → Str → Bool} {qs : List Str} {Ng : List Str}
    (F : FunD K x x params [.Try [.Return (some (.Call (.Name a p1) [] [] p2)) p3] [.ExceptHandler (some (.Name e p4)) none [.Return (some (.Constant (.str ret) j p5)) p6] p7, .ExceptHandler (some (.Name e2 p9)) none [.Return (some (.Constant (.str ret2) j2 pa)) pb] pc] [] [] p8] scope [] [] f fd)
    (hm : mg x = some (.ref f)) (b : Binds K fd [a] []) (S : FnScope Ng [a] scope) (h0 : Ng[0]? = some a) (hv : Vis scope a) (ha : (a == ("__debug__" : Str)) = false) (ha2 : (a == ("__classdict__" : Str)) = false)
    (hge : scope.names.lookup e = some .globalImplicit) (hme : mg e = some (.ref (c.cls e))) (hde : (e == ("__debug__" : Str)) = false) (hge2 : scope.names.lookup e2 = some .globalImplicit) (hme2 : mg e2 = some (.ref (c.cls e2))) (hde2 : (e2 == ("__debug__" : Str)) = false)
    (hs : ∀ f : Addr, (L2.start Ng [V.ref f])[0]? = some (some (V.ref f))) (ex : ExmOk K c sub qs [(e, ret), (e2, ret2)]) : Told P w K mg base c x sub qs [(e, ret), (e2, ret2)] := by
  refine ⟨fun X q h1 h2 h3 h4 h5 => ?_, ex⟩
  subst h1 h2 h3 h4 h5
  obtain ⟨oc, od, dV, kV, doc, pm, an, cdv, ct, osl, rfl, lk, hcd, _, _⟩ := F.ex
  exact ⟨a, f, params, _, scope, dV, kV, doc, pm, cdv, ct, oc, an, od, osl, Ng, hm, F.kp, lk, hcd, b, S, h0, hv, told2_gives hge hme hde hge2 hme2 hde2 hs, ha, ha2⟩
/-! ### the law's own def: its code object is known -/
theorem fn_runL {P : Program} {w : World} {K : PySem.W.Frag} {mg : Str → Option Value} {base : Heap} {c : Ct} {N ps : List Str} {x qual : Str} {params : Arguments} {body : List Stmt} {scope : Scope} {dvs : List V} {kws : List (Str × V)} {p : Str × Option Str} {fd : FuncData} {k : Nat} {b : MS} (F : FunD K x qual params body scope dvs kws (He.fAd K p) fd) (S : FnScope N ps scope)
    (hb : ∀ (A : Around) (outer : List Env) (s : Shared) (H : Hp) (E : XK) (cdv : Value), cdv = .ref (He.codeOf K p) → Room k (A.deeper (envOfC qual scope s.heap.objs.size (He.fAd K p) cdv)) → PSs (cxOf (L2.CX P w) P w K mg base N qual scope (He.fAd K p) cdv A outer s H E) body (rdS c E b)) :
    FnOk P w K mg base (L2.CX P w) (k + 1) (He.fAd K p) fd ps (spOf c ps.length (mFun N.length b)) := by
  obtain ⟨oc, od, dV, kV, doc, pm, an, cdv, ct, osl, rfl, lk, hcd, _, _⟩ := F.ex
  obtain ⟨cc, rfl⟩ := He.codeIn_ref hcd
  have e := He.codeOf_eq (p := p) lk rfl
  refine fn_of lk hcd S (fun vs H Q E h => h.1) fun A outer s H vs Q E hr h => ⟨_, hb A outer s H E _ (by rw [e]) hr, ?_⟩
  obtain ⟨hl, m, S, l, si, rs, q⟩ := h
  unfold mFun at q
  refine ⟨m, S, l.map some ++ List.replicate (N.length - l.length) none, si, ?_, ?_⟩
  · unfold L2.start
    rw [← rs.length]
    exact relG_start _ rs
  · cases e : b (l.map some ++ List.replicate (N.length - l.length) none) S with
    | nx g S' =>
      rw [e] at q
      exact fun m' H' σ' a r => q m' H' _ a mk_non
    | rt d S' => rw [e] at q; exact q
    | ex d S' => rw [e] at q; exact q
    | bk g S' => rw [e] at q; exact q.elim
    | ct g S' => rw [e] at q; exact q.elim
    | bad => rw [e] at q; exact q.elim
/-- the store at the start: the script alone, if it is a list that may be written -/
def S0 : Sr := ⟨0, fun _ => none⟩
def S1 (l : List D) : Sr := ⟨1, fun i => if i = 0 then some (.lst l) else none⟩
theorem rel_ints {c : Ct} {m : Nat → Addr} {n : Nat} {H : Hp} : ∀ ns : List Int, RelDs c m n H (ns.map .int) (ns.map V.int)
  | [] => mk_nil
  | i :: ns => mk_cons mk_int (rel_ints ns)
theorem law_start {c : Ct} {mf : List D → SM D} {H : Hp} {a : Addr} {ns : List Int} {E : XK} (ht : LamX.Tabs c.T H) (hS : SqL c.K H a (ns.map V.int)) (p1 : ∃ S', mf [.fro (ns.map .int)] S0 = .ok (.bl true) S') (p2 : ∃ S', mf [.adr 0] (S1 (ns.map .int)) = .ok (.bl true) S') :
    spOf c 1 mf [.ref a] H (fun v _ => v = .bl true) E := by
  have fro : SqF c.K H a (ns.map V.int) → spOf c 1 mf [.ref a] H (fun v _ => v = .bl true) E := fun h => by
    obtain ⟨S', e⟩ := p1
    refine ⟨rfl, fun _ => 0, S0, [.fro (ns.map .int)], ⟨fun i x e => (nomatch e), fun i h => absurd h (Nat.not_lt_zero i), fun i j h => absurd h (Nat.not_lt_zero i), fun i x e => (nomatch e), ht⟩, mk_cons ?_ mk_nil, ?_⟩
    · unfold RelD
      exact ⟨a, _, rfl, h, rel_ints ns⟩
    · rw [e]
      exact fun m' H' v _ r => rd_bl r
  rcases hS with (h | ⟨o, h⟩) | h
  · obtain ⟨S', e⟩ := p2
    refine ⟨rfl, fun _ => a, S1 (ns.map .int), [.adr 0], ⟨fun i x e => ?_, fun i hi => ?_, fun i j hi hj _ => ?_, fun i x e => ?_, ht⟩, mk_cons (mk_adr (Nat.lt_succ_self 0)) mk_nil, ?_⟩
    · by_cases hi : i = 0
      · rw [hi]
        exact Nat.lt_succ_self 0
      · have e : (if i = 0 then some (MO.lst (ns.map .int)) else none) = some x := e
        rw [if_neg hi] at e
        cases e
    · have hi : i < 1 := hi
      exact ⟨_, if_pos (by omega)⟩
    · have hi : i < 1 := hi
      have hj : j < 1 := hj
      omega
    · by_cases hi : i = 0
      · have e : (if i = 0 then some (MO.lst (ns.map .int)) else none) = some x := e
        rw [if_pos hi] at e
        cases e
        exact ⟨_, h, ns.map V.int, rfl, rel_ints ns⟩
      · have e : (if i = 0 then some (MO.lst (ns.map .int)) else none) = some x := e
        rw [if_neg hi] at e
        cases e
    · rw [e]
      exact fun m' H' v _ r => rd_bl r
  · exact fro (.inl ⟨o, h⟩)
  · exact fro (.inr h)
theorem tabs_start {H : Hp} {P : Addr} {q : Str} (h : H P = some (.tbl #[])) : LamX.Tabs [(P, q)] H := fun p hp => by
  have e : p = (P, q) := by simpa using hp
  rw [e]
  exact LamX.TabS.nil h
theorem all_at {l : List Bool} (h : l.all id = true) (i : Nat) {b : Bool} (e : l[i]? = some b) : b = true := List.all_eq_true.mp h b (List.mem_of_getElem? e)
theorem relV_ref {v : V} {a : Addr} (h : L2.RelV v (.ref a)) : v = .ref a := by
  cases v with
  | ref b =>
    have e : Value.ref a = Value.ref b := h
    cases e
    rfl
  | int i => obtain ⟨_, e⟩ := h; cases e
  | str i => obtain ⟨_, e⟩ := h; cases e
  | byt i => obtain ⟨_, e⟩ := h; cases e
  | flt i => obtain ⟨_, e⟩ := h; cases e
  | _ => cases h
theorem valsRef : ∀ {as : List Addr} {vs : List V}, Vals vs (as.map Value.ref) → vs = as.map V.ref
  | [], _, .nil => rfl
  | a :: as, _, .cons r t => by rw [relV_ref r, valsRef t] <;> rfl
theorem vals_refs {c : Ct} {l : List D} (as : List Addr) {vs : List V} (r : Vals vs (as.map Value.ref)) (k : ∀ m n H, RelDs c m n H l vs) : ∀ m n H, RelDs c m n H l (as.map V.ref) := by
  rw [valsRef r] at k
  exact k
end Y

set_option Elab.async false
set_option linter.all false
set_option maxRecDepth 100000
set_option maxHeartbeats 2000000
/-! Y14: a comprehension's block that knows of the frame around it; lists of lambdas that are told one by one. -/
namespace Y
open PySem PySem.Spec PyProof.Rows L2
section
variable {X : Cx}
/-- the block of one for: what it needs of its target, its tests, its item may lean on the frame's own state at the block's start -/
theorem lc_frame {own : List (Str × Nat)} {wi : TI} {g : TG} {tt : TT} {te : TE} {elt tg iter : Expr} {ifs : List Expr} {scope : Scope} {cpos : Pos} (calm : X.calm = true) (nd : X.N.Nodup) (hit : PI X tg iter wi) (bok : BlkOk X.N X.env.scope scope own)
    (parts : ∀ (pz : List (Addr × Obj)) (z : L2.St) (sB : Shared) (HB : Hp) (LB : Addr) (clB : List (Str × Addr)) (fB : List Addr), Inv X pz z HB sB → (∀ b ∈ fB, FpOk X pz HB b ∧ b < sB.heap.objs.size) →
      PG (X.blk sB HB scope (compEnvC scope clB LB X.env) fB) tg g ∧ PTs (X.blk sB HB scope (compEnvC scope clB LB X.env) fB) ifs (fun y H Q => wipe y (own.map (·.2)) = wipe z (own.map (·.2)) ∧ tt y H Q) ∧ PE (X.blk sB HB scope (compEnvC scope clB LB X.env) fB) elt (fun y H Q => wipe y (own.map (·.2)) = wipe z (own.map (·.2)) ∧ te y H Q))
    (fold : ∀ x, foldedSetIterable iter X.env x = pure x := by intro _; rfl) :
    PE X (.ListComp elt [⟨tg, iter, ifs, 0⟩] scope cpos) (tLc wi g tt te (own.map (·.2))) := by
  refine ⟨fun pz sA z HA Q IA rdg => ?_⟩
  rw [eval_ListComp]
  have clo : ∀ y ∈ scope.names, y.2 = .free → ∃ d, X.env.cells.lookup y.1 = some d := by
    intro y hy fr
    exact IA.ok.has _ (bok.free y hy fr)
  refine wpAny_comprehension_free rfl fold (closure_ok clo) bok.kind (fun y hy l => (bok.uniq y hy).trans (congrArg some l)) ?_
  refine thn (hit.run pz sA z HA _ IA rdg) fun xv sX lv => ?_
  refine thn lv fun iv sI got => ?_
  obtain ⟨ia, fB, tn, J, HI, rfl, II, TT, tn0, fpI, more⟩ := got
  refine wpAny_newObj_type (newEnv_comp ?_) (Nat.zero_le _)
  obtain ⟨DD, eD⟩ : ∃ d, d = sI.heap.objs.size := ⟨_, rfl⟩
  obtain ⟨sB, eB⟩ : ∃ s, s = ({ sI with heap := sI.heap.push { cls := .type "list", data := .seq ([] : List Value).toArray } } : Shared) := ⟨_, rfl⟩
  obtain ⟨HB, eH⟩ : ∃ h, h = upd HI DD (.lst []) := ⟨_, rfl⟩
  have freshD : HI DD = none := II.hok.fresh (Nat.le_of_eq eD.symm)
  have hpB : sB.heap = sI.heap.push { cls := .type "list", data := .seq ([] : List Value).toArray } := by rw [eB]
  have IB : Inv X pz z HB sB := by
    rw [eB, eH]
    refine II.laid (t' := sI.toks) (fun _ _ k => Heap.get?_push_of_some _ k) (Nat.le_of_eq eD.symm) ⟨Nat.zero_le _, [], 0, .nil, ?_⟩
    rw [eD]
    exact Heap.get?_push_size _ rfl
  have fpB : ∀ b ∈ fB, FpOk X pz HB b ∧ b < sB.heap.objs.size := by
    intro b hb
    obtain ⟨ob, eo, _⟩ := TT.obj _ _ tn0 b hb
    have lt := Heap.lt_size eo
    refine ⟨⟨?_, (fpI b hb).2⟩, ?_⟩
    · rw [eH, upd_ne (by rw [eD]; exact Nat.ne_of_lt lt)]
      exact (fpI b hb).1
    · rw [hpB, Heap.size_push]
      exact Nat.lt_succ_of_lt lt
  have tnB : tn 0 sB.heap := TT.keep _ _ _ tn0 fun b _ ob k => by
    rw [hpB]
    exact Heap.get?_push_of_some _ k
  have blk := block_start IB bok nd fpB
  obtain ⟨pg, pt, pe⟩ := parts pz z sB HB sB.heap.objs.size (cellsFrom (sB.heap.objs.size + 1) scope.names (cloFrom X.env.cells scope.names [])) fB IB fpB
  obtain ⟨W, ⟨k0, w0⟩, turn⟩ := more DD freshD
  rw [← eH] at w0
  rw [← eB, ← eD]
  show codeAny _ _ (.compStart (.ListComp elt [⟨tg, iter, ifs, 0⟩] scope cpos) 0 (.ref ia) (.ref DD) (compEnvC scope (cellsFrom (sB.heap.objs.size + 1) scope.names (cloFrom X.env.cells scope.names [])) sB.heap.objs.size X.env)) (compPost (model X.prog X.w) X.A X.xe none _ (.ref DD) sB.heap.objs.size) { sB with heap := pushCells (sB.heap.push { cls := .type "dict", data := .dict #[] }) scope.names }
  obtain ⟨ce, ece⟩ : ∃ e, e = compEnvC scope (cellsFrom (sB.heap.objs.size + 1) scope.names (cloFrom X.env.cells scope.names [])) sB.heap.objs.size X.env := ⟨_, rfl⟩
  rw [← ece] at blk pg pt pe ⊢
  have ceL : ce.locals = sB.heap.objs.size := by rw [ece] <;> rfl
  obtain ⟨sC, eC⟩ : ∃ s, s = ({ sB with heap := pushCells (sB.heap.push { cls := .type "dict", data := .dict #[] }) scope.names } : Shared) := ⟨_, rfl⟩
  rw [← eC] at blk ⊢
  have tnC : tn 0 sC.heap := TT.keep _ _ _ tnB fun b _ ob k => by
    rw [eC]
    exact pushCells_keeps _ _ _ _ (Heap.get?_push_of_some _ k)
  have fpIn : ∀ {zz : L2.St} {HH : Hp} {ss : Shared}, Inv (X.blk sB HB scope ce fB) [] zz HH ss → (∀ b ∈ fB, HH b = none) → ∀ b ∈ fB, FpOk (X.blk sB HB scope ce fB) [] HH b := by
    intro zz HH ss II nn b hb
    exact ⟨nn b hb, (II.ok.exf b hb).1, II.ok.exfs b hb, .inl hb, fun x d e => (II.ok.exf b hb).2 x d e, fun p hp => nomatch (show p ∈ ([] : List (Addr × Obj)) from hp)⟩
  have walk : codeAny (model X.prog X.w) X.A (.compLoop (.ListComp elt [⟨tg, iter, ifs, 0⟩] scope cpos) 0 (.ref ia) (.ref DD) ce) (compPost (model X.prog X.w) X.A X.xe none (EP X pz z Q) (.ref DD) sB.heap.objs.size) sC := by
    refine compLoop_any (fun k st => ∃ i HH, Inv (X.blk sB HB scope ce fB) [] (wipe z (own.map (·.2))) HH st ∧ tn i st.heap ∧ (∀ b ∈ fB, HH b = none) ∧ W i k HH) ?_ k0 ⟨0, HB, blk, tnC, fun b hb => (fpB b hb).1.1, w0⟩
    rintro k st ⟨i, HH, IH, tnH, nnH, wH⟩
    rcases turn i k HH wH with ⟨fin, qq⟩ | ⟨go, Nx, hNx, step⟩
    · refine thnF (TT.done (X.blk sB HB scope ce fB) rfl rfl rfl calm i [] st _ HH (fun _ _ => False) IH (fpIn IH nnH) tnH fin) fun r sE ⟨er, IE⟩ => ?_
      subst er
      have IO : Inv X pz z HH sE := IB.call' (ch := fB) IE.os IE.base IE.hok IE.bare fun b hb => ⟨(fpB b hb).1.2.2.2.1, (fpB b hb).1.2.1, (fpB b hb).1.2.2.2.2.1, (fpB b hb).1.2.2.2.2.2⟩
      have nn : HH sB.heap.objs.size = none := ceL ▸ (show HH ce.locals = none from IE.free)
      obtain ⟨mm, ns, _⟩ := IE.loc
      have ns : sE.heap.Ns ce.locals mm := ns
      rw [ceL] at ns
      refine ⟨mm, ns, fun hh sb => ⟨.ref DD, HH, ?_, rfl, qq⟩⟩
      obtain ⟨f0, f1, f2, f3, f4, f5⟩ := IB.fpOk (Nat.le_refl _) nn
      exact IO.turned (t' := sE.toks) (fun b ob hb k => (sb.2 b hb).trans k) f0 f1 f3 f4 f5
    · refine thnF (TT.item (X.blk sB HB scope ce fB) rfl rfl rfl calm i [] st _ HH (fun _ _ => False) IH (fpIn IH nnH) tnH go) fun r s6 ⟨u, er, h6⟩ => ?_
      subst er
      refine thnF h6 fun _ s7 ⟨x, H7, I7, r7, y7, tn7, n7⟩ => ?_
      have P7 := I7.pinned (fpIn I7 n7) (TT.obj _ _ tn7)
      refine thnF (pg.run _ s7 _ H7 x u _ P7 r7 (step x H7 y7)) fun _ s8 ⟨z8, H8, I8, ez, q8⟩ => ?_
      have again : ∀ {ss : Shared} {HX : Hp}, Inv (X.blk sB HB scope ce fB) ([] ++ pinsAt fB s7.heap) z8 HX ss → Nx HX → ∃ j, j < k ∧ ∃ i HX, Inv (X.blk sB HB scope ce fB) [] (wipe z (own.map (·.2))) HX ss ∧ tn i ss.heap ∧ (∀ b ∈ fB, HX b = none) ∧ W i j HX := by
        intro ss HX IX nx
        obtain ⟨j, lt, wX⟩ := hNx HX nx
        have same : ∀ b ∈ fB, ∀ ob, s7.heap.get? b = some ob → ss.heap.get? b = some ob ∧ HX b = none := by
          intro b hb ob k
          have pp := IX.pin (b, ob) (List.mem_append_right _ (List.mem_append_right _ (mem_pinsAt hb k)))
          exact ⟨pp.1, pp.2.1⟩
        refine ⟨j, lt, i + 1, HX, (IX.unpinned (pins := [])).weak (by rw [← ez, wipe_length]) (fun n v e => (wipe_some (by rw [ez]; exact e)).1), TT.keep _ _ _ tn7 fun b hb ob k => (same b hb ob k).1, fun b hb => ?_, wX⟩
        obtain ⟨ob, k, _⟩ := TT.obj _ _ tn7 b hb
        exact (same b hb ob k).2
      refine thnF (pt.run _ s8 z8 H8 _ I8 ⟨ez, q8⟩) fun b s9 ⟨H9, I9, q9⟩ => ?_
      cases b with
      | false =>
        rw [if_neg Bool.false_ne_true] at q9 ⊢
        exact again I9 q9
      | true =>
        rw [if_pos rfl] at q9 ⊢
        refine thnF (pe.run _ s9 z8 H9 _ I9 ⟨ez, q9⟩) fun v sV ⟨yv, HV, IV, rV, acc, eV, lV, nx⟩ => ?_
        exact app_ok (X := X.blk sB HB scope ce fB) IV eV lV rV fun sW IW => again IW nx
  exact codeAny_compStart_list walk (TT.self X.A 0 _ _ _ tnC walk)
/-! ### lambdas kept in a list -/
structure LamE where
  params : Arguments
  body : Expr
  scope : Scope
  pos : Pos
def LamE.e (l : LamE) : Expr := .Lambda l.params l.body l.scope l.pos
abbrev lamQ (X : Cx) : Str := X.env.qual ++ "<lambda>"
abbrev lamObj (X : Cx) (l : LamE) (pm : Value) (k : Addr) (ctv : Value) : Obj := PySem.W.kla_obj "<lambda>" (lamQ X) l.params l.body l.scope (cloFrom X.env.cells l.scope.names []) pm k ctv
/-- a lambda's object at f among the pins -/
def LamAt (X : Cx) (H : Hp) (pl : List (Addr × Obj)) (l : LamE) (f : Addr) : Prop :=
  ∃ pm k ctv, (f, lamObj X l pm k ctv) ∈ pl ∧ f ∉ frs X.stack ∧ H k = some (LamX.CodeO k (lamQ X))
def LamsAt (X : Cx) (H : Hp) (pl : List (Addr × Obj)) : List LamE → List Addr → Prop
  | [], fs => fs = []
  | l :: r, fs => ∃ f t, fs = f :: t ∧ LamAt X H pl l f ∧ LamsAt X H pl r t
section
variable {c : Ct} {m m' : Nat → Addr} {S S' : Sr} {H H' : Hp}
theorem codeO_keep (s : Sim c m S H) (a : Nxt c m S H m' S' H') {k : Addr} {q : Str} (h : H k = some (LamX.CodeO k q)) : H' k = some (LamX.CodeO k q) := by
  refine a.fr k _ (fun i hi e => ?_) h fun ps => LamX.codeO_ne ps
  obtain ⟨x, ex⟩ := s.all i hi
  obtain ⟨o, e1, r⟩ := s.at_ i x ex
  rw [← e, h] at e1
  cases e1
  exact codeO_not r k q rfl
theorem LamAt.go {pl pl' : List (Addr × Obj)} (s : Sim c m S H) (a : Nxt c m S H m' S' H') (sub : ∀ p ∈ pl, p ∈ pl') {l : LamE} {f : Addr} (h : LamAt X H pl l f) : LamAt X H' pl' l f := by
  obtain ⟨pm, k, ctv, h1, h2, h3⟩ := h
  exact ⟨pm, k, ctv, sub _ h1, h2, codeO_keep s a h3⟩
theorem LamsAt.go {pl pl' : List (Addr × Obj)} (s : Sim c m S H) (a : Nxt c m S H m' S' H') (sub : ∀ p ∈ pl, p ∈ pl') : ∀ {ls : List LamE} {fs : List Addr}, LamsAt X H pl ls fs → LamsAt X H' pl' ls fs
  | [], _, h => h
  | l :: r, _, ⟨f, t, e, h1, h2⟩ => ⟨f, t, e, h1.go s a sub, LamsAt.go s a sub h2⟩
theorem LamsAt.get {pl : List (Addr × Obj)} : ∀ {ls : List LamE} {fs : List Addr} {i : Nat} {l : LamE}, LamsAt X H pl ls fs → ls[i]? = some l → ∃ f, fs[i]? = some f ∧ LamAt X H pl l f
  | [], _, _, _, _, e => by cases e
  | x :: r, _, i, l, ⟨f, t, e, h1, h2⟩, el => by
    subst e
    cases i with
    | zero =>
      cases el
      exact ⟨f, rfl, h1⟩
    | succ i => exact LamsAt.get (i := i) h2 el
theorem LamsAt.length {pl : List (Addr × Obj)} : ∀ {ls : List LamE} {fs : List Addr}, LamsAt X H pl ls fs → fs.length = ls.length
  | [], _, h => by cases h; rfl
  | x :: r, _, ⟨f, t, e, h1, h2⟩ => by
    subst e
    exact congrArg (· + 1) (LamsAt.length h2)
end
/-- a lambda's object is pinned -/
theorem pin_lam {pz : List (Addr × Obj)} {z : L2.St} {H : Hp} {s : Shared} {l : LamE} {f k : Addr} {pm ctv : Value} (I : Inv X pz z H s) (hf : s.heap.get? f = some (lamObj X l pm k ctv)) (hn : H f = none) (hr : f ∉ frs X.stack) : Inv X (pz ++ [(f, lamObj X l pm k ctv)]) z H s := by
  refine I.pins_of fun p hp => ?_
  rcases List.mem_append.mp hp with h | h
  · exact I.pin p (List.mem_append_right _ h)
  · obtain rfl : p = (f, lamObj X l pm k ctv) := by simpa using h
    refine ⟨hf, hn, fun e => ?_, fun e => ?_, fun v e => nomatch e⟩
    · have e : f = X.env.locals := e
      obtain ⟨mm, ⟨o, es, ep, ho, hd, _⟩, _⟩ := I.loc
      rw [← e, hf] at ho
      rw [← Option.some.inj ho] at hd
      cases hd
    · rcases I.ok.stk with h | ⟨h, h2⟩
      · rw [h] at hr
        exact hr e
      · rw [h] at hr
        obtain ⟨en, h3, h4⟩ := List.mem_filterMap.mp e
        exact hr (List.mem_filterMap.mpr ⟨en, List.mem_cons_of_mem _ h3, h4⟩)
/-- the lambdas written in a list, from the left -/
theorem lams_eval {c : Ct} {cc P : Addr} {z : L2.St} {E : Value → Shared → Prop} {pos : Pos} (TB : LamX.TabB X.base X.mg cc P) (hcode : X.env.code = .ref cc) (hmT : (P, lamQ X) ∈ c.T) (hu : ∀ p ∈ c.T, p.1 = P → p.2 = lamQ X) :
    ∀ (ls : List LamE) {pz : List (Addr × Obj)} {s : Shared} {H : Hp} {m : Nat → Addr} {S : Sr} {Q : List Value → Shared → Prop}, (∀ l ∈ ls, LamX.LamS X.env.scope l.scope ∧ defaultsOf l.params X.env = ([], [])) → Inv X pz z H s → Sim c m S H →
      (∀ fs pl s' H', Inv X (pz ++ pl) z H' s' → Nxt c m S H m S H' → LamsAt X H' pl ls fs → Q (fs.map Value.ref) s') → wpAny (model X.prog X.w) X.A (spliced (backTo pos (starEach (ls.map LamE.e) X.env))) Q E s
  | [], pz, s, H, m, S, Q, _, I, si, h => Calls.spliced_nil (h [] [] s H (by rw [List.append_nil]; exact I) (Nxt.refl si) rfl)
  | l :: r, pz, s, H, m, S, Q, hl, I, si, h => by
    have e : starEach ((l :: r).map LamE.e) X.env = (false, eval l.e X.env) :: starEach (r.map LamE.e) X.env := rfl
    rw [e]
    show wpAny _ _ (spliced ((false, eval l.e X.env) :: backTo pos (starEach (r.map LamE.e) X.env))) _ _ s
    obtain ⟨L, dfl⟩ := hl l List.mem_cons_self
    refine Calls.spliced_cons (LamX.lam_make2 I TB hcode hmT hu si.tabs dfl (L.has I.ok) fun f k pm ctv H1 s1 I1 eN T1 hf hfn hfr hco => ?_)
    have n1 := Nxt.extN si eN T1
    have I2 := pin_lam (l := l) I1 hf hfn hfr
    refine lams_eval TB hcode hmT hu r (fun l' h' => hl l' (List.mem_cons_of_mem _ h')) I2 n1.sim fun fs pl s' H' I3 n2 at3 => ?_
    refine h (f :: fs) ((f, lamObj X l pm k ctv) :: pl) s' H' (by rw [List.append_assoc] at I3; exact I3) (n1.trans si n2) ⟨f, fs, rfl, ?_, at3.go n2.sim (Nxt.refl n2.sim) fun p hp => List.mem_cons_of_mem _ hp⟩
    exact ⟨pm, k, ctv, List.mem_cons_self, hfr, codeO_keep n1.sim n2 hco⟩
/-- what is known behind: the local i has the list of them -/
def KnL (c : Ct) (X : Cx) (pl : List (Addr × Obj)) (ls : List LamE) (i : Nat) (m : Nat → Addr) (S : Sr) (z : L2.St) (H : Hp) : Prop :=
  z.length = X.N.length ∧ ∃ (LL : Addr) (fs : List Addr), z[i]? = some (some (.ref LL)) ∧ H LL = some (.lst (fs.map V.ref)) ∧ (∀ j, j < S.n → LL ≠ m j) ∧ LamsAt X H pl ls fs
def rdSK (c : Ct) (E : XK) (Kn : (Nat → Addr) → Sr → L2.St → Hp → Prop) (x : MS) : TS := fun Z σ H => ∃ m S g, Sim c m S H ∧ RelG c m S.n H g σ ∧ Kn m S σ H ∧ PoS c E m S H Z (x g S)
def rdEK (c : Ct) (E : XK) (Kn : (Nat → Addr) → Sr → L2.St → Hp → Prop) (x : ME) : TE := fun σ H Q => ∃ m S g, Sim c m S H ∧ RelG c m S.n H g σ ∧ Kn m S σ H ∧ PoE c E m S H Q (x g S)
def mForget (i : Nat) (b : MS) : MS := fun g S => b (g.set i none) S
theorem RelG.forget {c : Ct} {m : Nat → Addr} {n : Nat} {H : Hp} {g : Gm} {σ : L2.St} (rg : RelG c m n H g σ) (i : Nat) (o : Option V) : RelG c m n H (g.set i none) (σ.set i o) := by
  refine ⟨by rw [List.length_set, List.length_set]; exact rg.1, fun j x e => ?_⟩
  by_cases h : i = j
  · subst h
    by_cases hl : i < g.length
    · rw [List.getElem?_set_self hl] at e
      cases e
    · rw [List.getElem?_eq_none (by rw [List.length_set]; omega)] at e
      cases e
  · rw [List.getElem?_set_ne h] at e
    obtain ⟨w, e1, r1⟩ := rg.2 j x e
    exact ⟨w, by rw [List.getElem?_set_ne h]; exact e1, r1⟩
theorem LamsAt.tr {H : Hp} {pl pn : List (Addr × Obj)} {xe : Value → Shared → Prop} : ∀ {ls : List LamE} {fs : List Addr}, LamsAt X H pl ls fs → LamsAt (X.tr pn xe) H pl ls fs
  | [], _, h => h
  | l :: r, _, ⟨f, t, e, h1, h2⟩ => ⟨f, t, e, h1, h2.tr⟩
theorem qss_lams {c : Ct} {E : XK} {cc P : Addr} {i : Nat} {y : Str} {py lpos pos : Pos} {ls : List LamE} {es : List Expr} {rest : List Stmt} {b : MS} (hes : es = ls.map LamE.e) (TB : LamX.TabB X.base X.mg cc P) (hcode : X.env.code = .ref cc) (hmT : (P, lamQ X) ∈ c.T) (hu : ∀ p ∈ c.T, p.1 = P → p.2 = lamQ X)
    (hN : X.N.Nodup) (hi : X.N[i]? = some y) (hy : X.env.scope.names.lookup y = some .local) (hl : ∀ l ∈ ls, LamX.LamS X.env.scope l.scope ∧ defaultsOf l.params X.env = ([], [])) (hsz : ls.length ≤ sizeLine) (hs : swapsWith (.List es lpos) (some (.Name y py)) pos.line X.env = pure false)
    (h2 : ∀ (pl pn : List (Addr × Obj)), (∀ p ∈ pl, p ∈ pn) → PSs (X.tr pn X.xe) rest (rdSK c E (KnL c (X.tr pn X.xe) pl ls i) b)) : PSs X (.Assign [.Name y py] (.List es lpos) pos :: rest) (rdS c E (mForget i b)) := by
  subst hes
  refine ⟨fun pz s z H Z I ⟨m, S, g, si, rg, q⟩ => ?_⟩
  refine wpAny_execs_cons (wpAny_Assign_Name (wpAny_List_spliced (lams_eval TB hcode hmT hu ls hl I si fun fs pl s1 H1 I1 n1 at1 => ?_)) hs)
  have lf := at1.length
  refine ⟨by rw [List.length_map, lf]; exact hsz, ?_⟩
  have fresh := I1.hok.fresh (Nat.le_refl s1.heap.objs.size)
  have I2 : Inv X (pz ++ pl) z (upd H1 s1.heap.objs.size (.lst (fs.map V.ref))) { s1 with heap := s1.heap.push { cls := .type "list", data := .seq (fs.map Value.ref).toArray } } :=
    I1.lnew (t' := s1.toks) (its := fs.map Value.ref) (by
      clear at1 lf
      induction fs with
      | nil => exact .nil
      | cons f fs ih => exact .cons rfl ih) (by rw [List.length_map, lf]; exact hsz)
  refine store_ok I2 hN hi (.inl hy) (v := .ref s1.heap.objs.size) rfl (fun s2 I3 => ?_) (.inr hy)
  have n2 : Nxt c m S H1 m S (upd H1 s1.heap.objs.size (.lst (fs.map V.ref))) := Nxt.fresh n1.sim fresh
  have n12 := n1.trans si n2
  have I4 := I3.toTry X.xe
  refine wpAny_mono ((h2 pl (X.pn ++ (pz ++ pl)) (fun p hp => List.mem_append_right _ (List.mem_append_right _ hp))).run [] s2 _ _ Z I4 ⟨m, S, g.set i none, n12.sim, (n12.relG rg).forget i _, ⟨I3.len, s1.heap.objs.size, fs, ?_, upd_same, fun j hj => (n1.sim.ne hj fresh), (at1.go n1.sim n2 fun _ h => h).tr⟩, PoS.go si n12 q⟩) (fun f s3 q3 => ?_) fun _ _ h => h
  · have hlen : i < z.length := by rw [I.len]; exact (List.getElem?_eq_some_iff.mp hi).1
    exact List.getElem?_set_self hlen
  · have back : ∀ {z' : L2.St} {H' : Hp}, Inv (X.tr (X.pn ++ (pz ++ pl)) X.xe) [] z' H' s3 → Inv X pz z' H' s3 := fun J => (J.ofTry I.ok).unpinned
    cases f with
    | next => obtain ⟨z', H', J, w⟩ := q3; exact ⟨z', H', back J, w⟩
    | brk => obtain ⟨z', H', J, w⟩ := q3; exact ⟨z', H', back J, w⟩
    | cont => obtain ⟨z', H', J, w⟩ := q3; exact ⟨z', H', back J, w⟩
    | ret u => obtain ⟨v, z', H', J, r, w⟩ := q3; exact ⟨v, z', H', back J, r, w⟩
/-! ### [.. for f in them if told(f) != ..] -/
theorem RelG.unwipe {c : Ct} {m : Nat → Addr} {n : Nat} {H : Hp} {g : Gm} {y z : L2.St} {vs : List Nat} (rg : RelG c m n H g y) (e : L2.wipe y vs = L2.wipe z vs) : RelG c m n H (wipeD g vs) z := by
  have r := rg.wipe vs
  rw [e] at r
  refine ⟨by rw [r.1, wipe_length], fun j d ej => ?_⟩
  obtain ⟨v, e1, r1⟩ := r.2 j d ej
  exact ⟨v, (wipe_some e1).1, r1⟩
/-- the call of told at the block's own name -/
def tToldF (c : Ct) (X : Cx) (pl : List (Addr × Obj)) (sub : Str → Str → Bool) (qs : List Str) (cl : Tcl) (prs : List (LamE × ME)) (i : Nat) (vs : List Nat) : TE := fun y H Q =>
  ∃ l me f m S g, (l, me) ∈ prs ∧ y[i]? = some (some (.ref f)) ∧ LamAt X H pl l f ∧ Sim c m S H ∧ RelG c m S.n H g y ∧ PoE c noX m S H Q (mTold sub qs cl me (wipeD g vs) S)
theorem pe_toldf {c : Ct} {sub : Str → Str → Bool} {qs : List Str} {cl : Tcl} {x fv : Str} {k i : Nat} {pl : List (Addr × Obj)} {prs : List (LamE × ME)} {vs : List Nat} {scope : Scope} {p p2 p3 : Pos} {pz : List (Addr × Obj)} {z : L2.St} {sB : Shared} {HB : Hp} {LB : Addr} {clB : List (Str × Addr)} {fB : List Addr}
    (T : Told X.prog X.w X.K X.mg X.base c x sub qs cl) (IB : Inv X pz z HB sB) (fpB : ∀ b ∈ fB, FpOk X pz HB b ∧ b < sB.heap.objs.size) (sub2 : ∀ q ∈ pl, q ∈ X.pn) (hg : Gl (X.blk sB HB scope (compEnvC scope clB LB X.env) fB) x) (hi : X.N[i]? = some fv) (hv : Vis (compEnvC scope clB LB X.env).scope fv)
    (hr : Room (k + 2) X.A) (hl : ∀ q ∈ prs, LamX.LamS X.env.scope q.1.scope ∧ (∀ (qn : Str) (cs : List (Str × Addr)) (pm cv ctv : Value), bindArgs (PySem.W.kla_fn "<lambda>" qn q.1.params q.1.body q.1.scope cs pm cv ctv) ⟨[], []⟩ = pure []) ∧
      ∀ (A : Around) (outer : List Env) (s : Shared) (H : Hp) (E : XK) (f c' : Addr), Room k (A.deeper (LamX.lamEnv X q.1.scope s.heap.objs.size f c')) → PE (LamX.lamCx X A outer s H E q.1.scope f c') q.1.body (rdE c E q.2))
    (hdb : (x == ("__debug__" : Str)) = false := by decide) (hd : (fv == ("__debug__" : Str)) = false := by decide) (hcd : (fv == ("__classdict__" : Str)) = false := by decide) :
    PE (X.blk sB HB scope (compEnvC scope clB LB X.env) fB) (.Call (.Name x p) [.Name fv p2] [] p3) (fun y H Q => L2.wipe y vs = L2.wipe z vs ∧ tToldF c X pl sub qs cl prs i vs y H Q) := by
  obtain ⟨a, g, pg, bg, sg, dV, kV, doc, pm, cdv, ct, oc, an, od, osl, Ng, h1, h2, h3, h4, h5, h6, h7, h8, h9, h10, h11⟩ := T.ex X (lamQ X) rfl rfl rfl rfl rfl
  refine ⟨fun pz2 s y H Q I ⟨ez, l, me, f, m, S, gg, hmem, hf, ⟨pm2, c2, ctv2, hpl, hfr, hco⟩, si, rg, q⟩ => ?_⟩
  obtain ⟨hL, hB, hE⟩ := hl _ hmem
  refine wpAny_Call_Name_kw (ld_glob I hg h1 ?_ hdb)
  have args := (pa_cons (X := X.blk sB HB scope (compEnvC scope clB LB X.env) fB) (pe_var (pos := p2) (i := i) hi hv hd hcd) pa_nil (by rfl)).run p3 pz2 s y H (fun vs H' => vs = [.ref f] ∧ H' = H) I ⟨.ref f, hf, rfl, rfl⟩
  refine PySem.W.callWith_K (h₀ := X.base) IB.ok.mod.kin h2 (thn args fun us s1 ⟨ws, H1, I1, rv, ew, eH⟩ => ⟨I1.kIn, ?_⟩) (by rfl) (by rfl)
  subst ew eH
  obtain ⟨u, eu, ru⟩ := rv.one
  obtain rfl : u = Value.ref f := ru
  subst eu
  have IO : Inv X pz z H1 s1 := IB.call' (ch := fB) I1.os I1.base I1.hok I1.bare fun b hb => ⟨(fpB b hb).1.2.2.2.1, (fpB b hb).1.2.1, (fpB b hb).1.2.2.2.2.1, (fpB b hb).1.2.2.2.2.2⟩
  obtain ⟨hof, hnf, _⟩ := IO.pin _ (List.mem_append_left _ (sub2 _ hpl))
  have rc : codeAny (model X.prog X.w) X.A (.call (.ref g) ⟨[.ref f], []⟩) (CR C8.CX0 X.stack X.prog X.w H1 s1 Q C8.E0) s1 := by
    refine LamX.run_ofS (N := Ng) (ps := [a]) (us := [.ref f]) (vs := [.ref f]) h3 h4 h6 hr IO.env0 (h5 s1 [.ref f] IO.kIn rfl) (.cons rfl .nil) rfl fun hr' => ?_
    have tl : TToldM X.K (cl.map fun p => (c.cls p.1, p.2)) (fun E H' Q' => rdE c E me z H' Q') H1 Q := by
      refine ⟨m, S, wipeD gg vs, si, rg.unwipe ez, ?_⟩
      unfold mTold at q
      cases e : me (wipeD gg vs) S with
      | ok d S' =>
        rw [e] at q
        exact q
      | bad => rw [e] at q; exact q.elim
      | exc r S' =>
        rw [e] at q
        intro m' H' n
        dsimp only at q
        split at q
        · rename_i hp
          split at q
          · rename_i w ew
            exact tmany_of (fun p' hp' => T.exm r hp p' hp') ew (q m' H' _ n mk_str)
          · exact q.elim
        · exact q.elim
    obtain ⟨t', ht', hq'⟩ := h9 f c2 s1 H1 Q (fun E H' Q' => rdE c E me z H' Q') (fun W pn xe E q1 q2 tk hW => LamX.pe_act (i := 0) IO hL hof hnf hfr (hB _ _ _ _ _) tk hW hr' (fun A outer s H hr2 => hE A outer s H E f c2 hr2) h7 h8 h10 h11) hco tl
    exact ⟨t', ht'.nox, hq'⟩
  refine wpAny_call (codeAny_mono rc fun r s2 hq => ?_)
  cases r with
  | error e => exact (show False from hq).elim
  | ok fl =>
    cases fl with
    | ret u => exact I1.after hq
    | next => exact False.elim hq
    | brk => exact False.elim hq
    | cont => exact False.elim hq
def lamTurns (sub : Str → Str → Bool) (qs : List Str) (cl : Tcl) (ans : Str) (g : Gm) : List ME → SM Unit
  | [] => fun S => .ok () S
  | me :: r => fun S => match mTold sub qs cl me g S with
    | .ok (.str w) S' => if w = ans then lamTurns sub qs cl ans g r S' else .bad
    | _ => .bad
def mLamComp (sub : Str → Str → Bool) (qs : List Str) (cl : Tcl) (ans : Str) (vs : List Nat) (mes : List ME) : ME := fun g S => SM.bind (lamTurns sub qs cl ans (wipeD g vs) mes) (fun _ S' => .ok (.adr S.n) S') (S.alloc (.lst []))
theorem ne_same {a : Str} {S : Sr} (ha : SeqAt.shaped (.str a) = true) : dNe (.str a) (.str a) S = .ok (D.bl false) S := by
  have e : PyData.eqv (.str a) (.str a) = true := by simp [PyData.eqv]
  show (if SeqAt.shaped (.str a) = true ∧ SeqAt.shaped (.str a) = true then R.ok (D.bl (!PyData.eqv (.str a) (.str a))) S else .bad) = .ok (D.bl false) S
  rw [e, if_pos ⟨ha, ha⟩]
  rfl
theorem PTs.imp {X : Cx} {e : List Expr} {t t' : TT} (h : PTs X e t) (i : ∀ σ H Q, t' σ H Q → t σ H Q) : PTs X e t' := ⟨fun pins s σ H Q I q => h.run pins s σ H Q I (i σ H Q q)⟩
theorem qe_lamcomp {c : Ct} {E : XK} {sub : Str → Str → Bool} {qs : List Str} {cl : Tcl} {x fv bad ans : Str} {k i ib j : Nat} {pl : List (Addr × Obj)} {prs : List (LamE × ME)} {elt : Expr} {scope : Scope} {pf pb p p2 p3 p4 p5 cpos : Pos} (hK : X.K = c.K)
    (T : Told X.prog X.w X.K X.mg X.base c x sub qs cl) (sub2 : ∀ q ∈ pl, q ∈ X.pn) (calm : X.calm = true) (nd : X.N.Nodup) (hib : X.N[ib]? = some bad) (hvb : Vis X.env.scope bad) (hi : X.N[i]? = some fv) (bok : BlkOk X.N X.env.scope scope [(fv, i)])
    (hg : ∀ (s : Shared) (H : Hp) (C : Addr) (cl : List (Str × Addr)) (fp : List Addr), Gl (X.blk s H scope (compEnvC scope cl C X.env) fp) x) (hv : ∀ (C : Addr) (cl : List (Str × Addr)), Vis (compEnvC scope cl C X.env).scope fv)
    (hpg : ∀ (s : Shared) (H : Hp) (C : Addr) (cl : List (Str × Addr)) (fp : List Addr), PG (X.blk s H scope (compEnvC scope cl C X.env) fp) (.Name fv pf) (gName i))
    (hr : Room (k + 2) X.A) (hl : ∀ q ∈ prs, LamX.LamS X.env.scope q.1.scope ∧ (∀ (qn : Str) (cs : List (Str × Addr)) (pm cv ctv : Value), bindArgs (PySem.W.kla_fn "<lambda>" qn q.1.params q.1.body q.1.scope cs pm cv ctv) ⟨[], []⟩ = pure []) ∧
      ∀ (A : Around) (outer : List Env) (s : Shared) (H : Hp) (E : XK) (f c' : Addr), Room k (A.deeper (LamX.lamEnv X q.1.scope s.heap.objs.size f c')) → PE (LamX.lamCx X A outer s H E q.1.scope f c') q.1.body (rdE c E q.2))
    (hdx : (x == ("__debug__" : Str)) = false := by decide) (hdb : (bad == ("__debug__" : Str)) = false := by decide) (hcb : (bad == ("__classdict__" : Str)) = false := by decide) (hdf : (fv == ("__debug__" : Str)) = false := by decide) (hcf : (fv == ("__classdict__" : Str)) = false := by decide)
    (hans : SeqAt.shaped (.str ans) = true := by rfl) (fold : ∀ v, foldedSetIterable (.Name bad pb) X.env v = pure v := by intro _; rfl) :
    PE X (.ListComp elt [⟨.Name fv pf, .Name bad pb, [.Compare (.Call (.Name x p) [.Name fv p2] [] p3) [.NotEq] [.Constant (.str ans) j p4] p5], 0⟩] scope cpos) (rdEK c E (KnL c X pl (prs.map Prod.fst) ib) (mLamComp sub qs cl ans [i] (prs.map Prod.snd))) := by
  refine PE.imp (lc_frame (own := [(fv, i)]) (wi := iList X.K (tVar ib)) (g := gName i) (tt := tTest (tOp (rNeD X.K) (tToldF c X pl sub qs cl prs i [i]) (tC (.str ans)))) (te := fun _ _ _ => False) calm nd (pi_list (pe_var hib hvb hdb hcb)) bok (fun pz z sB HB LB clB fB IB fpB => ⟨hpg sB HB LB clB fB, ?_, ⟨fun _ _ _ _ _ _ h => h.2.elim⟩⟩) fold) fun z H Q h => ?_
  · refine PTs.imp (pts_one (pt_cmpR (op_neD hr.units) (pe_toldf (vs := [i]) T IB fpB sub2 (hg sB HB LB clB fB) hi (hv LB clB) hr hl hdx hdf hcf) pe_str rfl)) fun y H Q h => ?_
    exact ⟨h.1, h.2⟩
  obtain ⟨m, S, g, s, rg, ⟨hlen, LL, fs, hz, hLL, hfar, hat⟩, q⟩ := h
  refine ⟨.ref LL, hz, LL, rfl, ⟨_, .inl (.inl hLL)⟩, fun DD hD => ?_⟩
  have lf := hat.length
  rw [List.length_map] at lf
  have al := Nxt.alloc (x := .lst []) (o := .lst []) s hD ⟨[], rfl, mk_nil⟩
  have q1 := PoE.go s al q
  have gm : ext m S.n DD S.n = DD := ext_same
  have keepLL : ∀ {m' : Nat → Addr} {S' : Sr} {H' : Hp}, Nxt c (ext m S.n DD) (S.alloc (.lst [])) (upd H DD (.lst [])) m' S' H' → SqL X.K H' LL (fs.map V.ref) := fun n => by
    have n' := al.trans s n
    exact .inl (.inl (n'.fr LL _ hfar hLL fun ps => by simp))
  refine ⟨fun a b HH => a + b = prs.length ∧ ∃ m' S', Nxt c (ext m S.n DD) (S.alloc (.lst [])) (upd H DD (.lst [])) m' S' HH ∧ PoE c E m' S' HH Q (SM.bind (lamTurns sub qs cl ans (wipeD g [i]) ((prs.drop a).map Prod.snd)) (fun _ S' => .ok (.adr S.n) S') S'), ⟨prs.length, Nat.zero_add _, _, _, Nxt.refl al.sim, q1⟩, ?_⟩
  rintro a b HH ⟨hab, m2, S2, n2, q2⟩
  have hLL2 := keepLL n2
  by_cases hlt : a < prs.length
  · obtain ⟨pr, epr⟩ : ∃ pr, prs[a]? = some pr := ⟨_, List.getElem?_eq_getElem hlt⟩
    obtain ⟨f, ef, hf⟩ := hat.get (i := a) (l := pr.1) (by rw [List.getElem?_map, epr]; rfl)
    have ef2 : (fs.map V.ref)[a]? = some (.ref f) := by rw [List.getElem?_map, ef]; rfl
    refine .inr ⟨⟨_, _, hLL2, ef2⟩, fun H' => a + 1 + (b - 1) = prs.length ∧ ∃ m' S', Nxt c (ext m S.n DD) (S.alloc (.lst [])) (upd H DD (.lst [])) m' S' H' ∧ PoE c E m' S' H' Q (SM.bind (lamTurns sub qs cl ans (wipeD g [i]) ((prs.drop (a + 1)).map Prod.snd)) (fun _ S' => .ok (.adr S.n) S') S'), fun H' w => ⟨b - 1, by omega, w⟩, fun v H' y => ?_⟩
    obtain ⟨e0, hy⟩ := y
    subst e0
    have ev : v = .ref f := by
      have := hy _ hLL2
      rw [ef2] at this
      exact (Option.some.inj this).symm
    subst ev
    refine ⟨by rw [wipe_set _ (by simp)]; exact wipe_idem z [i] [i] fun _ h => h, ?_⟩
    have ed : (prs.drop a).map Prod.snd = pr.2 :: (prs.drop (a + 1)).map Prod.snd := by
      rw [List.drop_eq_getElem_cons hlt, List.map_cons]
      have : prs[a] = pr := by
        rw [List.getElem?_eq_getElem hlt] at epr
        exact Option.some.inj epr
      rw [this]
    rw [ed] at q2
    have n02 := al.trans s n2
    have rg2 : RelG c m2 S2.n H' (wipeD g [i]) (L2.wipe z [i]) := (n02.relG rg).wipe [i]
    have ei : (L2.wipe z [i]).length = X.N.length := by rw [wipe_length]; exact hlen
    have hil : i < (L2.wipe z [i]).length := by rw [ei]; exact (List.getElem?_eq_some_iff.mp hi).1
    unfold SM.bind lamTurns at q2
    have ew : wipeD ((wipeD g [i]).set i none) [i] = wipeD g [i] := by
      show (((g.set i none).set i none)).set i none = g.set i none
      rw [List.set_set, List.set_set]
    refine ⟨pr.1, pr.2, f, m2, S2, (wipeD g [i]).set i none, List.mem_of_getElem? epr, List.getElem?_set_self hil, hf.go s n02 fun _ h => h, n2.sim, rg2.forget i _, ?_⟩
    rw [ew]
    cases et : mTold sub qs cl pr.2 (wipeD g [i]) S2 with
    | bad => rw [et] at q2; exact q2.elim
    | exc r S3 => rw [et] at q2; exact q2.elim
    | ok d S3 =>
      rw [et] at q2
      cases d with
      | str w =>
        dsimp only at q2
        by_cases hw : w = ans
        · rw [if_pos hw] at q2
          subst hw
          intro m3 H3 v n3 r3
          rw [rd_str r3]
          have z3 : rNeD c.K (.str w) (.str w) H3 fun v4 H4 => ∃ k, v4 = .bl k ∧ (if k = true then False else (a + 1 + (b - 1) = prs.length ∧ ∃ m' S', Nxt c (ext m S.n DD) (S.alloc (.lst [])) (upd H DD (.lst [])) m' S' H4 ∧ PoE c E m' S' H4 Q (SM.bind (lamTurns sub qs cl w (wipeD g [i]) ((prs.drop (a + 1)).map Prod.snd)) (fun _ S' => .ok (.adr S.n) S') S'))) := by
            refine snd_ne noX m3 S3 H3 _ (.str w) (.str w) (.str w) (.str w) n3.sim mk_str mk_str ?_
            rw [ne_same hans]
            intro m4 H4 v4 n4 r4
            refine ⟨false, rd_bl r4, ?_⟩
            rw [if_neg Bool.false_ne_true]
            have n24 := n2.trans al.sim (n3.trans n2.sim n4)
            exact ⟨by omega, m4, S3, n24, PoE.go n2.sim (n3.trans n2.sim n4) q2⟩
          rw [← hK] at z3
          exact z3
        · rw [if_neg hw] at q2
          exact q2.elim
      | _ => exact q2.elim
  · have e : prs.drop a = [] := List.drop_eq_nil_of_le (Nat.le_of_not_lt hlt)
    rw [e] at q2
    refine .inl ⟨⟨_, hLL2, by rw [List.length_map, lf]; omega⟩, ?_⟩
    have hm2 : m2 S.n = DD := by rw [n2.mu S.n (Nat.lt_succ_self _), gm]
    have hlt2 : S.n < S2.n := Nat.lt_of_lt_of_le (Nat.lt_succ_self _) n2.le
    have z := q2 m2 HH _ (Nxt.refl n2.sim) (mk_adr hlt2)
    rw [hm2] at z
    exact z
/-- the lambdas' bodies, one by one -/
inductive HL (X : Cx) (c : Ct) (k : Nat) : List LamE → List ME → Prop
  | nil : HL X c k [] []
  | cons {params : Arguments} {body : Expr} {scope : Scope} {pos : Pos} {me : ME} {ls : List LamE} {mes : List ME} (h1 : LamX.LamS X.env.scope scope) (h2 : ∀ (qn : Str) (cs : List (Str × Addr)) (pm cv ctv : Value), bindArgs (PySem.W.kla_fn "<lambda>" qn params body scope cs pm cv ctv) ⟨[], []⟩ = pure [])
      (h3 : ∀ (A : Around) (outer : List Env) (s : Shared) (H : Hp) (E : XK) (f c' : Addr), Room k (A.deeper (LamX.lamEnv X scope s.heap.objs.size f c')) → PE (LamX.lamCx X A outer s H E scope f c') body (rdE c E me)) (t : HL X c k ls mes) : HL X c k (⟨params, body, scope, pos⟩ :: ls) (me :: mes)
theorem HL.len {c : Ct} {k : Nat} {ls : List LamE} {mes : List ME} (h : HL X c k ls mes) : ls.length = mes.length := by
  induction h with
  | nil => rfl
  | cons _ _ _ _ ih => exact congrArg (· + 1) ih
theorem HL.all {c : Ct} {k : Nat} {ls : List LamE} {mes : List ME} (h : HL X c k ls mes) : ∀ q ∈ ls.zip mes, LamX.LamS X.env.scope q.1.scope ∧ (∀ (qn : Str) (cs : List (Str × Addr)) (pm cv ctv : Value), bindArgs (PySem.W.kla_fn "<lambda>" qn q.1.params q.1.body q.1.scope cs pm cv ctv) ⟨[], []⟩ = pure []) ∧
      ∀ (A : Around) (outer : List Env) (s : Shared) (H : Hp) (E : XK) (f c' : Addr), Room k (A.deeper (LamX.lamEnv X q.1.scope s.heap.objs.size f c')) → PE (LamX.lamCx X A outer s H E q.1.scope f c') q.1.body (rdE c E q.2) := by
  induction h with
  | nil => intro q hq; cases hq
  | cons h1 h2 h3 _ ih =>
    intro q hq
    rcases List.mem_cons.mp hq with e | e
    · subst e
      exact ⟨h1, h2, h3⟩
    · exact ih q e
theorem qe_lamcomp2 {c : Ct} {E : XK} {sub : Str → Str → Bool} {qs : List Str} {cl : Tcl} {x fv bad ans : Str} {k i ib j : Nat} {pl : List (Addr × Obj)} {ls : List LamE} {mes : List ME} {elt : Expr} {scope : Scope} {pf pb p p2 p3 p4 p5 cpos : Pos} (hK : X.K = c.K)
    (T : Told X.prog X.w X.K X.mg X.base c x sub qs cl) (sub2 : ∀ q ∈ pl, q ∈ X.pn) (calm : X.calm = true) (nd : X.N.Nodup) (hib : X.N[ib]? = some bad) (hvb : Vis X.env.scope bad) (hi : X.N[i]? = some fv) (bok : BlkOk X.N X.env.scope scope [(fv, i)])
    (hg : ∀ (s : Shared) (H : Hp) (C : Addr) (cl : List (Str × Addr)) (fp : List Addr), Gl (X.blk s H scope (compEnvC scope cl C X.env) fp) x) (hv : ∀ (C : Addr) (cl : List (Str × Addr)), Vis (compEnvC scope cl C X.env).scope fv)
    (hpg : ∀ (s : Shared) (H : Hp) (C : Addr) (cl : List (Str × Addr)) (fp : List Addr), PG (X.blk s H scope (compEnvC scope cl C X.env) fp) (.Name fv pf) (gName i))
    (hr : Room (k + 2) X.A) (hans : SeqAt.shaped (.str ans) = true) (hl : HL X c k ls mes)
    (hdx : (x == ("__debug__" : Str)) = false := by decide) (hdb : (bad == ("__debug__" : Str)) = false := by decide) (hcb : (bad == ("__classdict__" : Str)) = false := by decide) (hdf : (fv == ("__debug__" : Str)) = false := by decide) (hcf : (fv == ("__classdict__" : Str)) = false := by decide)
    (fold : ∀ v, foldedSetIterable (.Name bad pb) X.env v = pure v := by intro _; rfl) :
    PE X (.ListComp elt [⟨.Name fv pf, .Name bad pb, [.Compare (.Call (.Name x p) [.Name fv p2] [] p3) [.NotEq] [.Constant (.str ans) j p4] p5], 0⟩] scope cpos) (rdEK c E (KnL c X pl ls ib) (mLamComp sub qs cl ans [i] mes)) := by
  have z := qe_lamcomp (E := E) (ans := ans) (elt := elt) (pf := pf) (pb := pb) (p := p) (p2 := p2) (p3 := p3) (p4 := p4) (p5 := p5) (cpos := cpos) (j := j) (prs := ls.zip mes) hK T sub2 calm nd hib hvb hi bok hg hv hpg hr hl.all hdx hdb hcb hdf hcf hans fold
  have e1 : (ls.zip mes).map Prod.fst = ls := List.map_fst_zip (Nat.le_of_eq hl.len)
  have e2 : (ls.zip mes).map Prod.snd = mes := List.map_snd_zip (Nat.le_of_eq hl.len.symm)
  rw [e1, e2] at z
  exact z
/-! ### what is evaluated first may lean on what is known -/
theorem poSeq {c : Ct} {E : XK} {m : Nat → Addr} {S : Sr} {H : Hp} {x : SM D} {k : D → SM D} {Q QQ : VK} (s : Sim c m S H) (h : PoE c E m S H Q (SM.bind x k S))
    (hk : ∀ m1 S1 H1 d v, Nxt c m S H m1 S1 H1 → RelD c m1 S1.n H1 d v → PoE c E m1 S1 H1 Q (k d S1) → QQ v H1) : PoE c E m S H QQ (x S) := by
  unfold SM.bind at h
  cases e : x S with
  | ok d S1 =>
    rw [e] at h
    exact fun m1 H1 v a r => hk m1 S1 H1 d v a r (PoE.go s a h)
  | exc q S1 => rw [e] at h; exact h
  | bad => rw [e] at h; exact h
theorem poSeqS {c : Ct} {E : XK} {m : Nat → Addr} {S : Sr} {H : Hp} {r : R D} {k : D → Sr → RS} {Z : Ends} {QQ : VK} (s : Sim c m S H) (h : PoS c E m S H Z (toRS r k))
    (hk : ∀ m1 S1 H1 d v, Nxt c m S H m1 S1 H1 → RelD c m1 S1.n H1 d v → PoS c E m1 S1 H1 Z (k d S1) → QQ v H1) : PoE c E m S H QQ r := by
  cases r with
  | ok d S1 => exact fun m1 H1 v a r => hk m1 S1 H1 d v a r (PoS.go s a h)
  | exc q S1 => exact h
  | bad => exact h
section
variable {c : Ct} {E : XK} {Kn : (Nat → Addr) → Sr → L2.St → Hp → Prop}
theorem qs_retK {e : Expr} {ma : ME} {pos : Pos} (h : PE X e (rdEK c E Kn ma)) : PS X (.Return (some e) pos) (rdSK c E Kn (mRet ma)) :=
  PS.imp (ps_ret h) fun Z σ H ⟨m, S, g, s, rg, kn, q⟩ => ⟨m, S, g, s, rg, kn, poSeqS s q fun m1 S1 H1 d v a r q1 => q1 m1 H1 v (Nxt.refl a.sim) r⟩
theorem qe_andK {a b : Expr} {rest : List Expr} {ma mb : ME} {pos : Pos} (ha : PE X a (rdEK c E Kn ma)) (hb : PE X (.BoolOp .And (b :: rest) pos) (rdE c E mb)) : PE X (.BoolOp .And (a :: b :: rest) pos) (rdEK c E Kn (mAndV ma mb)) :=
  PE.imp (pe_and ha hb) fun σ H Q ⟨m, S, g, s, rg, kn, q⟩ => ⟨m, S, g, s, rg, kn, poSeq s q fun m1 S1 H1 d v a r q1 => by
    cases d with
    | bl k =>
      refine ⟨k, rd_bl r, ?_⟩
      cases k with
      | true => exact ⟨m1, S1, g, a.sim, a.relG rg, q1⟩
      | false => exact q1 m1 H1 _ (Nxt.refl a.sim) mk_bl
    | _ => exact (show False from q1).elim⟩
theorem qe_cmpK {op : CmpOp} {r : R2} {f : D → D → SM D} {a b : Expr} {ma mb : ME} {pos : Pos} (ho : OpR X (compareOp op) r) (hs : Snd2 c r f) (ha : PE X a (rdEK c E Kn ma)) (hb : PE X b (rdE c E mb)) (hm : behindInMarks op b = false) : PE X (.Compare a [op] [b] pos) (rdEK c E Kn (mB f ma mb)) :=
  PE.imp (pe_cmpR ho ha hb hm) fun σ H Q ⟨m, S, g, s, rg, kn, q⟩ => ⟨m, S, g, s, rg, kn, poSeq s q fun m1 S1 H1 x v a rx q1 => seqE a.sim (a.relG rg) q1 fun m2 S2 H2 y w b ry q2 => hs E m2 S2 H2 Q x y v w b.sim (b.relD rx) ry q2⟩
theorem qt_cmpK {op : CmpOp} {r : R2} {f : D → D → SM D} {a b : Expr} {ma mb : ME} {pos : Pos} (ho : OpR X (compareOp op) r) (hs : Snd2 c r f) (ha : PE X a (rdEK c E Kn ma)) (hb : PE X b (rdE c E mb)) (hm : behindInMarks op b = false) :
    PT X (.Compare a [op] [b] pos) (fun σ H Q => ∃ m S g, Sim c m S H ∧ RelG c m S.n H g σ ∧ Kn m S σ H ∧ PoT c E m S H Q (mTB (mB f ma mb) g S)) :=
  PT.imp (pt_cmpR ho ha hb hm) fun σ H Q ⟨m, S, g, s, rg, kn, q⟩ => by
    refine ⟨m, S, g, s, rg, kn, poSeq (Q := fun v H => ∃ k, v = .bl k ∧ Q k H) (x := ma g) (k := fun x => SM.bind (mb g) fun y => f x y) s ?_ fun m1 S1 H1 x v a rx q1 => seqE a.sim (a.relG rg) q1 fun m2 S2 H2 y w b ry q2 => hs E m2 S2 H2 _ x y v w b.sim (b.relD rx) ry q2⟩
    unfold mTB SM.bind at q
    show PoE c E m S H _ (mB f ma mb g S)
    cases e : mB f ma mb g S with
    | ok d S1 =>
      rw [e] at q
      intro m1 H1 v a r
      cases d <;> first | exact (show False from q).elim | skip
      exact ⟨_, rd_bl r, q m1 H1 a⟩
    | exc p S1 => rw [e] at q; exact q
    | bad => rw [e] at q; exact q.elim
theorem qs_ifK {t : Expr} {a b : List Stmt} {mt : MT} {ma mb : MS} {pos : Pos} (ht : PT X t (fun σ H Q => ∃ m S g, Sim c m S H ∧ RelG c m S.n H g σ ∧ Kn m S σ H ∧ PoT c E m S H Q (mt g S))) (ha : PSs X a (rdS c E ma)) (hb : PSs X b (rdS c E mb)) : PS X (.If t a b pos) (rdSK c E Kn (mIfS mt ma mb)) :=
  PS.imp (ps_if ht ha hb) fun Z σ H ⟨m, S, g, s, rg, kn, q⟩ => by
    refine ⟨m, S, g, s, rg, kn, ?_⟩
    unfold mIfS at q
    cases e : mt g S with
    | ok k S1 =>
      rw [e] at q
      intro m1 H1 a
      have q1 := PoS.go s a q
      cases k with
      | true => exact ⟨m1, S1, g, a.sim, a.relG rg, q1⟩
      | false => exact ⟨m1, S1, g, a.sim, a.relG rg, q1⟩
    | exc p S1 => rw [e] at q; exact q
    | bad => rw [e] at q; exact q.elim
theorem qss_consK {st : Stmt} {rest : List Stmt} {a b : MS} (h1 : PS X st (rdSK c E Kn a)) (h2 : PSs X rest (rdS c E b)) : PSs X (st :: rest) (rdSK c E Kn (mSeq a b)) :=
  PSs.imp (pss_cons h1 h2) fun Z σ H ⟨m, S, g, s, rg, kn, q⟩ => ⟨m, S, g, s, rg, kn, PoS.seq s q⟩
theorem qss_oneK {st : Stmt} {a : MS} (h1 : PS X st (rdSK c E Kn a)) : PSs X [st] (rdSK c E Kn a) := pss_one h1
end
theorem fa_nil {α : Type} {p : α → Prop} : ∀ x ∈ ([] : List α), p x := fun x h => nomatch h
theorem fa_cons {α : Type} {p : α → Prop} {a : α} {l : List α} (h : p a) (t : ∀ x ∈ l, p x) : ∀ x ∈ a :: l, p x := fun x hx => (List.mem_cons.mp hx).elim (fun e => e ▸ h) (t x)
section
variable {P : Program} {w : World} {K : PySem.W.Frag} {mg : Str → Option Value} {base : Heap} {N : List Str} {qual : Str} {scope : Scope} {f : Addr} {cdv : Value} {A : Around} {outer : List Env} {s : Shared} {H : Hp} {E : XK} {pn : List (Addr × Obj)}
abbrev cxTr (P : Program) (w : World) (K : PySem.W.Frag) (mg : Str → Option Value) (base : Heap) (N : List Str) (qual : Str) (scope : Scope) (f : Addr) (cdv : Value) (A : Around) (outer : List Env) (s : Shared) (H : Hp) (E : XK) (pn : List (Addr × Obj)) : Cx := (cxOf (L2.CX P w) P w K mg base N qual scope f cdv A outer s H E).tr pn (cxOf (L2.CX P w) P w K mg base N qual scope f cdv A outer s H E).xe
theorem takesTr : Takes (cxTr P w K mg base N qual scope f cdv A outer s H E pn) (fun cls d _ H => E cls d H) := takes_of rfl rfl rfl rfl
theorem passesTr : Passes (L2.CX P w) (cxTr P w K mg base N qual scope f cdv A outer s H E pn) E := passesT takesTr
theorem pOwnTr : PassesOwn (model P w) (cxTr P w K mg base N qual scope f cdv A outer s H E pn).A (cxTr P w K mg base N qual scope f cdv A outer s H E pn).env (cxTr P w K mg base N qual scope f cdv A outer s H E pn).xe := passes_of rfl
end
end
end Y

set_option Elab.async false
set_option linter.all false
set_option maxRecDepth 100000
set_option maxHeartbeats 1000000
/-! Y15: how the mirror is reckoned out. -/
namespace Y
open PySem PySem.Spec PyProof.Rows L2
theorem sb {a b : Str} : (a == b) = decide (a = b) := by by_cases h : a = b <;> simp [h]
theorem put_f {S : Sr} {i j : Nat} {x : MO} : (S.put i x).f j = if j = i then some x else S.f j := rfl
theorem put_n {S : Sr} {i : Nat} {x : MO} : (S.put i x).n = S.n := rfl
theorem alloc_f {S : Sr} {j : Nat} {x : MO} : (S.alloc x).f j = if j = S.n then some x else S.f j := rfl
theorem alloc_n {S : Sr} {x : MO} : (S.alloc x).n = S.n + 1 := rfl
theorem put_put {S : Sr} {i : Nat} {x y : MO} : (S.put i x).put i y = S.put i y := by
  unfold Sr.put
  congr 1
  funext j
  by_cases h : j = i
  · rw [if_pos h, if_pos h]
  · simp only [if_neg h]
theorem alloc_put {S : Sr} {x y : MO} : (S.alloc x).put S.n y = S.alloc y := by
  unfold Sr.put Sr.alloc
  congr 1
  funext j
  by_cases h : j = S.n
  · rw [if_pos h, if_pos h]
  · simp only [if_neg h]
theorem ixN_nat {n : Nat} {i : Int} (h : 0 ≤ i) (h2 : i < n) : ixN n i = some i.toNat := by
  unfold ixN
  rw [if_pos h, if_pos h2]
theorem atI_nat {l : List D} {i : Int} {d : D} (h : 0 ≤ i) (e : l[i.toNat]? = some d) : atI l i = some d := by
  have hl := (List.getElem?_eq_some_iff.mp e).1
  unfold atI
  rw [ixN_nat h (by omega)]
  exact e
/-! ### equal -/
theorem ev_eqI {a b : Int} {S : Sr} : dEq (.int a) (.int b) S = .ok (.bl (decide (a = b))) S := by
  have e : PyData.eqv (.int a) (.int b) = decide (a = b) := by
    rw [PyData.eqv.eq_def]
    by_cases h : a = b <;> simp [h]
  show (if SeqAt.shaped (.int a) = true ∧ SeqAt.shaped (.int b) = true then R.ok (D.bl (PyData.eqv (.int a) (.int b))) S else .bad) = .ok (D.bl (decide (a = b))) S
  rw [if_pos ⟨rfl, rfl⟩, e]
theorem ev_neI {a b : Int} {S : Sr} : dNe (.int a) (.int b) S = .ok (.bl (!decide (a = b))) S := by
  have e : PyData.eqv (.int a) (.int b) = decide (a = b) := by
    rw [PyData.eqv.eq_def]
    by_cases h : a = b <;> simp [h]
  show (if SeqAt.shaped (.int a) = true ∧ SeqAt.shaped (.int b) = true then R.ok (D.bl (!PyData.eqv (.int a) (.int b))) S else .bad) = .ok (D.bl (!decide (a = b))) S
  rw [if_pos ⟨rfl, rfl⟩, e]
theorem eqv_str {a b : Str} : PyData.eqv (.str a) (.str b) = decide (a = b) := by
  rw [PyData.eqv.eq_def]
  by_cases h : a = b <;> simp [h]
theorem shaped_str {a : Str} (h : PyData.strOk a = true) : SeqAt.shaped (.str a) = true := by
  simp [SeqAt.shaped, PyData.canLay0, PyData.depth, h]
theorem ev_eqS {a b : Str} {S : Sr} (ha : PyData.strOk a = true) (hb : PyData.strOk b = true) : dEq (.str a) (.str b) S = .ok (.bl (decide (a = b))) S := by
  show (if SeqAt.shaped (.str a) = true ∧ SeqAt.shaped (.str b) = true then R.ok (D.bl (PyData.eqv (.str a) (.str b))) S else .bad) = .ok (D.bl (decide (a = b))) S
  rw [if_pos ⟨shaped_str ha, shaped_str hb⟩, eqv_str]
theorem ev_neS {a b : Str} {S : Sr} (ha : PyData.strOk a = true) (hb : PyData.strOk b = true) : dNe (.str a) (.str b) S = .ok (.bl (!decide (a = b))) S := by
  show (if SeqAt.shaped (.str a) = true ∧ SeqAt.shaped (.str b) = true then R.ok (D.bl (!PyData.eqv (.str a) (.str b))) S else .bad) = .ok (D.bl (!decide (a = b))) S
  rw [if_pos ⟨shaped_str ha, shaped_str hb⟩, eqv_str]
/-- what is plain: no dict within, no deeper than so -/
theorem ev_eqP {x y : D} {a b : PyData} {S : Sr} (ha : toPy S 9 x = some a) (hb : toPy S 9 y = some b) (h1 : SeqAt.shaped a = true) (h2 : SeqAt.shaped b = true) : dEq x y S = .ok (.bl (PyData.eqv a b)) S := by
  show (match toPy S 9 x, toPy S 9 y with
    | some a, some b => if SeqAt.shaped a = true ∧ SeqAt.shaped b = true then R.ok (D.bl (if false = true then !PyData.eqv a b else PyData.eqv a b)) S else .bad
    | _, _ => .bad) = _
  rw [ha, hb]
  show (if SeqAt.shaped a = true ∧ SeqAt.shaped b = true then R.ok (D.bl (if false = true then !PyData.eqv a b else PyData.eqv a b)) S else .bad) = _
  rw [if_pos ⟨h1, h2⟩]
  rfl
theorem ev_neP {x y : D} {a b : PyData} {S : Sr} (ha : toPy S 9 x = some a) (hb : toPy S 9 y = some b) (h1 : SeqAt.shaped a = true) (h2 : SeqAt.shaped b = true) : dNe x y S = .ok (.bl (!PyData.eqv a b)) S := by
  show (match toPy S 9 x, toPy S 9 y with
    | some a, some b => if SeqAt.shaped a = true ∧ SeqAt.shaped b = true then R.ok (D.bl (if true = true then !PyData.eqv a b else PyData.eqv a b)) S else .bad
    | _, _ => .bad) = _
  rw [ha, hb]
  show (if SeqAt.shaped a = true ∧ SeqAt.shaped b = true then R.ok (D.bl (if true = true then !PyData.eqv a b else PyData.eqv a b)) S else .bad) = _
  rw [if_pos ⟨h1, h2⟩]
  rfl
/-- it answers, and then so -/
def Tells (r : R D) (P : D → Sr → Prop) : Prop := match r with
  | .ok d S => P d S
  | _ => False
theorem Tells.get {r : R D} {P : D → Sr → Prop} (h : Tells r P) : ∃ d S, r = .ok d S ∧ P d S := by
  cases r with
  | ok d S => exact ⟨d, S, rfl, h⟩
  | exc q S => exact h.elim
  | bad => exact h.elim
theorem at_int {l : List Int} {n : Int} (h : 0 ≤ n) (h2 : n < l.length) : atI (l.map D.int) n = some (.int (l.getD n.toNat 0)) := by
  refine atI_nat h ?_
  have hl : n.toNat < l.length := by omega
  rw [List.getElem?_map, List.getElem?_eq_getElem hl, List.getD_eq_getElem?_getD, List.getElem?_eq_getElem hl]
  rfl
theorem ixN_map {α : Type} {f : Int → α} {l : List Int} {n : Int} (h : 0 ≤ n) (h2 : n < l.length) : ixN (l.map f).length n = some n.toNat := ixN_nat h (by rw [List.length_map]; exact h2)
theorem ixN_len {l : List Int} {n : Int} (h : 0 ≤ n) (h2 : n < l.length) : ixN l.length n = some n.toNat := ixN_nat h h2
theorem set_int {l : List Int} {k : Nat} {v : Int} : (l.map D.int).set k (.int v) = (l.set k v).map D.int := by rw [List.map_set]
/-! ### loops -/
/-- so far a turn: on to the next, or out -/
def tnM (I : Gm → Sr → Prop) (P : RS → Prop) (r : RS) : Prop := match r with
  | .nx g S => I g S
  | .ct g S => I g S
  | .bk g S => P (.nx g S)
  | r => P r
structure Tn (I : Gm → Sr → Prop) (P : RS → Prop) (r : RS) : Prop where
  out : tnM I P r
section
variable {I : Gm → Sr → Prop} {P : RS → Prop} {g : Gm} {S : Sr}
theorem tn_nx : Tn I P (.nx g S) ↔ I g S := ⟨fun h => h.out, fun h => ⟨h⟩⟩
theorem tn_ct : Tn I P (.ct g S) ↔ I g S := ⟨fun h => h.out, fun h => ⟨h⟩⟩
theorem tn_bk : Tn I P (.bk g S) ↔ P (.nx g S) := ⟨fun h => h.out, fun h => ⟨h⟩⟩
theorem tn_rt {d : D} : Tn I P (.rt d S) ↔ P (.rt d S) := ⟨fun h => h.out, fun h => ⟨h⟩⟩
end
theorem for_loop {sr : Src} {step : D → MS} {n : Nat} (I : Nat → Gm → Sr → Prop) (P : RS → Prop)
    (hs : ∀ i g S, i < n → I i g S → ∃ d, sr.nxt i S = some (some d) ∧ Tn (I (i + 1)) P (step d g S))
    (he : ∀ g S, I n g S → sr.nxt n S = some none ∧ P (.nx g S)) : ∀ (r i : Nat) (g : Gm) (S : Sr), i + r = n → I i g S → P (forG sr step r i g S)
  | 0, i, g, S, h, hi => by
    have e : i = n := by omega
    subst e
    obtain ⟨h1, h2⟩ := he g S hi
    unfold forG
    rw [h1]
    exact h2
  | r + 1, i, g, S, h, hi => by
    obtain ⟨d, h1, ⟨h2⟩⟩ := hs i g S (by omega) hi
    unfold forG
    rw [h1]
    dsimp only
    cases e : step d g S with
    | nx g' S' => rw [e] at h2; exact for_loop I P hs he r (i + 1) g' S' (by omega) h2
    | ct g' S' => rw [e] at h2; exact for_loop I P hs he r (i + 1) g' S' (by omega) h2
    | bk g' S' => rw [e] at h2; exact h2
    | rt v S' => rw [e] at h2; exact h2
    | ex q S' => rw [e] at h2; exact h2
    | bad => rw [e] at h2; exact h2
theorem lc_loop {sr : Src} {t : Tg} {mt : MT} {me : ME} {g0 : Gm} {D0 n : Nat} (I : Nat → List D → Sr → Prop)
    (hs : ∀ i acc S, i < n → I i acc S → S.f D0 = some (.lst acc) → ∃ d g, sr.nxt i S = some (some d) ∧ t.put d g0 = some g ∧ (mt g S = .ok false S ∧ I (i + 1) acc S ∨ (mt g S = .ok true S ∧ ∃ y S', me g S = .ok y S' ∧ S'.f D0 = some (.lst acc) ∧ acc.length < sizeLine ∧ I (i + 1) (acc ++ [y]) (S'.put D0 (.lst (acc ++ [y]))))))
    (he : ∀ acc S, I n acc S → sr.nxt n S = some none) : ∀ (r i : Nat) (acc : List D) (S : Sr), i + r = n → I i acc S → S.f D0 = some (.lst acc) → ∃ acc' S', lcG sr t mt me g0 D0 r i S = .ok () S' ∧ I n acc' S' ∧ S'.f D0 = some (.lst acc')
  | 0, i, acc, S, h, hi, hd => by
    have e : i = n := by omega
    subst e
    refine ⟨acc, S, ?_, hi, hd⟩
    unfold lcG
    rw [he acc S hi]
  | r + 1, i, acc, S, h, hi, hd => by
    obtain ⟨d, g, h1, h2, h3⟩ := hs i acc S (by omega) hi hd
    unfold lcG
    rw [h1]
    dsimp only
    rw [h2]
    dsimp only
    rcases h3 with ⟨h3, h4⟩ | ⟨h3, y, S', h4, h5, h6, h7⟩
    · rw [h3]
      exact lc_loop I hs he r (i + 1) acc S (by omega) h4 hd
    · rw [h3]
      dsimp only
      rw [h4]
      dsimp only
      rw [h5]
      dsimp only
      rw [if_pos h6]
      exact lc_loop I hs he r (i + 1) _ _ (by omega) h7 (if_pos rfl)
theorem items_adr {S : Sr} {i : Nat} {l : List D} (h : S.f i = some (.lst l)) : itemsD S (.adr i) = some l := by
  show (match S.f i with
    | some (.lst l) => some l
    | _ => none) = some l
  rw [h]
/-! ### lists of numbers compared -/
theorem mapO_ints {f : D → Option PyData} (h : ∀ i : Int, f (.int i) = some (.int i)) : ∀ l : List Int, mapO f (l.map D.int) = some (l.map PyData.int)
  | [] => rfl
  | i :: l => by
    have ih := mapO_ints h l
    rw [List.map_cons, mapO, h, ih]
    rfl
theorem py_int {S : Sr} {k : Nat} {i : Int} : toPy S k (.int i) = some (.int i) := by cases k <;> rfl
theorem py_str {S : Sr} {k : Nat} {i : Str} : toPy S k (.str i) = some (.str i) := by cases k <;> rfl
theorem py_bl {S : Sr} {k : Nat} {i : Bool} : toPy S k (.bl i) = some (.bool i) := by cases k <;> rfl
theorem py_ints {S : Sr} {k i : Nat} {l : List Int} (h : S.f i = some (.lst (l.map D.int))) : toPy S (k + 1) (.adr i) = some (.list (l.map PyData.int)) := by
  show (match S.f i with
    | some (.lst l) => (mapO (toPy S k) l).map PyData.list
    | _ => none) = _
  rw [h]
  show (mapO (toPy S k) (l.map D.int)).map PyData.list = _
  rw [mapO_ints fun i => py_int]
  rfl
theorem py_tints {S : Sr} {k : Nat} {l : List Int} : toPy S (k + 1) (.tup (l.map D.int)) = some (.tuple (l.map PyData.int)) := by
  show (mapO (toPy S k) (l.map D.int)).map PyData.tuple = _
  rw [mapO_ints fun i => py_int]
  rfl
theorem lay_ints : ∀ l : List Int, PyData.canLayAll0 (l.map PyData.int) = true ∧ PyData.depthAll (l.map PyData.int) = 0
  | [] => ⟨rfl, rfl⟩
  | i :: l => by
    obtain ⟨h1, h2⟩ := lay_ints l
    refine ⟨?_, ?_⟩
    · show (true && PyData.canLayAll0 (l.map PyData.int)) = true
      rw [h1]
      rfl
    · show max 0 (PyData.depthAll (l.map PyData.int)) = 0
      rw [h2]
      rfl
theorem shaped_list {l : List Int} : SeqAt.shaped (.list (l.map PyData.int)) = true := by
  obtain ⟨h1, h2⟩ := lay_ints l
  unfold SeqAt.shaped
  have e1 : PyData.canLay0 (.list (l.map PyData.int)) = true := h1
  have e2 : PyData.depth (.list (l.map PyData.int)) = 1 := by
    show PyData.depthAll (l.map PyData.int) + 1 = 1
    rw [h2]
  rw [e1, e2]
  rfl
theorem ne_empty {S : Sr} {i j : Nat} {l : List Int} (h : S.f i = some (.lst (l.map D.int))) (h2 : S.f j = some (.lst [])) : dNe (.adr i) (.adr j) S = .ok (.bl (!l.isEmpty)) S := by
  rw [ev_neP (py_ints h) (py_ints (l := []) h2) shaped_list shaped_list]
  cases l with
  | nil => rfl
  | cons a l =>
    have e : PyData.eqv (.list ((a :: l).map PyData.int)) (.list (([] : List Int).map PyData.int)) = false := by
      rw [PyData.eqv.eq_def]
      rfl
    rw [e]
    rfl
theorem eq_empty {S : Sr} {i j : Nat} {l : List Int} (h : S.f i = some (.lst (l.map D.int))) (h2 : S.f j = some (.lst [])) : dEq (.adr i) (.adr j) S = .ok (.bl l.isEmpty) S := by
  rw [ev_eqP (py_ints h) (py_ints (l := []) h2) shaped_list shaped_list]
  cases l with
  | nil => rfl
  | cons a l =>
    have e : PyData.eqv (.list ((a :: l).map PyData.int)) (.list (([] : List Int).map PyData.int)) = false := by
      rw [PyData.eqv.eq_def]
      rfl
    rw [e]
    rfl
theorem look_nil {κ : Type} [DecidableEq κ] {k : κ} : lookD [] k = none := rfl
theorem look_cons {κ : Type} [DecidableEq κ] {k k1 : κ} {v : D} {l : List (κ × D)} : lookD ((k1, v) :: l) k = if k1 = k then some v else lookD l k := by
  unfold lookD
  by_cases h : k1 = k
  · rw [if_pos h, List.find?_cons_of_pos (by simp [h])]
    rfl
  · rw [if_neg h, List.find?_cons_of_neg (by simp [h])]
/-! ### step by step -/
structure Does (r : R D) (P : D → Sr → Prop) : Prop where
  out : Tells r P
theorem Does.get {r : R D} {P : D → Sr → Prop} (h : Does r P) : ∃ d S, r = .ok d S ∧ P d S := h.out.get
def rpM (P : D → Sr → Prop) (r : RS) : Prop := match r with
  | .nx _ S => P .non S
  | .rt d S => P d S
  | _ => False
/-- a def's body ends, and then so -/
structure RP (P : D → Sr → Prop) (r : RS) : Prop where
  out : rpM P r
def nxM (b : MS) (Q : RS → Prop) (r : RS) : Prop := match r with
  | .nx g S => Q (b g S)
  | r => Q r
/-- behind a statement -/
structure Nx (b : MS) (Q : RS → Prop) (r : RS) : Prop where
  out : nxM b Q r
section
variable {P : D → Sr → Prop} {Q : RS → Prop} {b c : MS} {g g' : Gm} {S S' : Sr} {d : D}
theorem rp_nx : RP P (.nx g S) ↔ P .non S := ⟨fun h => h.out, fun h => ⟨h⟩⟩
theorem rp_rt : RP P (.rt d S) ↔ P d S := ⟨fun h => h.out, fun h => ⟨h⟩⟩
theorem nx_nx : Nx b Q (.nx g S) ↔ Q (b g S) := ⟨fun h => h.out, fun h => ⟨h⟩⟩
theorem nx_rt : Nx b Q (.rt d S) ↔ Q (.rt d S) := ⟨fun h => h.out, fun h => ⟨h⟩⟩
theorem nx_bk : Nx b Q (.bk g S) ↔ Q (.bk g S) := ⟨fun h => h.out, fun h => ⟨h⟩⟩
theorem fun_post {N : Nat} {b : MS} {l : List D} (h : RP P (b (l.map some ++ List.replicate (N - l.length) none) S)) : Does (mFun N b l S) P := by
  obtain ⟨h⟩ := h
  refine ⟨?_⟩
  unfold mFun
  cases e : b (l.map some ++ List.replicate (N - l.length) none) S with
  | nx g S' => rw [e] at h; exact h
  | rt d S' => rw [e] at h; exact h
  | bk g S' => rw [e] at h; exact h.elim
  | ct g S' => rw [e] at h; exact h.elim
  | ex q S' => rw [e] at h; exact h.elim
  | bad => rw [e] at h; exact h.elim
theorem seq_post {a b : MS} (h : Nx b Q (a g S)) : Q (mSeq a b g S) := by
  obtain ⟨h⟩ := h
  unfold mSeq
  cases e : a g S <;> rw [e] at h <;> exact h
theorem for_post {src : MI} {t : MG} {b : MS} {S1 : Sr} {sr : Src} (h : src g S = .ok sr S1) (hq : Q (forG sr (mStep t b) sr.n 0 g S1)) : Q (mFor src t b g S) := by
  unfold mFor
  rw [h]
  exact hq
theorem seq_rp {a b : MS} (h : Nx b (RP P) (a g S)) : RP P (mSeq a b g S) := seq_post (Q := RP P) h
theorem seq_tn {a b : MS} {I : Gm → Sr → Prop} {P : RS → Prop} (h : Nx b (Tn I P) (a g S)) : Tn I P (mSeq a b g S) := seq_post (Q := Tn I P) h
theorem for_nx {src : MI} {t : MG} {b c : MS} {S1 : Sr} {sr : Src} (h : src g S = .ok sr S1) (hq : Nx c Q (forG sr (mStep t b) sr.n 0 g S1)) : Nx c Q (mFor src t b g S) := for_post (Q := Nx c Q) h hq
theorem nx_of {a b : MS} (h : a g S = .nx g' S') (hq : Q (b g' S')) : Nx b Q (a g S) := by rw [h]; exact ⟨hq⟩
theorem tn_of {a : MS} {I : Gm → Sr → Prop} {P : RS → Prop} (h : a g S = .nx g' S') (hq : I g' S') : Tn I P (a g S) := by rw [h]; exact ⟨hq⟩
end
theorem mLc_ok {src : MI} {t : Tg} {mt : MT} {me : ME} {vs : List Nat} {g : Gm} {S S1 S2 : Sr} {sr : Src} (h : src g S = .ok sr S1) (hl : lcG sr t mt me (wipeD g vs) S1.n sr.n 0 (S1.alloc (.lst [])) = .ok () S2) : mLc src t mt me vs g S = .ok (.adr S1.n) S2 := by
  unfold mLc SM.bind
  rw [h]
  dsimp only
  rw [hl]
end Y

set_option Elab.async false
set_option linter.all false
set_option maxRecDepth 100000
set_option maxHeartbeats 1000000
/-! Y16: methods of texts. -/
namespace Y
open PySem PySem.Spec PyProof.Rows L2
section
variable {X : Cx} {c : Ct} {E : XK} {m : Nat → Addr} {S : Sr} {H : Hp} {g : Gm} {σ : L2.St}
theorem rel_strs {n : Nat} : ∀ ys : List Str, RelDs c m n H (ys.map D.str) (ys.map V.str)
  | [] => mk_nil
  | _ :: ys => mk_cons mk_str (rel_strs ys)
theorem strs_get {l : List D} {ys : List Str} (h : strsOf l = some ys) : l = ys.map D.str := by
  induction l generalizing ys with
  | nil => cases h; rfl
  | cons d l ih =>
    cases d with
    | str z =>
      unfold strsOf at h
      cases e : strsOf l with
      | none => rw [e] at h; cases h
      | some r =>
        rw [e] at h
        cases h
        rw [ih e]
        rfl
    | _ => cases h
theorem strs_of : ∀ ys : List Str, strsOf (ys.map D.str) = some ys
  | [] => rfl
  | y :: ys => by
    show (strsOf (ys.map D.str)).map (fun r => y :: r) = _
    rw [strs_of ys]
    rfl
/-- x.split(sep) -/
def fSplit : FM := fun x l S => match x, l with
  | .str a, [.str b] => if (b.length == 0) = false ∧ a.length + 2 ≤ sizeLine then .ok (.adr S.n) (S.alloc (.lst ((Txt.split a b).map D.str))) else .bad
  | _, _ => .bad
theorem snd_split : SndM c (fun x xs H Q => ∃ a b, x = .str a ∧ xs = [.str b] ∧ (b.length == 0) = false ∧ a.length + 2 ≤ sizeLine ∧ rNewStrs (Txt.split a b) H Q) fSplit := fun E m S H Q x v l vs s rx rs q => by
  unfold fSplit at q
  split at q
  · rename_i a b
    obtain ⟨w, t, rfl, r1, r2⟩ := rd_cons rs
    obtain ⟨⟨h1, h2⟩, q⟩ := po_if q
    rw [rd_str r1, rd_nil r2]
    exact ⟨a, b, rd_str rx, rfl, h1, h2, giveO (x := .lst (List.map D.str _)) s ⟨_, rfl, rel_strs _⟩ q⟩
  · exact q.elim
/-- x.split() -/
def fWords : FM := fun x l S => match x, l with
  | .str a, [] => if a.length + 2 ≤ sizeLine then .ok (.adr S.n) (S.alloc (.lst ((Txt.words a).map D.str))) else .bad
  | _, _ => .bad
theorem snd_words : SndM c (fun x xs H Q => ∃ a, x = .str a ∧ xs = [] ∧ a.length + 2 ≤ sizeLine ∧ rNewStrs (Txt.words a) H Q) fWords := fun E m S H Q x v l vs s rx rs q => by
  unfold fWords at q
  split at q
  · rename_i a
    obtain ⟨h2, q⟩ := po_if q
    rw [rd_nil rs]
    exact ⟨a, rd_str rx, rfl, h2, giveO (x := .lst (List.map D.str _)) s ⟨_, rfl, rel_strs _⟩ q⟩
  · exact q.elim
/-- x.partition(sep) -/
def fPart : FM := fun x l S => match x, l with
  | .str a, [.str b] => if (b.length == 0) = false ∧ a.length ≤ sizeLine then .ok (.tup [.str (Txt.partition a b).1, .str (Txt.partition a b).2.1, .str (Txt.partition a b).2.2]) S else .bad
  | _, _ => .bad
theorem snd_part : SndM c (fun x xs H Q => ∃ a b, x = .str a ∧ xs = [.str b] ∧ (b.length == 0) = false ∧ a.length ≤ sizeLine ∧
    ∀ p, H p = none → Q (.ref p) (upd H p (.tup [.str (Txt.partition a b).1, .str (Txt.partition a b).2.1, .str (Txt.partition a b).2.2]))) fPart := fun E m S H Q x v l vs s rx rs q => by
  unfold fPart at q
  split at q
  · rename_i a b
    obtain ⟨w, t, rfl, r1, r2⟩ := rd_cons rs
    obtain ⟨⟨h1, h2⟩, q⟩ := po_if q
    rw [rd_str r1, rd_nil r2]
    exact ⟨a, b, rd_str rx, rfl, h1, h2, giveT s (mk_cons mk_str (mk_cons mk_str (mk_cons mk_str mk_nil))) q⟩
  · exact q.elim
/-- x.startswith(y), x.endswith(y) -/
def fTxB (f : Str → Str → Bool) : FM := fun x l S => match x, l with
  | .str a, [.str b] => .ok (.bl (f a b)) S
  | _, _ => .bad
theorem snd_txB {f : Str → Str → Bool} : SndM c (fun x xs H Q => ∃ a b, x = .str a ∧ xs = [.str b] ∧ Q (.bl (f a b)) H) (fTxB f) := fun E m S H Q x v l vs s rx rs q => by
  unfold fTxB at q
  split at q
  · rename_i a b
    obtain ⟨w, t, rfl, r1, r2⟩ := rd_cons rs
    rw [rd_str r1, rd_nil r2]
    exact ⟨a, b, rd_str rx, rfl, q m H _ (Nxt.refl s) mk_bl⟩
  · exact q.elim
/-- sep.join(a list or a tuple of texts) -/
def joinL (a : Str) (xs : List D) (S : Sr) : R D := match strsOf xs with
  | some ys => if (ys.map (·.length)).sum + ys.length * a.length ≤ 16777216 then .ok (.str (Txt.join a ys)) S else .bad
  | none => .bad
def fJoin : FM := fun x l S => match x, l with
  | .str a, [.tup xs] => joinL a xs S
  | .str a, [.ktp xs] => joinL a xs S
  | .str a, [.adr i] => (match S.f i with
    | some (.lst xs) => joinL a xs S
    | _ => .bad)
  | _, _ => .bad
theorem snd_joinL {Q : VK} {a : Str} {xs : List D} {vs : List V} {p : Addr} (s : Sim c m S H) (r : RelDs c m S.n H xs vs) (h : SqL c.K H p vs ∨ SqT c.K H p vs) (q : PoE c E m S H Q (joinL a xs S)) :
    ∃ ys : List Str, (SqL c.K H p (ys.map V.str) ∨ SqT c.K H p (ys.map V.str)) ∧ (ys.map (·.length)).sum + ys.length * a.length ≤ 16777216 ∧ Q (.str (Txt.join a ys)) H := by
  unfold joinL at q
  split at q
  · rename_i ys ey
    obtain ⟨hz, q⟩ := po_if q
    have e := strs_rel ey r
    subst e
    exact ⟨ys, h, hz, q m H _ (Nxt.refl s) mk_str⟩
  · exact q.elim
theorem snd_join : SndM c (fun x xs H Q => ∃ a p, ∃ ys : List Str, x = .str a ∧ xs = [.ref p] ∧ (SqL c.K H p (ys.map V.str) ∨ SqT c.K H p (ys.map V.str)) ∧
    (ys.map (·.length)).sum + ys.length * a.length ≤ 16777216 ∧ Q (.str (Txt.join a ys)) H) fJoin := fun E m S H Q x v l vs s rx rs q => by
  unfold fJoin at q
  split at q
  · rename_i a xs
    obtain ⟨w, t, rfl, r1, r2⟩ := rd_cons rs
    obtain ⟨p, ws, rfl, hh, r0⟩ := rd_tup r1
    rw [rd_nil r2]
    obtain ⟨ys, h1, h2, h3⟩ := snd_joinL s r0 (.inr (.inl (.inl hh))) q
    exact ⟨a, p, ys, rd_str rx, rfl, h1, h2, h3⟩
  · rename_i a xs
    obtain ⟨w, t, rfl, r1, r2⟩ := rd_cons rs
    obtain ⟨p, ws, rfl, hh, r0⟩ := rd_ktp r1
    rw [rd_nil r2]
    obtain ⟨ys, h1, h2, h3⟩ := snd_joinL s r0 (.inr hh.sq) q
    exact ⟨a, p, ys, rd_str rx, rfl, h1, h2, h3⟩
  · rename_i a i
    obtain ⟨w, t, rfl, r1, r2⟩ := rd_cons rs
    obtain ⟨rfl, hi⟩ := rd_adr r1
    rw [rd_nil r2]
    split at q
    · rename_i xs el
      obtain ⟨ws, hh, r0⟩ := s.lst el
      obtain ⟨ys, h1, h2, h3⟩ := snd_joinL s r0 (.inl (.inl (.inl hh))) q
      exact ⟨a, _, ys, rd_str rx, rfl, h1, h2, h3⟩
    · exact q.elim
  · exact q.elim
end
end Y

set_option Elab.async false
set_option linter.all false
set_option maxRecDepth 100000
set_option maxHeartbeats 1000000
/-! Y17: f-strings. -/
namespace Y
open PySem PySem.Spec PyProof.Rows L2
section
variable {X : Cx} {c : Ct} {E : XK} {m : Nat → Addr} {S : Sr} {H : Hp} {g : Gm} {σ : L2.St}
def mFmt (a : ME) : ME := fun g => SM.bind (a g) fun d S => match d with
  | .str y => if y.length ≤ sizeLine then .ok (.str y) S else .bad
  | .int i => if i.natAbs.log2 < 1920 then .ok (.str (toString i)) S else .bad
  | _ => .bad
theorem qe_fmt {e : Expr} {me : ME} {pos : Pos} (he : PE X e (rdE c E me)) : PE X (.FormattedValue e (-1) none pos) (rdE c E (mFmt me)) :=
  PE.imp (pe_fmt he) fun σ H Q ⟨m, S, g, s, rg, q⟩ => seqE s rg q fun m1 S1 H1 d v a r q1 => by
    cases d <;> first | exact (show False from q1).elim | skip
    · obtain ⟨h, q2⟩ := po_if q1
      exact .inr ⟨_, rd_int r, h, q2 m1 H1 _ (Nxt.refl a.sim) mk_str⟩
    · obtain ⟨h, q2⟩ := po_if q1
      exact .inl ⟨_, rd_str r, h, q2 m1 H1 _ (Nxt.refl a.sim) mk_str⟩
def mJs : List ME → Str → ME
  | [], acc => fun _ S => .ok (.str acc) S
  | a :: r, acc => fun g => SM.bind (a g) fun d S => match d with
    | .str y => if (acc ++ y).length ≤ sizeLine then mJs r (acc ++ y) g S else .bad
    | _ => .bad
theorem tJs_of {Q : VK} : ∀ {ms : List ME} {acc : Str} {m : Nat → Addr} {S : Sr} {H : Hp}, Sim c m S H → RelG c m S.n H g σ → PoE c E m S H Q (mJs ms acc g S) → tJs (ms.map (rdE c E)) acc σ H fun out H1 => Q (.str out) H1
  | [], acc, m, S, H, s, rg, q => q m H _ (Nxt.refl s) mk_str
  | a :: r, acc, m, S, H, s, rg, q => by
    refine seqE s rg q fun m1 S1 H1 d v a1 rd q1 => ?_
    cases d <;> first | exact (show False from q1).elim | skip
    obtain ⟨h, q2⟩ := po_if q1
    exact ⟨_, rd_str rd, h, tJs_of a1.sim (a1.relG rg) q2⟩
theorem qe_joined {v1 v2 : Expr} {rest : List Expr} {ms : List ME} {pos : Pos} (h : PJ X (v1 :: v2 :: rest) (ms.map (rdE c E))) : PE X (.JoinedStr (v1 :: v2 :: rest) pos) (rdE c E (mJs ms Str.empty)) :=
  PE.imp (pe_joined h) fun σ H Q ⟨m, S, g, s, rg, q⟩ => tJs_of s rg q
theorem qe_joined1 {e : Expr} {me : ME} {pos : Pos} (he : PE X e (rdE c E me)) : PE X (.JoinedStr [e] pos) (rdE c E me) := pe_joined1 he
end
end Y

set_option Elab.async false
set_option linter.all false
set_option maxRecDepth 100000
set_option maxHeartbeats 2000000
/-! Y18: any(.. for sign in text), the test reading the module's names too. -/
namespace Y
open PySem PySem.Spec PyProof.Rows L2
/-- the test of one sign, where the module's names can be read -/
def EltG (X : Cx) (scope : Scope) (x : Str) (elt : Expr) (pb : Nat → Bool) : Prop :=
  ∀ (e : Env) (A : Around) (E : Value → Shared → Prop) (n : Nat) (t : Tok) (s : Shared) (ms : Str → Option Value), e.scope = scope → e.globals = X.env.globals → s.heap.Ns e.globals X.mg → s.heap.Ns e.locals ms → ms x = some (.str ⟨#[n]⟩ t) →
    wpAny (model X.prog X.w) A (eval elt e) (fun y s' => y = .bool (pb n) ∧ Keeps s s') E s
section
variable {X : Cx} {pins : List (Addr × Obj)} {σ : L2.St} {H : Hp} {s : Shared}
/-- what the walk asks of the generator's store, ahead of the walked text's signs -/
theorem quiet_signs {scope : Scope} {x : Str} {elt : Expr} {pb : Nat → Bool} {a : Str} {h3 href : Heap} {code : Value} {bi : Addr} {cl : List (Str × Addr)} {wr : List Addr}
    (hel : EltG X scope x elt pb) (hg : h3.Ns X.env.globals X.mg) (hw : X.env.globals ∉ wr)
    (hr : ∀ b o, h3.get? b = some o → href.get? b = some o) :
    QuietGen X.prog X.w (genEnv scope cl h3.objs.size code bi X.env) x [] elt (List.range h3.objs.size) wr (SignAt a) (fun _ => true) (fun i y => ∃ n, a.cps[i]? = some n ∧ y = .bool (pb n)) href := by
  have hlt : X.env.globals < h3.objs.size := hg.lt
  constructor
  · intro A E i v s2 ms _ _ _ _ _
    simp only [List.forIn_nil]
    exact wpAny_pure ⟨rfl, GxR.keeps_refl _⟩
  · intro A E i v s2 ms _ hv _ hn hm hk
    obtain ⟨n, t, hn2, rfl⟩ := hv
    have gs : s2.heap.Ns X.env.globals X.mg := ns_of hg fun o ho => hk X.env.globals (List.mem_range.mpr hlt) hw o (hr _ o ho)
    exact wpAny_mono (hel _ A E n t s2 ms rfl rfl gs hn hm) (fun y s3 r => ⟨⟨n, hn2, r.1⟩, r.2⟩) fun _ _ q => q
end
section
open GxR
variable {X : Cx} {pins : List (Addr × Obj)} {σ : L2.St} {H H1 : Hp} {s s1 : Shared}
/-- the generator g over the signs of a stands ready in s5 -/
def ReadyG (X : Cx) (pins : List (Addr × Obj)) (σ : L2.St) (T : List (Addr × Str)) (H1 : Hp) (a : Str) (pb : Nat → Bool) (g : Addr) (s5 : Shared) : Prop :=
  ∃ (fp wr : List Addr) (G : Array GenState → Array GenState → Prop) (F : Nat → Value → Prop) (St : Nat → Shared → Prop),
    WalksS X.prog X.w X.A.in1 g fp wr G a.cps.size F St ∧ St 0 s5 ∧ TruthOf X.prog X.w X.A.in1 F (trF pb a.cps.toList) ∧ ∀ s', Moved wr G s5 s' → ∃ H2, LamX.ExtN H1 H2 ∧ LamX.Tabs T H2 ∧ Inv X pins σ H2 s'
/-- a text's signs, tested by a generator that reads the module's names -/
theorem gen_signs {T : List (Addr × Str)} {c P : Addr} {elt iter : Expr} {x : Str} {px gpos : Pos} {scope : Scope} {pb : Nat → Bool} {te : TE} {k : Nat} {Q : Value → Shared → Prop} {R : Str → Hp → Prop}
    (hr : Room k X.A) (TB : LamX.TabB X.base X.mg c P) (hcode : X.env.code = .ref c) (hmT : (P, X.env.qual ++ "<genexpr>") ∈ T) (hu : ∀ p ∈ T, p.1 = P → p.2 = X.env.qual ++ "<genexpr>") (S : GenS X.env scope x) (hi : PE X iter te) (hel : EltG X scope x elt pb)
    (hs : ∀ v, genFold iter X.env v = pure v) (I : Inv X pins σ H s)
    (h : te σ H fun v H1 => ∃ a : Str, v = .str a ∧ LamX.Tabs T H1 ∧ R a H1)
    (hQ : ∀ a H1 g s5, R a H1 → ReadyG X pins σ T H1 a pb g s5 → Q (.ref g) s5) :
    wpAny (model X.prog X.w) X.A (eval (.GeneratorExp elt [⟨.Name x px, iter, [], 0⟩] scope gpos) X.env) Q X.xe s := by
  have room : X.A.depth < recursionLimit := by
    have := hr.dp
    omega
  refine wpAny_GeneratorExp_walksQ (cl := cloFrom X.env.cells scope.names []) hr.hd S.co (closure_ok S.free) S.cell S.dot S.loc S.kind room ?_ hs
  refine thn (hi.run pins s σ H _ I h) ?_
  rintro xv s1 ⟨v, H1, I1, r1, a, rfl, tabs1, ra⟩
  obtain ⟨t, rfl⟩ : ∃ t, xv = .str a t := r1
  obtain ⟨ps, hP, tr, among⟩ := tabs1 _ hmT
  refine wpAny_pyIter_str ?_
  intro o St W st
  have gP := I1.hok P _ hP
  have ltP : P < s1.heap.objs.size := Heap.lt_size gP
  have gP' : (s1.heap.push o).get? P = some { cls := .none, data := .fields ps } := Heap.get?_push_of_some _ gP
  have cd : PySem.W.CodeHd (s1.heap.push o) c P := TB.code.keeps fun b u e => Heap.get?_push_of_some _ (I1.bk b u e)
  have lim := I1.nolimit.push o
  refine ⟨lim, ?_⟩
  have sz2 : (s1.heap.push o).objs.size = s1.heap.objs.size + 1 := Heap.size_push ..
  have ltS : cStatics < s1.heap.objs.size := let ⟨_, q, _⟩ := I1.nolimit; q.lt
  have neP : cStatics ≠ P := by
    intro e
    obtain ⟨_, ⟨o', es, ep, ho, hd, _⟩, _⟩ := I1.nolimit
    rw [e, gP] at ho
    cases ho
    cases hd
  have key : ∀ (code : Value) (h3 : Heap) (tk : Nat), Heap.ExtBut P (s1.heap.push o) h3 → (s1.heap.push o).objs.size ≤ h3.objs.size →
      (∀ s' : Shared, s'.os = s1.os → AllBare s'.gens → (∀ b u, b ≠ P → s1.heap.get? b = some u → s'.heap.get? b = some u) → (∀ b u, s1.heap.objs.size < b ∨ b = P → b < h3.objs.size → h3.get? b = some u → s'.heap.get? b = some u) → ∃ H2, LamX.ExtN H1 H2 ∧ LamX.Tabs T H2 ∧ Inv X pins σ H2 s') →
      wpAny (model X.prog X.w) X.A (builtinsFor X.env.globals X.env.builtins) (fun bi s4 =>
        ∃ I fp wr n0 Pi St0 pz F, Value.ref s1.heap.objs.size = .ref I ∧ (∀ A' : Around, A'.handled = none → Walks X.prog X.w A' I fp wr n0 Pi St0) ∧ St0 0 s4.heap ∧ (∀ b ∈ fp, b < s4.heap.objs.size) ∧ s4.heap.NoLimit ∧ cStatics ∉ wr ∧
          (∀ href : Heap, (∀ b o, s4.heap.get? b = some o → href.get? b = some o) →
            QuietGen X.prog X.w (genEnv scope (cloFrom X.env.cells scope.names []) s4.heap.objs.size code bi X.env) x [] elt (List.range s4.heap.objs.size) wr Pi pz F href) ∧
          (∀ a h5 tk gs, gs.bare = true → s4.heap.objs.size < a → h5.objs.size = a + 1 → (∀ b o, s4.heap.get? b = some o → h5.get? b = some o) →
            WalksS X.prog X.w X.A.in4 a (a :: s4.heap.objs.size :: List.range s4.heap.objs.size) (s4.heap.objs.size :: wr) (GenOnlyQ s4.gens.size) (passing pz n0 0).length
              (fun j y => ∃ i, (passing pz n0 0)[j]? = some i ∧ F i y) (GenAt X.prog X.w X.A.in4 a s4.gens.size s4.heap.objs.size (List.range s4.heap.objs.size) wr pz n0 F) →
            GenAt X.prog X.w X.A.in4 a s4.gens.size s4.heap.objs.size (List.range s4.heap.objs.size) wr pz n0 F 0 { s4 with gens := s4.gens.push gs, toks := tk, heap := h5 } →
            Q (.ref a) { s4 with gens := s4.gens.push gs, toks := tk, heap := h5 })) X.xe { s1 with heap := h3, toks := tk } := by
    intro code h3 tk x3 z3 fin
    have ng : h3.Ns X.env.globals X.mg := by
      rw [I1.ok.glob]
      exact ((I1.mod.glob.keeps I1.bk).push o).extBut x3 TB.gP
    have kp3 : ∀ b u, b ≠ P → s1.heap.get? b = some u → h3.get? b = some u := fun b u nb e => x3 b u nb (Heap.get?_push_of_some _ e)
    have l13 : s1.heap.objs.size < h3.objs.size := by omega
    obtain ⟨bm, ob, e1, e2, e3, e4, e5, e6, e7, e8⟩ := TB.bm
    refine wpAny_builtinsFor (m := X.mg) ng e1 e2 (kp3 _ _ e4 (I1.bk _ _ e5)) e6 e7 e8 ?_
    have one : ∀ {b y : Nat}, b ∈ [y] → b = y := fun hb => List.mem_singleton.mp hb
    have gl1 : X.env.globals < s1.heap.objs.size := by
      rw [I1.ok.glob]
      exact (I1.mod.glob.keeps I1.bk).lt
    refine ⟨s1.heap.objs.size, [s1.heap.objs.size], [s1.heap.objs.size], a.cps.size, SignAt a, St, (fun _ => true), (fun i y => ∃ n, a.cps[i]? = some n ∧ y = .bool (pb n)), rfl, W, ?_, ?_, lim.extBut x3 neP, ?_, ?_, ?_⟩
    · exact (W X.A hr.hd).frame _ _ _ st fun b hb u e => x3 b u (by rw [one hb]; exact (Nat.ne_of_lt ltP).symm) e
    · intro b hb
      rw [one hb]
      exact l13
    · intro hb
      exact Nat.ne_of_lt ltS (one hb)
    · intro href hh
      exact quiet_signs hel ng (fun hb => Nat.ne_of_lt gl1 (one hb)) hh
    · intro g h5 tk5 gs bare5 gt5 sz5 keep5 W5 at5
      have all : ∀ n : Nat, passing (fun _ => true) n 0 = List.range n := GxR.passing_true
      rw [all, List.length_range] at W5
      refine hQ a H1 g _ ra ⟨_, _, _, _, _, W5.in4_1, at5, ?_, ?_⟩
      · rintro j y sj Qj Ej ⟨i, hij, n, hn, rfl⟩ hq
        obtain ⟨_, rfl⟩ : j < a.cps.size ∧ j = i := by
          obtain ⟨h1, h2⟩ := List.getElem?_eq_some_iff.mp hij
          rw [List.getElem_range] at h2
          exact ⟨by simpa using h1, h2⟩
        have hq : Qj (trF pb a.cps.toList j) sj := hq
        rw [trF_some (show a.cps.toList[j]? = some n from by rw [Array.getElem?_toList]; exact hn)] at hq
        exact wpAny_truthy_bool hq
      · intro s' mv
        have away : ∀ b, b < h3.objs.size → b ≠ s1.heap.objs.size → b ∉ h3.objs.size :: [s1.heap.objs.size] := by
          intro b lt ne hb
          rcases List.mem_cons.mp hb with e | e
          · have lt2 : (b : Nat) < h3.objs.size := lt
            rw [e] at lt2
            exact Nat.lt_irrefl _ lt2
          · exact ne (one e)
        refine fin s' mv.os (AllBare.movedS (I1.bare.push bare5) mv) (fun b u nb e => ?_) fun b u hb lt e => ?_
        · have lt := Heap.lt_size e
          exact mv.heap b u (away b (Nat.lt_trans lt l13) (Nat.ne_of_lt lt)) (keep5 b u (kp3 b u nb e))
        · refine mv.heap b u (away b lt ?_) (keep5 b u e)
          rcases hb with hb | hb
          · exact Nat.ne_of_gt hb
          · rw [hb]
            exact Nat.ne_of_lt ltP
  have done : ∀ {ss : Shared} {HH : Hp} {h' : Heap} {tk' : Nat}, Inv X pins σ HH { s1 with heap := h', toks := tk' } → ss.heap = h' → ss.os = s1.os → AllBare ss.gens → Inv X pins σ HH ss := by
    intro ss HH h' tk' J eh eo eb
    subst eh
    exact J.call' (ch := []) eo (Un.kept fun _ _ e => e) J.hok eb fun b hb => nomatch hb
  cases hf : codeAmong gpos ps.toList with
  | none =>
    refine wpAny_genexprCodeX (qualname := X.env.qual ++ "<genexpr>") hcode (cd.code gP' tr) (cd.tab gP') hf fun c' h' tk hx hge hlt hco' hrec htab' _ => ?_
    obtain ⟨c2, oc, vs, t2, e2, hoc, hd2, hv2⟩ := hrec
    cases e2
    obtain ⟨_, _, _, _, _, _, _, _, _, _, _, _, _, _, _, _, _, _, _, trs, _⟩ := hco'
    refine key _ h' tk hx (Nat.le_trans hge (Nat.le_of_lt hlt)) fun s' eo eb k1 k2 => ?_
    have hPs := k2 P _ (.inr rfl) (Heap.lt_size htab'.2) htab'.2
    have hge : (s1.heap.push o).objs.size ≤ c' := hge
    have gtc : s1.heap.objs.size < c' := by omega
    have hcs := k2 c' _ (.inl gtc) hlt hoc
    have nC : H1 c' = none := I1.hok.fresh (Nat.le_of_lt gtc)
    have J := LamX.inv_table (q := X.env.qual ++ "<genexpr>") (t' := s'.toks) (h' := s'.heap) (more := #[rawInt gpos.line, rawInt gpos.col, .ref c']) I1 hP k1 hPs (Nat.le_of_lt gtc) ⟨oc, vs, t2, hcs, hd2, hv2⟩
    have ext : LamX.ExtN H1 (upd (upd H1 P (.tbl (ps ++ #[rawInt gpos.line, rawInt gpos.col, .ref c']))) c' (LamX.CodeO c' (X.env.qual ++ "<genexpr>"))) := by
      intro b u e n
      rw [upd_ne (ne_of_none e nC), upd_ne ?_]
      · exact e
      · intro eb
        rw [eb, hP] at e
        exact n ps (Option.some.inj e).symm
    have snoc : (ps ++ #[rawInt gpos.line, rawInt gpos.col, Value.ref c']).toList = ps.toList ++ [rawInt gpos.line, rawInt gpos.col, .ref c'] := by simp
    refine ⟨_, ext, fun p hp => ?_, done J rfl eo eb⟩
    by_cases hb : p.1 = P
    · rw [hu p hp hb, hb]
      refine ⟨_, by rw [upd_ne (ne_of_none hP nC), upd_same], trs, fun pos' cv hcv => ?_⟩
      rw [snoc] at hcv
      rcases LamX.among_app _ tr hcv with k | k
      · obtain ⟨c0, f1, f2⟩ := among pos' cv k
        exact ⟨c0, f1, ext _ _ f2 LamX.codeO_ne⟩
      · exact ⟨c', k, upd_same⟩
    · obtain ⟨qs, a1, a2, a3⟩ := tabs1 p hp
      refine ⟨qs, by rw [upd_ne (ne_of_none a1 nC), upd_ne hb]; exact a1, a2, fun pos' cv hcv => ?_⟩
      obtain ⟨c0, f1, f2⟩ := a3 pos' cv hcv
      exact ⟨c0, f1, ext _ _ f2 LamX.codeO_ne⟩
  | some cv =>
    refine wpAny_genexprCode_hit hcode (cd.code gP' tr) hf ?_
    refine key cv (s1.heap.push o) s1.toks (Heap.ExtBut.refl _ _) (Nat.le_refl _) fun s' eo eb k1 k2 => ?_
    have hPs := k2 P _ (.inr rfl) (Heap.lt_size gP') gP'
    have kall : ∀ b u, s1.heap.get? b = some u → s'.heap.get? b = some u := by
      intro b u e
      by_cases hb : b = P
      · subst hb
        rw [gP] at e
        cases e
        exact hPs
      · exact k1 b u hb e
    exact ⟨H1, LamX.ExtN.refl H1, tabs1, done (tk' := s1.toks) (I1.kept kall) rfl eo eb⟩
end
section
variable {X : Cx} {c : Ct} {E : XK}
/-- any(.. for sign in text) -/
def mAnyS (pb : Nat → Bool) (a : ME) : ME := fun g => SM.bind (a g) fun d S => match d with
  | .str x => .ok (.bl (x.cps.toList.any pb)) S
  | _ => .bad
theorem qe_anyS {cc P : Addr} {elt iter : Expr} {x : Str} {px p pos gpos : Pos} {scope : Scope} {pb : Nat → Bool} {me : ME} {k : Nat}
    (hr : Room k X.A) (hg : Gl X "any") (hm : X.mg "any" = none) (TB : LamX.TabB X.base X.mg cc P) (hcode : X.env.code = .ref cc) (hmT : (P, X.env.qual ++ "<genexpr>") ∈ c.T) (hu : ∀ p ∈ c.T, p.1 = P → p.2 = X.env.qual ++ "<genexpr>")
    (S : GxR.GenS X.env scope x) (hi : PE X iter (rdE c E me)) (hel : EltG X scope x elt pb) (hs : ∀ v, genFold iter X.env v = pure v := by intro _; rfl)
    (he : starEach [.GeneratorExp elt [⟨.Name x px, iter, [], 0⟩] scope gpos] X.env = (false, eval (.GeneratorExp elt [⟨.Name x px, iter, [], 0⟩] scope gpos) X.env) :: starEach [] X.env := by rfl) :
    PE X (.Call (.Name "any" p) [.GeneratorExp elt [⟨.Name x px, iter, [], 0⟩] scope gpos] [] pos) (rdE c E (mAnyS pb me)) := by
  refine ⟨fun pins s σ H Q I h => ?_⟩
  obtain ⟨m, S0, g, si, rg, q⟩ := h
  have q' : rdE c E me σ H fun v H1 => ∃ a : Str, v = .str a ∧ LamX.Tabs c.T H1 ∧ ∃ m1 S1, Sim c m1 S1 H1 ∧ PoE c E m1 S1 H1 Q (.ok (.bl (a.cps.toList.any pb)) S1) := by
    refine seqE si rg q fun m1 S1 H1 d v n r q1 => ?_
    cases d <;> first | exact (show False from q1).elim | skip
    exact ⟨_, rd_str r, n.sim.tabs, m1, S1, n.sim, q1⟩
  refine wpAny_Call_Name_kw (ld_blt I hg hm boot_any ?_)
  refine PyProof.Rows.callWith_builtin1 ?_ he (by rfl)
  rw [he]
  show wpAny _ _ (spliced ((false, eval (.GeneratorExp elt [⟨.Name x px, iter, [], 0⟩] scope gpos) X.env) :: backTo pos (starEach [] X.env))) _ _ s
  refine Calls.spliced_cons (gen_signs (T := c.T) (R := fun a H1 => ∃ m1 S1, Sim c m1 S1 H1 ∧ PoE c E m1 S1 H1 Q (.ok (.bl (a.cps.toList.any pb)) S1)) hr TB hcode hmT hu S hi hel hs I q' fun a H1 gA s5 hR hG => ?_)
  obtain ⟨fp, wr, G, F, St, W, st0, tru, after⟩ := hG
  refine Calls.spliced_nil ?_
  refine call_any_walkS (W.self 0 _ _ _ st0 ⟨gA, fp, wr, G, _, F, St, _, rfl, W, st0, tru, fun s' mv => ?_⟩)
  obtain ⟨H2, eN, T2, J⟩ := after s' mv
  obtain ⟨m1, S1, si1, po⟩ := hR
  refine ⟨.bl _, H2, J, rfl, ?_⟩
  rw [GxR.any_signs a pb]
  exact po m1 H2 _ (Nxt.extN si1 eN T2) mk_bl
end
/-! ### the tests -/
/-- an expression of module's names and texts that is a text -/
def TxtG (X : Cx) (scope : Scope) (e : Expr) (a : Str) : Prop := ∀ (env : Env) (A : Around) (E : Value → Shared → Prop) (s : Shared) (Q : Value → Shared → Prop), env.scope = scope → env.globals = X.env.globals → s.heap.Ns env.globals X.mg →
  (∀ t k, Q (.str a t) { s with toks := k }) → wpAny (model X.prog X.w) A (eval e env) Q E s
section
variable {X : Cx} {scope : Scope}
theorem tg_k {a : Str} {j : Nat} {p : Pos} : TxtG X scope (.Constant (.str a) j p) a := fun env A E s Q _ _ _ h => Calls.Constant_str (h _ _)
theorem tg_g {x a : Str} {p : Pos} (hk : scope.kind = .function) (hx : scope.names.lookup x = some .globalImplicit) {c : Ct} (hm : GK X.mg c x (.str a)) (hd : (x == ("__debug__" : Str)) = false := by decide) : TxtG X scope (.Name x p) a := by
  intro env A E s Q es eg ns h
  obtain ⟨v, u, e1, r, rd⟩ := hm
  have ev := rd_str (rd (fun _ => 0) 0 (fun _ => none))
  subst ev
  obtain ⟨t, rfl⟩ : ∃ t, u = .str a t := r
  refine Calls.Name_function_global (by rw [es]; exact hk) (by unfold Env.kindOf; rw [es]; exact hx) (Calls.loadGlobal_global ns e1 ?_) hd
  exact h t s.toks
theorem tg_add {e1 e2 : Expr} {a b : Str} {p : Pos} (h1 : TxtG X scope e1 a) (h2 : TxtG X scope e2 b) (hz : a.length + b.length ≤ sizeLine := by decide) : TxtG X scope (.BinOp e1 .Add e2 p) (a ++ b) := by
  intro env A E s Q es eg ns h
  refine wpAny_BinOp (h1 env A E s _ es eg ns fun t k => h2 env A E _ _ es eg ns fun t2 k2 => ?_)
  exact PyProof.Rows.add_str (fun t' tk => h t' tk) hz
/-- sign not in text -/
theorem eg_notIn {x a : Str} {e : Expr} {p p2 : Pos} (hk : scope.kind = .function) (hl : scope.names.lookup x = some .local) (he : TxtG X scope e a) (hm : behindInMarks .NotIn e = false := by rfl) (hd : (x == ("__debug__" : Str)) = false := by decide) :
    EltG X scope x (.Compare (.Name x p) [.NotIn] [e] p2) fun n => (Builtin.Str.occurrences a ⟨#[n]⟩ 0 a.length 1).isEmpty := by
  intro env A E n t s ms es eg ns hn hx
  refine wpAny_Compare1 (hm := hm) ?_
  refine wpAny_Name (wpAny_loadName_local (by rw [es]; exact hk) (show env.scope.names.lookup x = some .local by rw [es]; exact hl) hn hx ?_) hd
  refine he env A E s _ es eg ns fun t2 k2 => ?_
  refine PyProof.Rows.notIn_str ⟨?_, GxR.keeps_tok _ _⟩
  rw [Bool.not_not]
end
end Y

set_option Elab.async false
set_option linter.all false
set_option maxRecDepth 100000
set_option maxHeartbeats 2000000
/-! Y19: enumerate of a tuple. -/
namespace Y
open PySem PySem.Spec PyProof.Rows L2
/-- what enumerate makes of anything that begins an iterator -/
theorem enum_new1 {v : Value} {o : Obj} {HH : Heap → Prop} (B : Begins v o HH) :
    Meets (Builtin.«enumerate.__new__» ⟨[.type "enumerate", v], []⟩) (fun _ R s => HH s.heap ∧
      R (.ok (.ret (.ref (s.heap.push o).objs.size))) { s with heap := (s.heap.push o).push { cls := .type "enumerate", data := .fields #[.none, .bool false, .ref s.heap.objs.size, rawInt 0, .none, .none] } }) :=
  .of_wp fun prog w A R s both => by
    obtain ⟨hp, gn, dr, tk, os⟩ := s
    obtain ⟨there, h⟩ := both
    have hsub := sub_enumerate
    have step : ∀ {A' : Around} {E' : Value → Shared → Prop} {Q' : Value → Shared → Prop}, Q' (.ref hp.objs.size) ⟨hp.push o, gn, dr, tk, os⟩ → wpAny (model prog w) A' (pyIter v) Q' E' ⟨hp, gn, dr, tk, os⟩ :=
      fun q => B.iter prog w _ _ ⟨hp, gn, dr, tk, os⟩ _ there q
    wp_walk using step
    refine wpAny_stack_any fun st => wpAny_pure ?_
    split
    · rename_i kk _ _ _ _ _
      cases (kk == Value.type "enumerate")
      · wp_walk using step
        exact ⟨_, rfl, h⟩
      · wp_walk using step
        exact ⟨_, rfl, h⟩
    · wp_walk using step
      exact ⟨_, rfl, h⟩
theorem enum_starts {prog : Program} {w : World} {A : Around} {E : Value → Shared → Prop} {s : Shared} {v : Value} {o : Obj} {HH : Heap → Prop} {Q : Value → Shared → Prop} (B : Begins v o HH) (there : HH s.heap)
    (h : ∀ h', IsEnum h' (s.heap.objs.size + 1) s.heap.objs.size 0 .none → h'.get? s.heap.objs.size = some o → (∀ b u, s.heap.get? b = some u → h'.get? b = some u) → Q (.ref (s.heap.objs.size + 1)) { s with heap := h' }) :
    wpAny (model prog w) A (call (.type "enumerate") [v]) Q E s := by
  refine callType_new F.called_enumerate (by decide) (F.typeCall_enumerate_1 _) (F.newCall_enumerate_1 _) (fun obj => F.args_object_init_2 obj _) F.entry_enumerate_new (enum_new1 B) ⟨there, ?_⟩
  have size1 : (s.heap.push o).objs.size = s.heap.objs.size + 1 := Heap.size_push ..
  show _ ∧ _
  rw [size1]
  have isE : IsEnum ((s.heap.push o).push { cls := .type "enumerate", data := .fields #[.none, .bool false, .ref s.heap.objs.size, rawInt 0, .none, .none] }) (s.heap.objs.size + 1) s.heap.objs.size 0 .none := by
    have z := Heap.get?_push_size (s.heap.push o) (o := { cls := .type "enumerate", data := .fields #[.none, .bool false, .ref s.heap.objs.size, rawInt 0, .none, .none] }) rfl
    rw [size1] at z
    exact z
  exact ⟨⟨_, isE, rfl⟩, h _ isE (Heap.get?_push_of_some _ (Heap.get?_push_size _ B.free)) fun b u e => Heap.get?_push_of_some _ (Heap.get?_push_of_some _ e)⟩
theorem enum_endT {prog : Program} {w : World} {A : Around} {E : Value → Shared → Prop} {s : Shared} {e it tu : Addr} {i : Nat} {xs : Array Value} {old : Value} {Q : Option Value → Shared → Prop} (hh : A.handled = none)
    (isE : IsEnum s.heap e it i old) (isI : s.heap.IsTupleIter it tu i) (isT : s.heap.IsTuple tu xs) (over : xs[i]? = none) (h : ∀ h', Heap.ExtBut it s.heap h' → Q none { s with heap := h' }) : wpAny (model prog w) A (pyNext (.ref e)) Q E s := by
  have ty : s.TypeIs (.ref e) "enumerate" := ⟨_, isE, rfl⟩
  unfold pyNext
  refine wpAny_bind (wpAny_attempt (wpAny_callSpecial?_slot (name := Str.ofString "__next__") ty F.slot_enumerate_next ?_))
  refine wpAny_call_entry F.slot_enumerate_next ty F.entry_enumerate_next ?_ (F.args_enumerate_next_1 _)
  show wpAny _ _ (field (.ref e) 2 >>= _) _ _ _
  refine wpAny_bind (wpAny_field isE rfl (x := .ref it) rfl (wpAny_bind (wpAny_nextOf_tuple_end hh isI isT over fun h1 x ex xo => ?_)))
  obtain ⟨ob, g1, g2⟩ := xo
  exact wpAny_bind (wpAny_isInstance (T := "StopIteration") (b := true) ⟨ob, g1, g2⟩ isSubtype_stop (wpAny_pure (h _ ex)))
/-- the tuple at a, each item in a new pair -/
def IteT (K : PySem.W.Frag) (a : Addr) : It where
  go i H := ∃ xs x, SqT K H a xs ∧ xs[i]? = some x
  yld i H v H' := ∃ T x, v = .ref T ∧ H T = none ∧ H' = upd H T (.tup [.int (i : Nat), x]) ∧ ∀ xs, SqT K H a xs → xs[i]? = some x
  stop i H := ∃ xs, SqT K H a xs ∧ xs.length ≤ i
theorem turn_enT {P : Program} {w : World} {K : PySem.W.Frag} {elts : List Expr} {kk : Nat} {tpos : Pos} {a e it : Addr} (ea : e ≠ a) (ia : a ≠ it) (ei : e ≠ it) :
    Turn P w K (.Tuple elts kk tpos) (IteT K a) [e, it] e (fun i h => (∃ old, IsEnum h e it ((i : Nat) : Int) old) ∧ h.IsTupleIter it a i) where
  mem := List.mem_cons_self
  obj := by
    rintro i h ⟨⟨old, he⟩, o, ho, _, hd⟩ b hb
    rcases List.mem_cons.mp hb with rfl | hb
    · exact ⟨_, he, fun v q => nomatch q⟩
    · obtain rfl := List.mem_singleton.mp hb
      exact ⟨o, ho, fun v q => by rw [hd] at q; cases q⟩
  keep := by
    rintro i h h' ⟨⟨old, he⟩, hi⟩ k
    exact ⟨⟨old, k e (by simp) _ he⟩, hi.at fun o q => k it (by simp) o q⟩
  item := by
    rintro X rfl rfl rfl calm i pins s σ H E I fpo ⟨⟨old, he⟩, hit⟩ ⟨xs, x, hq, hx⟩
    obtain ⟨its, rv, p, _⟩ := I.tuple hq
    have hlen := rv.length
    have hil : i < its.toArray.size := by
      have := (List.getElem?_eq_some_iff.mp hx).1
      simp
      omega
    have D := Draws.tuple (prog := X.prog) (w := X.w) (A := X.A.in1) (I.ok.hd calm) it a ia its.toArray
    have le : e < s.heap.objs.size := Heap.lt_size he
    have li : it < s.heap.objs.size := by
      obtain ⟨_, q, _⟩ := hit
      exact Heap.lt_size q
    refine wpAny_pyNext_enum_itemD D he ⟨hit, p⟩ hil ei (by simp [ei, ea]) fun u h' tk hu out st' hT hsz hk => ⟨_, rfl, ?_⟩
    obtain ⟨u0, hu0, ru⟩ := rv.get hx
    have eu : u0 = u := by
      have hu : its.toArray[i]? = some u := hu
      rw [List.getElem?_toArray, hu0] at hu
      exact Option.some.inj hu
    subst eu
    refine wpAny_letOwnedTupleGo_enum (s := { s with heap := h', toks := tk + 1 }) out fun h2 he2 sb => ?_
    have hT2 : h2.get? s.heap.objs.size = some { cls := .type "tuple", data := .seq #[.int i tk, u0] } := (sb.2 _ (Nat.ne_of_gt le)).trans hT
    have new : ObjOk X.prog X.w (upd H s.heap.objs.size (.tup [.int (i : Nat), x])) h2 s.heap.objs.size (.tup [.int (i : Nat), x]) :=
      ⟨show 2 ≤ sizeLine by decide, [.int i tk, u0], .cons ⟨_, rfl⟩ (.cons ru .nil), _, hT2, rfl, _, rfl⟩
    have keepAll : ∀ b ob, b ∉ [e, it] → s.heap.get? b = some ob → h2.get? b = some ob := fun b ob hb q => by
      have n1 : b ≠ e := fun z => hb (by simp [z])
      have n2 : b ≠ it := fun z => hb (by simp [z])
      exact (sb.2 b n1).trans (hk b ob n1 n2 q)
    refine ⟨.ref s.heap.objs.size, _, I.turnedNew (ch := [e, it]) keepAll fpo (Nat.le_refl _) new, rfl, ⟨_, x, rfl, I.hok.fresh (Nat.le_refl _), rfl, fun ys hy => by rw [I.tuple_inj hy hq]; exact hx⟩, ⟨⟨u0, ?_⟩, st'.1.at fun o q => (sb.2 it (Ne.symm ei)).trans q⟩, fun b hb => ?_⟩
    · rw [show ((i + 1 : Nat) : Int) = (i : Int) + 1 by omega]
      exact he2
    · have lb : b < s.heap.objs.size := by
        rcases List.mem_cons.mp hb with rfl | hb
        · exact le
        · obtain rfl := List.mem_singleton.mp hb
          exact li
      rw [upd_ne (Nat.ne_of_lt lb)]
      exact (fpo b hb).1
  done := by
    rintro X rfl rfl rfl calm i pins s σ H E I fpo ⟨⟨old, he⟩, hit⟩ ⟨xs, hq, hx⟩
    obtain ⟨its, rv, p, _⟩ := I.tuple hq
    have hlen := rv.length
    obtain ⟨f0, f1, f2, f3, f4, f5⟩ := fpo it (by simp)
    exact enum_endT (I.ok.hd calm) he hit p (by simp; omega) fun h' eb => ⟨rfl, I.turned (t' := s.toks) (fun b o hb q => eb b o hb q) f0 f1 f3 f4 f5⟩
  self := fun A i s Q E st h => by
    obtain ⟨⟨_, he⟩, _⟩ := st
    exact wpAny_pyIter_enum he h
section
variable {X : Cx} {c : Ct} {E : XK} {m : Nat → Addr} {S : Sr} {H : Hp} {g : Gm} {σ : L2.St}
def iEnT (K : PySem.W.Frag) (ta : TA) : TI := fun σ H R => ta σ H fun vs H1 => ∃ a xs, vs = [.ref a] ∧ SqT K H1 a xs ∧ R (IteT K a) H1
theorem pi_enT {e : Expr} {ta : TA} {p pos tpos : Pos} {elts : List Expr} {kk : Nat} (hg : Gl X "enumerate") (hm : X.mg "enumerate" = none) (ha : PA X [e] ta) (hs : starEach [e] X.env = [(false, eval e X.env)] := by rfl) :
    PI X (.Tuple elts kk tpos) (.Call (.Name "enumerate" p) [e] [] pos) (iEnT X.K ta) := by
  refine ⟨fun pins s σ H R I h => Call_ (ld_blt I hg hm boot_enumerate (PyProof.Rows.callWith_type1 (thn (ha.run pos pins s σ H _ I h) ?_) hs rfl))⟩
  rintro us s1 ⟨vs, H1, I1, r1, a, xs, rfl, hq, q⟩
  cases r1 with
  | cons r rr =>
    cases rr
    cases r
    obtain ⟨its, rv, p1, _⟩ := I1.tuple hq
    obtain ⟨oa, hoa, _⟩ := id p1
    have la := Heap.lt_size hoa
    refine enum_starts (begins_tuple a its.toArray) p1 fun h' isE isI hk => wpAny_pyIter_enum isE ?_
    have I2 : Inv X pins σ H1 { s1 with heap := h' } := I1.kept (t' := s1.toks) hk
    refine ⟨s1.heap.objs.size + 1, [s1.heap.objs.size + 1, s1.heap.objs.size], _, _, H1, rfl, I2, turn_enT (Nat.ne_of_gt (Nat.lt_succ_of_lt la)) (Nat.ne_of_lt la) (Nat.succ_ne_self _), ⟨⟨.none, isE⟩, _, isI, rfl, rfl⟩, fun b hb => ?_, q⟩
    have up : s1.heap.objs.size ≤ b := by
      rcases List.mem_cons.mp hb with rfl | hb
      · exact Nat.le_succ _
      · rw [List.mem_singleton.mp hb]
        exact Nat.le_refl _
    exact I1.fpOk up (I1.hok.fresh up)
theorem it_enT {l : List D} {a : Addr} {vs : List V} (h : SqT c.K H a vs) (rs : RelDs c m S.n H l vs) : ItOk c (IteT c.K a) (sqe (sqn l)) m S H := by
  refine ⟨fun i m1 S1 H1 d n e => ?_, fun i m1 S1 H1 n e => ?_⟩
  · unfold sqe sqn at e
    dsimp only at e
    cases el : l[i]? with
    | none => rw [el] at e; cases e
    | some d0 =>
      rw [el] at e
      cases e
      obtain ⟨v, ev, rv⟩ := (n.relDs rs).get el
      have hq := n.kp.sqT h
      refine ⟨⟨vs, v, hq, ev⟩, ?_⟩
      rintro x H' ⟨T, y, rfl, hT, rfl, hy⟩
      have ey := hy vs hq
      rw [ev] at ey
      cases ey
      have f : Nxt c m1 S1 H1 m1 S1 (upd H1 T (.tup [.int (i : Nat), v])) := Nxt.fresh n.sim hT
      exact ⟨f, mk_tup upd_same (mk_cons mk_int (mk_cons (f.relD rv) mk_nil))⟩
  · unfold sqe sqn at e
    dsimp only at e
    cases el : l[i]? with
    | none =>
      refine ⟨vs, n.kp.sqT h, ?_⟩
      rw [← rs.length]
      exact List.getElem?_eq_none_iff.mp el
    | some d0 => rw [el] at e; cases e
/-- enumerate of a list or a tuple -/
def mEnu (a : MA) : MI := fun g => SM.bind (a g) fun l S => match l with
  | [.tup l] => .ok (sqe (sqn l)) S
  | [.ktp l] => .ok (sqe (sqn l)) S
  | [.gtp l] => .ok (sqe (sqn l)) S
  | [d] => (match mSrcD false d S with
    | .ok s S' => .ok (sqe s) S'
    | _ => .bad)
  | _ => .bad
theorem qi_enu {e : Expr} {ma : MA} {p pos tpos : Pos} {elts : List Expr} {kk : Nat} (hK : X.K = c.K) (hg : Gl X "enumerate") (hm : X.mg "enumerate" = none) (ha : PA X [e] (rdA c E ma)) (hs : starEach [e] X.env = [(false, eval e X.env)] := by rfl) :
    PI X (.Tuple elts kk tpos) (.Call (.Name "enumerate" p) [e] [] pos) (rdI c E (mEnu ma)) :=
  PI.imp (PI.or (pi_enum hg hm ha hs) (pi_enT hg hm ha hs)) fun σ H Q ⟨m, S, g, s, rg, q⟩ => by
    rw [hK]
    unfold mEnu SM.bind at q
    cases e0 : ma g S with
    | bad => rw [e0] at q; exact q.elim
    | exc p S1 =>
      rw [e0] at q
      exact .inl ⟨m, S, g, s, rg, by rw [e0]; exact q⟩
    | ok l S1 =>
      rw [e0] at q
      dsimp only at q
      split at q
      · refine .inr ⟨m, S, g, s, rg, ?_⟩
        rw [e0]
        intro m1 H1 v a rs
        obtain ⟨w, t, rfl, r1, r2⟩ := rd_cons rs
        obtain ⟨p1, vs, rfl, hh, rs⟩ := rd_tup r1
        rw [rd_nil r2]
        exact ⟨p1, vs, rfl, .inl (.inl hh), q m1 H1 _ a (it_enT (.inl (.inl hh)) rs)⟩
      · refine .inr ⟨m, S, g, s, rg, ?_⟩
        rw [e0]
        intro m1 H1 v a rs
        obtain ⟨w, t, rfl, r1, r2⟩ := rd_cons rs
        obtain ⟨p1, vs, rfl, hh, rs⟩ := rd_ktp r1
        rw [rd_nil r2]
        exact ⟨p1, vs, rfl, hh.sq, q m1 H1 _ a (it_enT hh.sq rs)⟩
      · refine .inr ⟨m, S, g, s, rg, ?_⟩
        rw [e0]
        intro m1 H1 v a rs
        obtain ⟨w, t, rfl, r1, r2⟩ := rd_cons rs
        obtain ⟨p1, vs, rfl, hh, rs⟩ := rd_gtp r1
        rw [rd_nil r2]
        exact ⟨p1, vs, rfl, hh.sq, q m1 H1 _ a (it_enT hh.sq rs)⟩
      · refine .inl ⟨m, S, g, s, rg, ?_⟩
        rw [e0]
        intro m1 H1 v a rs
        obtain ⟨w, t, rfl, r1, r2⟩ := rd_cons rs
        rw [rd_nil r2]
        split at q
        · rename_i sr S' e1
          obtain ⟨rfl, p1, rfl, hq, vs, hv⟩ := sq_of a.sim r1 e1
          exact ⟨p1, vs, rfl, hv, q m1 H1 _ a (it_enum hq)⟩
        · exact q.elim
      · exact q.elim
end
end Y

set_option Elab.async false
set_option linter.all false
set_option maxRecDepth 100000
set_option maxHeartbeats 2000000
/-! Y20: dicts made, texts repeated, sorted keys, told with one clause. -/
namespace Y
open PySem PySem.Spec PyProof.Rows L2
section
variable {X : Cx} {c : Ct} {E : XK} {m : Nat → Addr} {S : Sr} {H : Hp} {g : Gm} {σ : L2.St}
/-- {} -/
def mEmp : ME := fun _ S => .ok (.adr S.n) (S.alloc (.dic []))
theorem qe_emp {pos : Pos} : PE X (.Dict [] [] pos) (rdE c E mEmp) := PE.imp pe_dnewK fun σ H Q ⟨m, S, g, s, rg, q⟩ => giveO (x := .dic []) s ⟨[], rfl, mkk_nil⟩ q
/-! ### text * int -/
def repS (a : Str) (k : Int) : Str := ⟨(List.replicate k.toNat a.cps).foldl (· ++ ·) #[]⟩
def repT : D → D → SM D := fun x y S => match x, y with
  | .str a, .int k => if k < 2 ^ 30 ∧ -(2 ^ 30) < k ∧ a.length * k.toNat ≤ sizeLine then .ok (.str (repS a k)) S else .bad
  | _, _ => .bad
def rRepS : R2 := fun x y H Q => ∃ a k, x = .str a ∧ y = .int k ∧ k < 2 ^ 30 ∧ -(2 ^ 30) < k ∧ a.length * k.toNat ≤ sizeLine ∧ Q (.str (repS a k)) H
theorem op_repS : OpR X (binaryOp .Mult) rRepS := by
  rintro pins s σ H x y v u Q I rx ry ⟨a, k, rfl, rfl, h1, h2, h3, q⟩
  obtain ⟨t, rfl⟩ : ∃ t, v = .str a t := rx
  obtain ⟨u', rfl⟩ : ∃ u', u = .int k u' := ry
  have fin : ∀ t' tk, EP X pins σ Q (.str (repS a k) t') { s with toks := tk } := fun t' tk => ⟨.str (repS a k), H, I.tok _, ⟨_, rfl⟩, q⟩
  have p30 : (2 : Int) ^ 30 < 2 ^ 63 := by decide
  refine P.mul_str ?_ ?_ ?_ ?_
  · have a1 : ¬ k < -(2 ^ 63 : Int) := by omega
    have a2 : ¬ k ≥ (2 ^ 63 : Int) := by omega
    rw [decide_eq_false a1, decide_eq_false a2]
    rfl
  · intro k1 _ z
    have k0 : 0 < k := by omega
    have e : ((a.length * k.toNat : Nat) : Int) ≤ (sizeLine : Nat) := by exact_mod_cast h3
    have e2 : ((a.length * k.toNat : Nat) : Int) = (a.length : Int) * k := by
      rw [Int.natCast_mul, Int.toNat_of_nonneg (by omega)]
    have e3 : (sizeLine : Int) = ((sizeLine : Nat) : Int) := rfl
    have e4 : ((sizeLine : Nat) : Int) ≤ 2 ^ 63 - 1 := by decide
    have e5 : (a.length : Int) ≤ (2 ^ 63 - 1) / k := by
      rw [Int.le_ediv_iff_mul_le k0]
      omega
    omega
  · intro _ _
    have : ¬ (a.length * k.toNat > sizeLine) := by omega
    exact decide_eq_false this
  · by_cases k1 : k < 1
    · rw [if_pos k1]
      have e : repS a k = Str.empty := by
        have : k.toNat = 0 := by omega
        unfold repS
        rw [this]
        rfl
      refine ⟨by decide, ?_⟩
      rw [← e]
      exact fin _ _
    · rw [if_neg k1]
      by_cases k2 : (k == 1 || a.length == 0) = true
      · rw [if_pos k2]
        have e : repS a k = a := by
          rcases Bool.or_eq_true _ _ ▸ k2 with z | z
          · have : k = 1 := by simpa using z
            subst this
            unfold repS
            simp
          · have z : a.cps.size = 0 := by
              have : a.length = 0 := by simpa using z
              exact this
            have z2 : a.cps = #[] := Array.eq_empty_of_size_eq_zero z
            unfold repS
            rw [z2]
            have : ∀ n : Nat, (List.replicate n (#[] : Array Nat)).foldl (· ++ ·) #[] = #[] := fun n => by
              induction n with
              | zero => rfl
              | succ n ih => rw [List.replicate_succ, List.foldl_cons]; exact ih
            rw [this]
            cases a
            simp only at z2
            rw [z2]
        have w := fin t s.toks
        rw [e] at w
        exact w
      · rw [if_neg k2]
        refine ⟨?_, fin _ _⟩
        show (repS a k).cps.size ≤ sizeLine
        have : ∀ (n : Nat) (b : Array Nat), ((List.replicate n a.cps).foldl (· ++ ·) b).size = b.size + a.length * n := fun n => by
          induction n with
          | zero => intro b; simp
          | succ n ih =>
            intro b
            rw [List.replicate_succ, List.foldl_cons, ih, Array.size_append]
            show b.size + a.length + a.length * n = _
            rw [Nat.mul_succ]
            omega
        unfold repS
        rw [this]
        simpa using h3
theorem snd_repS : Snd2 c rRepS repT := by
  intro E m S H Q x y v w s rx ry q
  unfold repT at q
  split at q
  · obtain ⟨⟨h1, h2, h3⟩, q⟩ := po_if q
    exact ⟨_, _, rd_str rx, rd_int ry, h1, h2, h3, q m H _ (Nxt.refl s) mk_str⟩
  · exact q.elim
/-- int * int, list * int, text * int -/
def dMulS : D → D → SM D := orF dMul repT
theorem op_mulS : OpR X (binaryOp .Mult) (fun x y H Q => rMulA x y H Q ∨ rRepS x y H Q) := OpR.or op_mulA op_repS
theorem snd_mulS : Snd2 c (fun x y H Q => rMulA x y H Q ∨ rRepS x y H Q) dMulS := snd_or snd_mul snd_repS
/-! ### dict(..) -/
def pairsD : List D → Option (List (Key × D))
  | [] => some []
  | .tup [k, v] :: r => (match keyD k, pairsD r with
    | some a, some l => some ((a, v) :: l)
    | _, _ => none)
  | .ktp [k, v] :: r => (match keyD k, pairsD r with
    | some a, some l => some ((a, v) :: l)
    | _, _ => none)
  | _ => none
theorem pairsD_of {n : Nat} : ∀ {xs : List D} {l : List (Key × D)} {vs : List V}, pairsD xs = some l → RelDs c m n H xs vs → ∃ (ps : List Addr) (kvs : List (Key × V)), vs = ps.map V.ref ∧ Paired (fun p kv => SqT c.K H p [kV kv.1, kv.2]) ps kvs ∧ RelK c m n H l kvs
  | [], l, vs, e, r => by
    cases e
    rw [rd_nil r]
    exact ⟨[], [], rfl, .nil, mkk_nil⟩
  | x :: xs, l, vs, e, r => by
    obtain ⟨v, w, rfl, r1, r2⟩ := rd_cons r
    unfold pairsD at e
    split at e
    · rename_i h; cases h
    · rename_i k0 v0 r0 h
      cases h
      split at e
      · rename_i a l2 ea el
        cases e
        obtain ⟨ps, kvs, rfl, h1, h2⟩ := pairsD_of el r2
        obtain ⟨p, ws, rfl, hh, r3⟩ := rd_tup r1
        obtain ⟨x1, t1, rfl, s1, s2⟩ := rd_cons r3
        obtain ⟨x2, t2, rfl, s3, s4⟩ := rd_cons s2
        rw [rd_nil s4, key_of s1 ea] at hh
        exact ⟨p :: ps, (a, x2) :: kvs, rfl, .cons (.inl (.inl hh)) h1, mkk_cons (p := (a, v0)) s3 h2⟩
      · cases e
    · rename_i k0 v0 r0 h
      cases h
      split at e
      · rename_i a l2 ea el
        cases e
        obtain ⟨ps, kvs, rfl, h1, h2⟩ := pairsD_of el r2
        obtain ⟨p, ws, rfl, hh, r3⟩ := rd_ktp r1
        obtain ⟨x1, t1, rfl, s1, s2⟩ := rd_cons r3
        obtain ⟨x2, t2, rfl, s3, s4⟩ := rd_cons s2
        rw [rd_nil s4, key_of s1 ea] at hh
        exact ⟨p :: ps, (a, x2) :: kvs, rfl, .cons hh.sq h1, mkk_cons (p := (a, v0)) s3 h2⟩
      · cases e
    · cases e
abbrev rDictL (K : PySem.W.Frag) : List V → Hp → VK → Prop := fun xs H Q => ∃ (a : Addr) (ps : List Addr) (kvs : List (Key × V)), xs = [.ref a] ∧ SqL K H a (ps.map V.ref) ∧ Paired (fun p kv => SqT K H p [kV kv.1, kv.2]) ps kvs ∧ ∀ p, H p = none → Q (.ref p) (upd H p (.dK (mergeK [] kvs)))
abbrev rDictD : List V → Hp → VK → Prop := fun xs H Q => ∃ (a : Addr) (kvs : List (Key × V)), xs = [.ref a] ∧ Rd H a (.dK kvs) ∧ ∀ p, H p = none → Q (.ref p) (upd H p (.dK kvs))
abbrev rDictA (K : PySem.W.Frag) : List V → Hp → VK → Prop := fun xs H Q => rDictL K xs H Q ∨ rDictD xs H Q
theorem call_dictA (hcalm : X.calm = true) : CallR X (.type "dict") (rDictA X.K) := CallR.or (call_dictP hcalm) call_dictD
def fDict : List D → SM D := fun l S => match l with
  | [.fro xs] => (match pairsD xs with
    | some ks => .ok (.adr S.n) (S.alloc (.dic (mergeD [] ks)))
    | none => .bad)
  | [.adr i] => (match S.f i with
    | some (.lst xs) => (match pairsD xs with
      | some ks => .ok (.adr S.n) (S.alloc (.dic (mergeD [] ks)))
      | none => .bad)
    | some (.dic l) => .ok (.adr S.n) (S.alloc (.dic l))
    | _ => .bad)
  | _ => .bad
theorem snd_dict : SndA c (rDictA c.K) fDict := by
  intro E m S H Q l vs s r q
  unfold fDict at q
  split at q
  · obtain ⟨v, rfl, h⟩ := one_of r
    obtain ⟨a, vs, rfl, hh, rs⟩ := rd_fro h
    split at q
    · rename_i ks ek
      obtain ⟨ps, kvs, rfl, h1, h2⟩ := pairsD_of ek rs
      exact .inl ⟨a, ps, kvs, rfl, hh.sq, h1, giveO (x := .dic _) s ⟨_, rfl, RelK.merge h2 mkk_nil⟩ q⟩
    · exact q.elim
  · obtain ⟨v, rfl, h⟩ := one_of r
    obtain ⟨rfl, hi⟩ := rd_adr h
    split at q
    · rename_i xs el
      obtain ⟨vs, hh, rs⟩ := s.lst el
      split at q
      · rename_i ks ek
        obtain ⟨ps, kvs, rfl, h1, h2⟩ := pairsD_of ek rs
        exact .inl ⟨_, ps, kvs, rfl, .inl (.inl hh), h1, giveO (x := .dic _) s ⟨_, rfl, RelK.merge h2 mkk_nil⟩ q⟩
      · exact q.elim
    · rename_i xs el
      obtain ⟨vs, hh, rs⟩ := s.dic el
      exact .inr ⟨_, vs, rfl, .inl hh, giveO (x := .dic _) s ⟨_, rfl, rs⟩ q⟩
    · exact q.elim
  · exact q.elim
/-! ### sorted keys -/
def insI (i : Int) : List Int → List Int
  | [] => [i]
  | j :: l => if i ≤ j then i :: j :: l else j :: insI i l
def srtI : List Int → List Int
  | [] => []
  | i :: l => insI i (srtI l)
theorem insI_perm (i : Int) : ∀ l, (insI i l).Perm (i :: l)
  | [] => List.Perm.refl _
  | j :: l => by
    unfold insI
    split
    · exact List.Perm.refl _
    · exact ((insI_perm i l).cons j).trans (List.Perm.swap i j l)
theorem srtI_perm : ∀ l, (srtI l).Perm l
  | [] => List.Perm.refl _
  | i :: l => (insI_perm i _).trans ((srtI_perm l).cons i)
theorem insI_sorted (i : Int) : ∀ {l}, List.Pairwise (· ≤ ·) l → List.Pairwise (· ≤ ·) (insI i l)
  | [], _ => List.pairwise_singleton _ _
  | j :: l, h => by
    obtain ⟨h1, h2⟩ := List.pairwise_cons.mp h
    unfold insI
    split
    · rename_i hij
      exact List.pairwise_cons.mpr ⟨fun k hk => by
        rcases List.mem_cons.mp hk with rfl | hk
        · exact hij
        · exact Int.le_trans hij (h1 k hk), h⟩
    · rename_i hij
      refine List.pairwise_cons.mpr ⟨fun k hk => ?_, insI_sorted i h2⟩
      rcases List.mem_cons.mp ((insI_perm i l).mem_iff.mp hk) with rfl | hk
      · omega
      · exact h1 k hk
theorem srtI_sorted : ∀ l, List.Pairwise (· ≤ ·) (srtI l)
  | [] => List.Pairwise.nil
  | i :: l => insI_sorted i (srtI_sorted l)
theorem sorted_eq : ∀ {l k : List Int}, l.Perm k → List.Pairwise (· ≤ ·) l → List.Pairwise (· ≤ ·) k → l = k
  | [], k, p, _, _ => (List.nil_perm.mp p).symm
  | i :: l, [], p, _, _ => absurd p.length_eq (by simp)
  | i :: l, j :: k, p, h, h' => by
    obtain ⟨a1, a2⟩ := List.pairwise_cons.mp h
    obtain ⟨b1, b2⟩ := List.pairwise_cons.mp h'
    have e : i = j := by
      have x : i ∈ j :: k := p.mem_iff.mp List.mem_cons_self
      have y : j ∈ i :: l := p.mem_iff.mpr List.mem_cons_self
      rcases List.mem_cons.mp x with x | x
      · exact x
      · rcases List.mem_cons.mp y with y | y
        · exact y.symm
        · have := a1 j y
          have := b1 i x
          omega
    subst e
    rw [sorted_eq (List.Perm.cons_inv p) a2 b2]
def intKeys : List (Key × D) → Option (List Int)
  | [] => some []
  | (.inl i, _) :: r => (intKeys r).map (i :: ·)
  | _ => none
theorem intKeys_of {n : Nat} : ∀ {l : List (Key × D)} {ks : List Int} {kvs : List (Key × V)}, intKeys l = some ks → RelK c m n H l kvs → kvs.map (·.1) = ks.map Sum.inl
  | [], ks, kvs, e, r => by
    cases e
    rw [rk_nil r]
    rfl
  | p :: l, ks, kvs, e, r => by
    obtain ⟨v, t, rfl, r1, r2⟩ := rk_cons r
    unfold intKeys at e
    split at e
    · rename_i h; cases h
    · rename_i i d r0 h
      cases h
      obtain ⟨ks', e1, rfl⟩ := Option.map_eq_some_iff.mp e
      rw [List.map_cons, List.map_cons, intKeys_of e1 r2]
    · cases e
def fSortD : List D → SM D := fun l S => match l with
  | [.adr i] => (match S.f i with
    | some (.dic l) => (match intKeys l with
      | some ks => if ks.length < 64 then .ok (.adr S.n) (S.alloc (.lst ((srtI ks).map .int))) else .bad
      | none => .bad)
    | _ => .bad)
  | _ => .bad
theorem snd_sortD : SndA c (fun xs H Q => ∃ (a : Addr) (kvs : List (Key × V)) (ks : List Int), xs = [.ref a] ∧ Rd H a (.dK kvs) ∧ kvs.map (·.1) = ks.map Sum.inl ∧ ks.length < 64 ∧
    ∀ (ys : List Int) (p : Addr), ys.Perm ks → ys.Pairwise (· ≤ ·) → H p = none → Q (.ref p) (upd H p (.lst (ys.map V.int)))) fSortD := by
  intro E m S H Q l vs s r q
  unfold fSortD at q
  split at q
  · obtain ⟨v, rfl, h⟩ := one_of r
    obtain ⟨rfl, hi⟩ := rd_adr h
    split at q
    · rename_i xs el
      obtain ⟨vs, hh, rs⟩ := s.dic el
      split at q
      · rename_i ks ek
        obtain ⟨hz, q⟩ := po_if q
        refine ⟨_, vs, ks, rfl, .inl hh, intKeys_of ek rs, hz, fun ys p py sy hp => ?_⟩
        rw [sorted_eq (py.trans (srtI_perm ks).symm) sy (srtI_sorted ks)]
        exact giveO (x := .lst ((srtI ks).map .int)) s ⟨_, rfl, rel_ints _⟩ q p hp
      · exact q.elim
    · exact q.elim
  · exact q.elim
end
/-! ### {k: v for ..} -/
def dcG (sr : Src) (t : Tg) (mt : MT) (mk mv : ME) (g0 : Gm) (D0 : Nat) : Nat → Nat → SM Unit
  | 0, i => fun S => match sr.nxt i S with
    | some none => .ok () S
    | _ => .bad
  | r + 1, i => fun S => match sr.nxt i S with
    | some none => .ok () S
    | some (some d) => (match t.put d g0 with
      | none => .bad
      | some g => (match mt g S with
        | .ok false S1 => dcG sr t mt mk mv g0 D0 r (i + 1) S1
        | .ok true S1 => (match mk g S1 with
          | .ok kd S2 => (match mv g S2 with
            | .ok y S3 => (match S3.f D0, keyD kd with
              | some (.dic acc), some k => if acc.length < sizeLine then dcG sr t mt mk mv g0 D0 r (i + 1) (S3.put D0 (.dic (putD acc k y))) else .bad
              | _, _ => .bad)
            | _ => .bad)
          | _ => .bad)
        | _ => .bad))
    | none => .bad
def mDc (src : MI) (t : Tg) (mt : MT) (mk mv : ME) (vs : List Nat) : ME := fun g => SM.bind (src g) fun sr S1 => SM.bind (dcG sr t mt mk mv (wipeD g vs) S1.n sr.n 0) (fun _ S' => .ok (.adr S1.n) S') (S1.alloc (.dic []))
section
variable {X : Cx} {c : Ct} {E : XK} {m : Nat → Addr} {S : Sr} {H : Hp} {g : Gm} {σ : L2.St}
theorem dc_of {mi : MI} {t : Tg} {mt : MT} {mk mv : ME} {vs : List Nat} (ht : ∀ i ∈ t.ix, i ∈ vs) (σ : L2.St) (H : Hp) (Q : VK) (h : rdE c E (mDc mi t mt mk mv vs) σ H Q) :
    tDc (rdI c E mi) (gTg c.K t) (rdT c noX mt) (rdE c noX mk) (rdE c noX mv) vs σ H Q := by
  obtain ⟨m, S, g, s, rg, q⟩ := h
  refine ⟨m, S, g, s, rg, ?_⟩
  unfold mDc SM.bind at q
  cases e : mi g S with
  | exc p S1 => rw [e] at q; exact q
  | bad => rw [e] at q; exact q.elim
  | ok sr S1 =>
    rw [e] at q
    intro m1 H1 J a io DD hD
    have al := Nxt.alloc (x := .dic []) (o := .dK []) a.sim hD ⟨[], rfl, mkk_nil⟩
    have n0 := a.trans s al
    have q1 := PoE.go s n0 q
    have gm : ext m1 S1.n DD S1.n = DD := ext_same
    let PP : Nat → Nat → Hp → Prop := fun i k H => ∃ m S, Nxt c (ext m1 S1.n DD) (S1.alloc (.dic [])) (upd H1 DD (.dK [])) m S H ∧ PoE c E m S H Q (SM.bind (dcG sr t mt mk mv (wipeD g vs) S1.n k i) (fun _ S' => .ok (.adr S1.n) S') S)
    refine ⟨fun i k H => PP i k H, ⟨sr.n, _, _, Nxt.refl al.sim, q1⟩, ?_⟩
    rintro i k H2 ⟨m2, S2, n2, q2⟩
    have hm2 : m2 S1.n = DD := by rw [n2.mu S1.n (Nat.lt_succ_self _), gm]
    have hlt2 : S1.n < S2.n := Nat.lt_of_lt_of_le (Nat.lt_succ_self _) n2.le
    cases hn : sr.nxt i S2 with
    | none => cases k <;> (unfold SM.bind dcG at q2; rw [hn] at q2; exact q2.elim)
    | some o =>
      have nn := al.trans a.sim n2
      cases o with
      | none =>
        refine .inl ⟨io.stop i m2 S2 H2 nn hn, ?_⟩
        cases k <;> (unfold SM.bind dcG at q2; rw [hn] at q2; refine q2 m2 H2 _ (Nxt.refl n2.sim) ?_; rw [← hm2]; exact mk_adr hlt2)
      | some d =>
        cases k with
        | zero => unfold SM.bind dcG at q2; rw [hn] at q2; exact q2.elim
        | succ k =>
          unfold SM.bind dcG at q2
          rw [hn] at q2
          dsimp only at q2
          obtain ⟨h1, h2⟩ := io.go i m2 S2 H2 d nn hn
          refine .inr ⟨h1, fun H' => PP (i + 1) k H', fun H' w => ⟨k, Nat.lt_succ_self k, w⟩, fun x H3 y => ?_⟩
          obtain ⟨n3, r3⟩ := h2 x H3 y
          have n23 := n2.trans al.sim n3
          have rg3 : RelG c m2 S2.n H3 (wipeD g vs) (L2.wipe σ vs) := n23.relG (al.relG ((a.relG rg).wipe vs))
          have q3 := PoE.go n2.sim n3 q2
          cases ep : t.put d (wipeD g vs) with
          | none => rw [ep] at q3; exact q3.elim
          | some g4 =>
            rw [ep] at q3
            dsimp only at q3
            have core : ∀ σ4 : L2.St, RelG c m2 S2.n H3 g4 σ4 → rdT c noX mt σ4 H3 fun b H4 => if b = true then rdE c noX mk σ4 H4 fun yk H5 => rdE c noX mv σ4 H5 fun z H6 => ∃ kvs k2, yk = kV k2 ∧ H6 DD = some (.dK kvs) ∧ kvs.length < sizeLine ∧ PP (i + 1) k (upd H6 DD (.dK (putK kvs k2 z))) else PP (i + 1) k H4 := by
              intro σ4 rg4
              refine ⟨m2, S2, g4, n3.sim, rg4, ?_⟩
              cases et : mt g4 S2 with
              | exc p S3 => rw [et] at q3; exact q3.elim
              | bad => rw [et] at q3; exact q3.elim
              | ok b S3 =>
                rw [et] at q3
                intro m3 H4 n4
                have q4 := PoE.go n3.sim n4 q3
                have n24 := n23.trans al.sim n4
                cases b with
                | false => exact ⟨m3, S3, n24, q4⟩
                | true =>
                  rw [if_pos rfl]
                  dsimp only at q4
                  refine ⟨m3, S3, g4, n4.sim, n4.relG rg4, ?_⟩
                  cases ee : mk g4 S3 with
                  | exc p S4 => rw [ee] at q4; exact q4.elim
                  | bad => rw [ee] at q4; exact q4.elim
                  | ok kd S4 =>
                    rw [ee] at q4
                    dsimp only at q4
                    intro m5 H5 kv n5 rk
                    have q5 := PoE.go n4.sim n5 q4
                    refine ⟨m5, S4, g4, n5.sim, n5.relG (n4.relG rg4), ?_⟩
                    cases ev : mv g4 S4 with
                    | exc p S5 => rw [ev] at q5; exact q5.elim
                    | bad => rw [ev] at q5; exact q5.elim
                    | ok yd S5 =>
                      rw [ev] at q5
                      dsimp only at q5
                      intro m6 H6 yv n6 ry
                      have q6 := PoE.go n5.sim n6 q5
                      have n26 := (n24.trans al.sim n5).trans al.sim n6
                      have hm6 : m6 S1.n = DD := by rw [n26.mu S1.n (Nat.lt_succ_self _), gm]
                      cases ek : keyD kd with
                      | none =>
                        rw [ek] at q6
                        cases ea : S5.f S1.n with
                        | none => rw [ea] at q6; exact q6.elim
                        | some mo => rw [ea] at q6; cases mo <;> exact q6.elim
                      | some k2 =>
                        rw [ek] at q6
                        cases ea : S5.f S1.n with
                        | none => rw [ea] at q6; exact q6.elim
                        | some mo =>
                          rw [ea] at q6
                          cases mo <;> first | exact (show False from q6).elim | skip
                          rename_i acc
                          dsimp only at q6
                          by_cases hz : acc.length < sizeLine
                          · rw [if_pos hz] at q6
                            obtain ⟨vs', hh, rs⟩ := n6.sim.dic ea
                            rw [hm6] at hh
                            have pu := Nxt.put (x := .dic (putD acc k2 yd)) (o := .dK (putK vs' k2 yv)) n6.sim ea ⟨_, rfl, RelK.put k2 ry rs⟩
                            rw [hm6] at pu
                            exact ⟨vs', k2, key_of rk ek, hh, by rw [← rs.length]; exact hz, m6, _, n26.trans al.sim pu, PoE.go n6.sim pu q6⟩
                          · rw [if_neg hz] at q6
                            exact q6.elim
            cases t with
            | nm j =>
              cases ep
              exact ⟨by rw [wipe_set _ (ht j (List.mem_singleton.mpr rfl))]; exact wipe_idem σ vs vs fun _ h => h, core _ (rg3.set j r3)⟩
            | tp is =>
              cases d with
              | tup l =>
                dsimp only [Tg.put] at ep
                split at ep
                · rename_i hl
                  cases ep
                  obtain ⟨p, ws, rfl, hh, rs⟩ := rd_tup r3
                  exact ⟨p, ws, rfl, .inl (.inl hh), by rw [← rs.length]; exact hl, by rw [wipe_sets (is := is) ht]; exact wipe_idem σ vs vs fun _ h => h, core _ (rg3.sets rs)⟩
                · cases ep
              | ktp l =>
                dsimp only [Tg.put] at ep
                split at ep
                · rename_i hl
                  cases ep
                  obtain ⟨p, ws, rfl, hh, rs⟩ := rd_ktp r3
                  exact ⟨p, ws, rfl, hh.sq, by rw [← rs.length]; exact hl, by rw [wipe_sets (is := is) ht]; exact wipe_idem σ vs vs fun _ h => h, core _ (rg3.sets rs)⟩
                · cases ep
              | _ => cases ep
abbrev BlkN (X : Cx) (scope : Scope) (R : Cx → Prop) : Prop := ∀ (s : Shared) (H : Hp) (C : Addr) (cl : List (Str × Addr)) (fp : List Addr), R (X.blk s H scope (compEnvC scope cl C X.env) fp)
theorem qe_dc {kx vx tg iter : Expr} {ifs : List Expr} {scope : Scope} {own : List (Str × Nat)} {pos : Pos} {mi : MI} {t : Tg} {mt : MT} {mk mv : ME} (hK : X.K = c.K) (hc : X.calm = true) (hN : X.N.Nodup) (hi : PI X tg iter (rdI c E mi)) (ok : BlkOk X.N X.env.scope scope own)
    (hg : BlkN X scope fun BX => PG BX tg (gTg X.K t)) (ht : BlkN X scope fun BX => PTs BX ifs (rdT c noX mt)) (hk : BlkN X scope fun BX => PE BX kx (rdE c noX mk)) (he : BlkN X scope fun BX => PE BX vx (rdE c noX mv))
    (hv : ∀ i ∈ t.ix, i ∈ own.map (·.2) := by decide) (hs : ∀ x, foldedSetIterable iter X.env x = pure x := by intro _; rfl) :
    PE X (.DictComp kx vx [⟨tg, iter, ifs, 0⟩] scope pos) (rdE c E (mDc mi t mt mk mv (own.map (·.2)))) :=
  PE.imp (pe_dc hc hN hi ok hg ht hk he hs) fun σ H Q h => by
    rw [hK]
    exact dc_of hv σ H Q h
theorem sw_dc {kx vx : Expr} {gs : List Comprehension} {scope : Scope} {pos py : Pos} {y : Str} {l : Nat} {env : Env} (hk : env.scope.kind = .function) (hy : env.scope.names.lookup y = some .local) (hl : (py.line == pos.line) = true)
    (ha : (scope.names.any fun (n, k) => n == y && (k == .local || k == .cell)) = false) : swapsWith (.DictComp kx vx gs scope pos) (some (.Name y py)) l env = pure true := by
  have k1 : env.kindOf y = some .local := hy
  have k2 : env.blockKind = .function := by unfold Env.blockKind; rw [hk]; rfl
  unfold swapsWith
  simp only [k2, k1, ha, Expr.pos, hl]
  rfl
theorem qs_setDc {i : Nat} {y : Str} {py : Pos} {kx vx tg iter : Expr} {ifs : List Expr} {scope : Scope} {own : List (Str × Nat)} {pos spos : Pos} {mi : MI} {t : Tg} {mt : MT} {mk mv : ME} (hK : X.K = c.K) (hc : X.calm = true) (hN : X.N.Nodup) (hy : X.N[i]? = some y) (hyl : X.env.scope.names.lookup y = some .local)
    (hsw : swapsWith (.DictComp kx vx [⟨tg, iter, ifs, 0⟩] scope pos) (some (.Name y py)) spos.line X.env = pure true) (hi : PI X tg iter (rdI c E mi)) (ok : BlkOk X.N X.env.scope scope own)
    (hg : BlkN X scope fun BX => PG BX tg (gTg X.K t)) (ht : BlkN X scope fun BX => PTs BX ifs (rdT c noX mt)) (hk : BlkN X scope fun BX => PE BX kx (rdE c noX mk)) (he : BlkN X scope fun BX => PE BX vx (rdE c noX mv))
    (hv : ∀ i ∈ t.ix, i ∈ own.map (·.2) := by decide) (hs : ∀ x, foldedSetIterable iter X.env x = pure x := by intro _; rfl) :
    PS X (.Assign [.Name y py] (.DictComp kx vx [⟨tg, iter, ifs, 0⟩] scope pos) spos) (rdS c E (mSet i (mDc mi t mt mk mv (own.map (·.2))))) := by
  refine ⟨fun pz s σ H D I ⟨m, S, g, si, rg, q⟩ => ?_⟩
  have z : rdE c E (mDc mi t mt mk mv (own.map (·.2))) σ H fun v H1 => D.nx (σ.set i (some v)) H1 := by
    refine seqSE si rg q fun m1 S1 H1 d v a r q1 => q1 m1 H1 _ (Nxt.refl a.sim) ((a.relG rg).set i r)
  have h := dc_of hv σ H _ z
  rw [← hK] at h
  rw [exec_Assign_Name_used _ _ _ _ hsw]
  refine wpAny_bind (wpAny_standAt (wpAny_bind ?_))
  show wpAny _ X.A (do let _ ← comprehension (.DictComp kx vx [⟨tg, iter, ifs, 0⟩] scope pos) scope X.env (firstIterPos [⟨tg, iter, ifs, 0⟩] pos) newDict false (eval iter X.env) (some (assign (.Name y py) X.env))) _ _ s
  refine wpAny_bind (thn (dc_core (Qf := fun _ s' => SP X pz D .next s') hc hN I hi ok hg ht hk he hs h fun L C s' mm H' I' q hn f => ?_) fun _ s' hq => wpAny_pure (wpAny_pure hq))
  show wpAny _ _ (assign (.Name y py) X.env (.ref L)) _ _ _
  refine wpAny_assign_Name (store_ok2 (v := V.ref L) I' hN hy (.inl hyl) rfl (fun s2 I2 ⟨a, sb, ha⟩ => ?_) (.inr hyl))
  obtain ⟨f0, f1, f2, f3, f4, f5⟩ := f
  have apart : C ≠ a := by
    rcases ha with k | k
    · rw [k]
      exact f1
    · exact fun e => f4 y a k e.symm
  exact ⟨mm, hn.sameBut sb apart, fun h3 sb3 => ⟨_, H', I2.turned (t' := s2.toks) (fun b o hb e => (sb3.2 b hb).trans e) f0 f1 f3 f4 f5, q⟩⟩
end
/-! ### told with one clause -/
section
variable {X : Cx}
theorem told1_gives {Ng : List Str} {x a e q ret : Str} {sg : Scope} {g CS : Addr} {cdg : Value} {j : Nat} {p1 p2 p3 p4 p5 p6 p7 p8 : Pos} (hge : sg.names.lookup e = some .globalImplicit) (hme : X.mg e = some (.ref CS)) (hde : (e == ("__debug__" : Str)) = false)
    (h0 : ∀ f : Addr, (L2.start Ng [V.ref f])[0]? = some (some (V.ref f))) :
    LamX.GivesTo X Ng x sg g cdg [.Try [.Return (some (.Call (.Name a p1) [] [] p2)) p3] [.ExceptHandler (some (.Name e p4)) none [.Return (some (.Constant (.str ret) j p5)) p6] p7] [] [] p8] a q (TToldM X.K [(CS, ret)]) := by
  intro f c' s H Q tl act hc h
  obtain ⟨t, ht, hq⟩ := LamX.told_gives (Ng := Ng) (x := x) (sg := sg) (g := g) (cdg := cdg) (p1 := p1) (p2 := p2) (p3 := p3) (p4 := p4) (p5 := p5) (p6 := p6) (p7 := p7) (p8 := p8) (j := j) (ret := ret) hge hme hde h0 f c' s H Q (fun E' H' Q' => tl (fun cls d H'' => E' cls d H'') H' Q') act hc (by
    show LamX.TTold X.K CS ret tl H Q
    exact h)
  exact ⟨t, ht, hq⟩
end
theorem told1_of {P : Program} {w : World} {K : PySem.W.Frag} {mg : Str → Option Value} {base : Heap} {c : Ct} {x a e ret : Str} {params : Arguments} {scope : Scope} {f : Addr} {fd : FuncData} {j : Nat} {p1 p2 p3 p4 p5 p6 p7 p8 : Pos} {sub : Str → Str → Bool} {qs : List Str} {Ng : List Str}
    (F : FunD K x x params [.Try [.Return (some (.Call (.Name a p1) [] [] p2)) p3] [.ExceptHandler (some (.Name e p4)) none [.Return (some (.Constant (.str ret) j p5)) p6] p7] [] [] p8] scope [] [] f fd)
    (hm : mg x = some (.ref f)) (b : Binds K fd [a] []) (S : FnScope Ng [a] scope) (h0 : Ng[0]? = some a) (hv : Vis scope a) (ha : (a == ("__debug__" : Str)) = false) (ha2 : (a == ("__classdict__" : Str)) = false)
    (hge : scope.names.lookup e = some .globalImplicit) (hme : mg e = some (.ref (c.cls e))) (hde : (e == ("__debug__" : Str)) = false)
    (hs : ∀ f : Addr, (L2.start Ng [V.ref f])[0]? = some (some (V.ref f))) (ex : ExmOk K c sub qs [(e, ret)]) : Told P w K mg base c x sub qs [(e, ret)] := by
  refine ⟨fun X q h1 h2 h3 h4 h5 => ?_, ex⟩
  subst h1 h2 h3 h4 h5
  obtain ⟨oc, od, dV, kV, doc, pm, an, cdv, ct, osl, rfl, lk, hcd, _, _⟩ := F.ex
  exact ⟨a, f, params, _, scope, dV, kV, doc, pm, cdv, ct, oc, an, od, osl, Ng, hm, F.kp, lk, hcd, b, S, h0, hv, told1_gives hge hme hde hs, ha, ha2⟩
end Y

set_option Elab.async false
set_option linter.all false
set_option maxRecDepth 100000
set_option maxHeartbeats 2000000
/-! Y21: small things for the generator. -/
namespace Y
open PySem PySem.Spec PyProof.Rows L2
def notInS (a : Str) : Nat → Bool := fun n => (Builtin.Str.occurrences a ⟨#[n]⟩ 0 a.length 1).isEmpty
/-- a generator's scope that captures nothing -/
def genSB (scope : Scope) (x : Str) : Bool :=
  decide (scope.kind = .function) && (!scope.isCoroutine && (scope.names.all (fun y => !decide (y.2 = .cell) && !decide (y.2 = .free)) && (decide (scope.names.lookup (".0" : Str) = some NameKind.local) && decide (scope.names.lookup x = some NameKind.local))))
theorem genS_by {env : Env} {scope : Scope} {x : Str} (h : genSB scope x = true) : GxR.GenS env scope x := by
  unfold genSB at h
  simp only [Bool.and_eq_true, Bool.not_eq_true', decide_eq_true_eq, decide_eq_false_iff_not, List.all_eq_true] at h
  obtain ⟨h1, h2, h3, h4, h5⟩ := h
  exact ⟨h1, h2, fun y hy => (h3 y hy).1, h4, h5, fun y hy e => absurd e (h3 y hy).2⟩
/-- a lambda's names within a comprehension's block -/
theorem lamS_blk {sc scope D : Scope} {cl : List (Str × Addr)} {C : Addr} {env : Env} (e : env.scope = D) (h : LamX.lamSB (relS sc D) scope = true) : LamX.LamS (compEnvC sc cl C env).scope scope := by
  subst e
  exact LamX.lamS_by h
section
variable {P : Program} {w : World} {K : PySem.W.Frag} {mg : Str → Option Value} {base : Heap} {N : List Str} {qual : Str} {scope : Scope} {f : Addr} {cdv : Value} {A : Around} {outer : List Env} {s : Shared} {H : Hp} {E : XK} {pn : List (Addr × Obj)}
theorem flTr : Fl (cxTr P w K mg base N qual scope f cdv A outer s H E pn) E := fl_of rfl rfl takesTr
end
theorem flL {X : Cx} {A : Around} {outer : List Env} {s : Shared} {H : Hp} {E : XK} {scope : Scope} {f c' : Addr} : Fl (LamX.lamCx X A outer s H E scope f c') E := fl_of rfl rfl (takes_of rfl rfl rfl rfl)
theorem tabs_starts {H : Hp} {T : List (Addr × Str)} (h : ∀ p ∈ T, H p.1 = some (.tbl #[])) : LamX.Tabs T H := fun p hp => LamX.TabS.nil (h p hp)
end Y
namespace Y
open PySem
theorem ne_dec {a b : Addr} (h : (!decide (a = b)) = true) : a ≠ b := by simpa using h
end Y

set_option Elab.async false
set_option linter.all false
set_option maxRecDepth 100000
set_option maxHeartbeats 2000000
/-! Y22: what is wanted to reckon the mirror out, further. -/
namespace Y
open PySem PySem.Spec PyProof.Rows L2
theorem atI_of {α : Type} {l : List α} {i : Int} {d : α} (h : 0 ≤ i) (e : l[i.toNat]? = some d) : atI l i = some d := by
  have hl := (List.getElem?_eq_some_iff.mp e).1
  unfold atI
  rw [ixN_nat h (by omega)]
  exact e
section
variable {S : Sr} {l : List D} {k : Int} {d : D} {i : Nat}
theorem ixT (h : 0 ≤ k) (e : l[k.toNat]? = some d) : dIx (.tup l) (.int k) S = .ok d S := by
  have a := atI_of h e
  simp [dIx, orF, ixSeq, itemsD, a]
theorem ixK (h : 0 ≤ k) (e : l[k.toNat]? = some d) : dIx (.ktp l) (.int k) S = .ok d S := by
  have a := atI_of h e
  simp [dIx, orF, ixSeq, itemsD, a]
theorem ixL (hs : S.f i = some (.lst l)) (h : 0 ≤ k) (e : l[k.toNat]? = some d) : dIx (.adr i) (.int k) S = .ok d S := by
  have a := atI_of h e
  simp [dIx, orF, ixSeq, itemsD, a, hs]
theorem ixT0 {a : D} : dIx (.tup (a :: l)) (.int 0) S = .ok a S := ixT (by decide) rfl
theorem ixT1 {a b : D} : dIx (.tup (a :: b :: l)) (.int 1) S = .ok b S := ixT (by decide) rfl
theorem ixL0 {a : D} (hs : S.f i = some (.lst (a :: l))) : dIx (.adr i) (.int 0) S = .ok a S := ixL hs (by decide) rfl
theorem ixL1 {a b : D} (hs : S.f i = some (.lst (a :: b :: l))) : dIx (.adr i) (.int 1) S = .ok b S := ixL hs (by decide) rfl
end
section
variable {t : MT} {b : MS} {k : Nat} {g g' : Gm} {q : Str} {d : D} {S S1 S2 : Sr}
theorem wl_succ : whileG t b (k + 1) g S = toRST (t g S) fun v S1 => if v = true then (match b g S1 with
      | .nx g' S' => whileG t b k g' S'
      | .ct g' S' => whileG t b k g' S'
      | .bk g' S' => .nx g' S'
      | .rt v S' => .rt v S'
      | .ex q S' => .ex q S'
      | .bad => .bad) else .nx g S1 := rfl
theorem wl_nx (h : t g S = .ok true S1) (hb : b g S1 = .nx g' S2) : whileG t b (k + 1) g S = whileG t b k g' S2 := by
  rw [wl_succ, h]
  simp only [toRST, hb, if_true]
theorem wl_ex (h : t g S = .ok true S1) (hb : b g S1 = .ex q S2) : whileG t b (k + 1) g S = .ex q S2 := by
  rw [wl_succ, h]
  simp only [toRST, hb, if_true]
theorem wl_end (h : t g S = .ok false S1) : whileG t b (k + 1) g S = .nx g S1 := by
  rw [wl_succ, h]
  simp only [toRST, Bool.false_eq_true, if_false]
end
section
variable {a b : MS} {g g' : Gm} {S S' : Sr} {q : Str} {d : D}
theorem sq_nx (h : a g S = .nx g' S') : mSeq a b g S = b g' S' := by unfold mSeq; rw [h]
theorem sq_ex (h : a g S = .ex q S') : mSeq a b g S = .ex q S' := by unfold mSeq; rw [h]
theorem sq_rt (h : a g S = .rt d S') : mSeq a b g S = .rt d S' := by unfold mSeq; rw [h]
end
section
variable {N : Nat} {b : MS} {l : List D} {g : Gm} {S S' : Sr} {q : Str} {d : D}
theorem fn_rt (h : b (l.map some ++ List.replicate (N - l.length) none) S = .rt d S') : mFun N b l S = .ok d S' := by unfold mFun; rw [h]
theorem fn_nx (h : b (l.map some ++ List.replicate (N - l.length) none) S = .nx g S') : mFun N b l S = .ok .non S' := by unfold mFun; rw [h]
theorem fn_ex (h : b (l.map some ++ List.replicate (N - l.length) none) S = .ex q S') : mFun N b l S = .exc q S' := by unfold mFun; rw [h]
end
section
variable {sr : Src} {step : D → MS} {r i n j : Nat} {g g' : Gm} {S S' S1 S2 : Sr} {d y : D} {q : Str} {l acc : List D}
theorem nx_sqa (h : S.f j = some (.lst l)) : (sqa j n).nxt i S = some l[i]? := by
  show (match S.f j with
    | some (.lst l) => some l[i]?
    | _ => none) = _
  rw [h]
theorem fo_nx (h : sr.nxt i S = some (some d)) (e : step d g S = .nx g' S') : forG sr step (r + 1) i g S = forG sr step r (i + 1) g' S' := by
  show (match sr.nxt i S with
    | some none => RS.nx g S
    | some (some d) => (match step d g S with
      | .nx g' S' => forG sr step r (i + 1) g' S'
      | .ct g' S' => forG sr step r (i + 1) g' S'
      | .bk g' S' => .nx g' S'
      | .rt v S' => .rt v S'
      | .ex q S' => .ex q S'
      | .bad => .bad)
    | none => .bad) = _
  rw [h]
  dsimp only
  rw [e]
theorem fo_ex (h : sr.nxt i S = some (some d)) (e : step d g S = .ex q S') : forG sr step (r + 1) i g S = .ex q S' := by
  show (match sr.nxt i S with
    | some none => RS.nx g S
    | some (some d) => (match step d g S with
      | .nx g' S' => forG sr step r (i + 1) g' S'
      | .ct g' S' => forG sr step r (i + 1) g' S'
      | .bk g' S' => .nx g' S'
      | .rt v S' => .rt v S'
      | .ex q S' => .ex q S'
      | .bad => .bad)
    | none => .bad) = _
  rw [h]
  dsimp only
  rw [e]
theorem fo_end (h : sr.nxt i S = some none) : forG sr step 0 i g S = .nx g S := by
  show (match sr.nxt i S with
    | some none => RS.nx g S
    | _ => .bad) = _
  rw [h]
variable {t : Tg} {mt : MT} {me : ME} {g0 : Gm} {D0 : Nat}
theorem lc_nx (h : sr.nxt i S = some (some d)) (ht : t.put d g0 = some g) (e1 : mt g S = .ok true S1) (e2 : me g S1 = .ok y S2) (e3 : S2.f D0 = some (.lst acc)) (hz : acc.length < sizeLine) : lcG sr t mt me g0 D0 (r + 1) i S = lcG sr t mt me g0 D0 r (i + 1) (S2.put D0 (.lst (acc ++ [y]))) := by
  conv => lhs; unfold lcG
  rw [h]
  dsimp only
  rw [ht]
  dsimp only
  rw [e1]
  dsimp only
  rw [e2]
  dsimp only
  rw [e3]
  dsimp only
  rw [if_pos hz]
theorem lc_skip (h : sr.nxt i S = some (some d)) (ht : t.put d g0 = some g) (e1 : mt g S = .ok false S1) : lcG sr t mt me g0 D0 (r + 1) i S = lcG sr t mt me g0 D0 r (i + 1) S1 := by
  conv => lhs; unfold lcG
  rw [h]
  dsimp only
  rw [ht]
  dsimp only
  rw [e1]
theorem lc_exc (h : sr.nxt i S = some (some d)) (ht : t.put d g0 = some g) (e1 : mt g S = .ok true S1) (e2 : me g S1 = .exc q S2) : lcG sr t mt me g0 D0 (r + 1) i S = .exc q S2 := by
  conv => lhs; unfold lcG
  rw [h]
  dsimp only
  rw [ht]
  dsimp only
  rw [e1]
  dsimp only
  rw [e2]
theorem lc_end (h : sr.nxt i S = some none) : lcG sr t mt me g0 D0 0 i S = .ok () S := by
  unfold lcG
  rw [h]
theorem put_same {x : MO} (h : S.f j = some x) : S.put j x = S := by
  unfold Sr.put
  have e : (fun k => if k = j then some x else S.f k) = S.f := by
    funext k
    by_cases hk : k = j
    · rw [if_pos hk, hk, h]
    · rw [if_neg hk]
  rw [e]
theorem mFor_of {src : MI} {t : MG} {b : MS} (h : src g S = .ok sr S1) : mFor src t b g S = forG sr (mStep t b) sr.n 0 g S1 := by
  unfold mFor
  rw [h]
theorem mLc_exc {src : MI} {vs : List Nat} (h : src g S = .ok sr S1) (hl : lcG sr t mt me (wipeD g vs) S1.n sr.n 0 (S1.alloc (.lst [])) = .exc q S2) : mLc src t mt me vs g S = .exc q S2 := by
  unfold mLc SM.bind
  rw [h]
  dsimp only
  rw [hl]
end
/-- only new objects -/
structure Xt (S S' : Sr) : Prop where
  le : S.n ≤ S'.n
  eq : ∀ j, j < S.n → S'.f j = S.f j
section
variable {S S1 S2 S' : Sr} {i : Nat} {x : MO}
theorem Xt.refl (S : Sr) : Xt S S := ⟨Nat.le_refl _, fun _ _ => rfl⟩
theorem Xt.trans (a : Xt S S1) (b : Xt S1 S2) : Xt S S2 := ⟨Nat.le_trans a.le b.le, fun j h => (b.eq j (Nat.lt_of_lt_of_le h a.le)).trans (a.eq j h)⟩
theorem Xt.alloc : Xt S (S.alloc x) := ⟨Nat.le_succ _, fun j h => if_neg (Nat.ne_of_lt h)⟩
theorem Xt.alloc' (a : Xt S S') : Xt S (S'.alloc x) := a.trans Xt.alloc
theorem Xt.put (a : Xt S S') (h : S.n ≤ i) : Xt S (S'.put i x) := ⟨a.le, fun j hj => (if_neg (by omega)).trans (a.eq j hj)⟩
theorem Xt.at_ (a : Xt S S') (h : S.f i = some x) (hl : i < S.n) : S'.f i = some x := (a.eq i hl).trans h
theorem at_new : (S.alloc x).f S.n = some x := if_pos rfl
theorem at_old {y : MO} (h : S.f i = some x) (hl : i < S.n) : (S.alloc y).f i = some x := (if_neg (Nat.ne_of_lt hl)).trans h
theorem at_put : (S.put i x).f i = some x := if_pos rfl
theorem at_put_ne {j : Nat} {y : MO} (h : S.f i = some x) (hl : i ≠ j) : (S.put j y).f i = some x := (if_neg hl).trans h
end
end Y

set_option Elab.async false
set_option linter.all false
set_option maxRecDepth 100000
set_option maxHeartbeats 2000000
/-! Y23: tuples known with their object; dict of such a tuple. -/
namespace Y
open PySem PySem.Spec PyProof.Rows L2
section
variable {X : Cx} {c : Ct}
abbrev rTupG (K : PySem.W.Frag) : List V → Hp → VK → Prop := fun xs H Q => ∃ p ys, xs = [.ref p] ∧ ((SqL K H p ys ∧ ∀ l (o : Obj), H l = none → o.dict = none → Q (.ref l) (upd H l (.frz o (.tup ys)))) ∨ (SqT K H p ys ∧ Q (.ref p) H))
theorem call_tupG : CallR X (.type "tuple") (rTupG X.K) := by
  intro pins s σ H xs us Q I r h
  obtain ⟨p, ys, rfl, h⟩ := h
  cases r with
  | cons rx rr =>
    cases rr
    cases rx
    rcases h with ⟨hq, q⟩ | ⟨hq, q⟩
    · obtain ⟨its, r', pl, hz⟩ := I.list hq
      have hlen := r'.length
      refine call_tuple_list pl.isList (fun h' kp => ?_) (by simp only [List.size_toArray] <;> omega)
      have I1 : Inv X pins σ H { s with heap := h' } := I.kept (t' := s.toks) kp
      have at_ : (h'.push { cls := .type "tuple", data := .seq its.toArray }).get? h'.objs.size = some { cls := .type "tuple", data := .seq its.toArray } := Heap.get?_push_size _ rfl
      have I2 : Inv X pins σ (upd H h'.objs.size (.frz { cls := .type "tuple", data := .seq its.toArray } (.tup ys))) { s with heap := h'.push { cls := .type "tuple", data := .seq its.toArray } } :=
        I1.laid (t' := s.toks) (fun b o e => Heap.get?_push_of_some _ e) (Nat.le_refl _) (show ObjOk X.prog X.w _ _ _ (.frz _ (.tup ys)) from ⟨at_, hz, its, r', IsTup.new _ _⟩)
      exact ⟨.ref h'.objs.size, _, I2, rfl, q _ _ (I1.hok.fresh (Nat.le_refl _)) rfl⟩
    · obtain ⟨its, r', pl, hz⟩ := I.tuple hq
      exact call_tuple_same pl ⟨.ref p, H, I, rfl, q⟩
def fTupG : List D → SM D := fun l S => match l with
  | [.tup l] => .ok (.tup l) S
  | [.ktp l] => .ok (.ktp l) S
  | [.gtp l] => .ok (.gtp l) S
  | [.fro l] => .ok (.gtp l) S
  | [.adr i] => (match S.f i with
    | some (.lst l) => .ok (.gtp l) S
    | _ => .bad)
  | _ => .bad
theorem giveG {E : XK} {m : Nat → Addr} {S : Sr} {H : Hp} {Q : VK} {l : List D} {vs : List V} (s : Sim c m S H) (r : RelDs c m S.n H l vs) (q : PoE c E m S H Q (.ok (.gtp l) S)) : ∀ p (o : Obj), H p = none → o.dict = none → Q (.ref p) (upd H p (.frz o (.tup vs))) := fun p o hp hd => by
  have a := Nxt.fresh (o := .frz o (.tup vs)) s hp
  exact q m _ _ a (mk_gtp ⟨o, upd_same, hd⟩ (a.relDs r))
theorem snd_tupG : SndA c (rTupG c.K) fTupG := by
  intro E m S H Q l vs s r q
  unfold fTupG at q
  split at q
  · obtain ⟨v, rfl, h⟩ := one_of r
    have fin := q m H _ (Nxt.refl s) h
    obtain ⟨a, vs, rfl, hh, rs⟩ := rd_tup h
    exact ⟨a, vs, rfl, .inr ⟨.inl (.inl hh), fin⟩⟩
  · obtain ⟨v, rfl, h⟩ := one_of r
    have fin := q m H _ (Nxt.refl s) h
    obtain ⟨a, vs, rfl, hh, rs⟩ := rd_ktp h
    exact ⟨a, vs, rfl, .inr ⟨hh.sq, fin⟩⟩
  · obtain ⟨v, rfl, h⟩ := one_of r
    have fin := q m H _ (Nxt.refl s) h
    obtain ⟨a, vs, rfl, hh, rs⟩ := rd_gtp h
    exact ⟨a, vs, rfl, .inr ⟨hh.sq, fin⟩⟩
  · obtain ⟨v, rfl, h⟩ := one_of r
    obtain ⟨a, vs, rfl, hh, rs⟩ := rd_fro h
    exact ⟨a, vs, rfl, .inl ⟨hh.sq, giveG s rs q⟩⟩
  · obtain ⟨v, rfl, h⟩ := one_of r
    obtain ⟨rfl, hi⟩ := rd_adr h
    split at q
    · rename_i l el
      obtain ⟨vs, hh, rs⟩ := s.lst el
      exact ⟨_, vs, rfl, .inl ⟨.inl (.inl hh), giveG s rs q⟩⟩
    · exact q.elim
  · exact q.elim
/-! ### dict of a tuple of pairs -/
abbrev rDictG : List V → Hp → VK → Prop := fun xs H Q => ∃ (a : Addr) (ps : List Addr) (kvs : List (Key × V)), xs = [.ref a] ∧ GT H a (ps.map V.ref) ∧ Paired (fun p kv => H p = some (.tup [kV kv.1, kv.2])) ps kvs ∧ ∀ p, H p = none → Q (.ref p) (upd H p (.dK (mergeK [] kvs)))
theorem refs_of : ∀ {ps : List Addr} {us : List Value}, Vals (ps.map V.ref) us → us = ps.map Value.ref
  | [], us, r => by
    cases r
    rfl
  | p :: ps, us, r => by
    rw [List.map_cons] at r
    cases r with
    | cons h t =>
      cases h
      rw [List.map_cons, ← refs_of t]
theorem kv_is {prog : Program} {w : World} {k : Key} {u : Value} (r : RelV (kV k) u) : (mixKind prog w).is k u = true := kV_is (P := prog) (w := w) r
theorem prs_of {pins : List (Addr × Obj)} {σ : L2.St} {H : Hp} {s : Shared} (I : Inv X pins σ H s) : ∀ {ps : List Addr} {kvs : List (Key × V)}, Paired (fun p kv => H p = some (.tup [kV kv.1, kv.2])) ps kvs →
    ∃ (prs : List (Key × Value)) (raw : List (Value × Value)), KV kvs prs ∧ prs.length = ps.length ∧ raw.length = ps.length ∧ (∀ (j : Nat) k v, raw[j]? = some (k, v) → ∃ b, ps[j]? = some b ∧ s.heap.IsTuple b #[k, v]) ∧ ∀ (j : Nat) k v, raw[j]? = some (k, v) → ∃ k0, prs[j]? = some (k0, v) ∧ (mixKind X.prog X.w).is k0 k = true
  | _, _, .nil => ⟨[], [], .nil, rfl, rfl, fun j k v e => by simp at e, fun j k v e => by simp at e⟩
  | _, _, .cons (a := p) (b := kv) h t => by
    obtain ⟨prs, raw, r, hl, hl2, h1, h2⟩ := prs_of I t
    obtain ⟨its, rv, ht, _⟩ := I.tuple (.inl (.inl h))
    cases rv with
    | cons ru rv =>
      rename_i u us
      cases rv with
      | cons ry rv =>
        rename_i y us
        cases rv
        refine ⟨(kv.1, y) :: prs, (u, y) :: raw, .cons ⟨rfl, ry⟩ r, by rw [List.length_cons, List.length_cons, hl], by rw [List.length_cons, List.length_cons, hl2], fun j k v e => ?_, fun j k v e => ?_⟩
        · cases j with
          | zero =>
            cases Option.some.inj e
            exact ⟨p, rfl, ht⟩
          | succ j =>
            obtain ⟨b, e1, e2⟩ := h1 j k v (by simpa using e)
            exact ⟨b, by simpa using e1, e2⟩
        · cases j with
          | zero =>
            cases Option.some.inj e
            exact ⟨kv.1, rfl, kv_is ru⟩
          | succ j =>
            obtain ⟨k0, e1, e2⟩ := h2 j k v (by simpa using e)
            exact ⟨k0, by simpa using e1, e2⟩
theorem call_dictG (hcalm : X.calm = true) : CallR X (.type "dict") rDictG := by
  intro pins s σ H xs us Q I r q
  obtain ⟨a, ps, kvs, rfl, ⟨oo, hq, hdict⟩, hp, q⟩ := q
  cases r with
  | cons rx rr =>
    cases rr
    cases rx
    obtain ⟨ho, hz, its, rv, hpl⟩ := I.hok a _ hq
    have ei := refs_of rv
    subst ei
    rw [List.length_map] at hz
    obtain ⟨prs, raw, rel, hl, hl2, h1, h2⟩ := prs_of I hp
    obtain ⟨o, ho2, hc, n, hdat⟩ := hpl
    rw [ho] at ho2
    cases ho2
    refine PySem.call_dict_pairs (P := PairArg.tuple (prog := X.prog) (w := X.w) a (ps.map Value.ref).toArray (fun j => ps.getD j 0) raw) (knd := mixKind X.prog X.w) (kvs := prs) (I.ok.hd hcalm) ⟨⟨oo, n, ho, hc, hdict, hdat⟩, by simp [hl2], fun j k v e => ?_⟩ ⟨by rw [hl, hl2], fun j k v e => h2 j k v e⟩ (by rw [hl2]; exact hz) fun h' tk hd' k => ?_
    · obtain ⟨b, e1, e2⟩ := h1 j k v e
      refine ⟨by simp [e1], .inl ?_⟩
      have : ps.getD j 0 = b := by rw [List.getD_eq_getElem?_getD, e1]; rfl
      show s.heap.IsTuple (ps.getD j 0) #[k, v]
      rw [this]
      exact e2
    · have hm : (s.heap.objs.size == sysModules) = false := beq_eq_false_iff_ne.mpr (Nat.ne_of_gt I.big)
      have hlen : (mergeK [] kvs).length ≤ sizeLine := by
        refine Nat.le_trans (length_mergeK kvs []) ?_
        rw [List.length_nil, Nat.zero_add, rel.length, hl]
        exact hz
      exact ⟨.ref s.heap.objs.size, upd H s.heap.objs.size (.dK (mergeK [] kvs)), I.laid (t' := tk) (fun b o e => k b o (fun z => nomatch z) e) (Nat.le_refl _) (show ObjOk X.prog X.w _ _ _ (.dK (mergeK [] kvs)) from ⟨hlen, hm, merged [] prs, KV.merge rel .nil, hd'⟩), rfl, q _ (I.hok.fresh (Nat.le_refl _))⟩
/-- pairs that are new tuples -/
def pairsT : List D → Option (List (Key × D))
  | [] => some []
  | .tup [k, v] :: r => (match keyD k, pairsT r with
    | some a, some l => some ((a, v) :: l)
    | _, _ => none)
  | _ => none
theorem pairsT_of {m : Nat → Addr} {H : Hp} {n : Nat} : ∀ {xs : List D} {l : List (Key × D)} {vs : List V}, pairsT xs = some l → RelDs c m n H xs vs → ∃ (ps : List Addr) (kvs : List (Key × V)), vs = ps.map V.ref ∧ Paired (fun p kv => H p = some (.tup [kV kv.1, kv.2])) ps kvs ∧ RelK c m n H l kvs
  | [], l, vs, e, r => by
    cases e
    rw [rd_nil r]
    exact ⟨[], [], rfl, .nil, mkk_nil⟩
  | x :: xs, l, vs, e, r => by
    obtain ⟨v, w, rfl, r1, r2⟩ := rd_cons r
    unfold pairsT at e
    split at e
    · rename_i h; cases h
    · rename_i k0 v0 r0 h
      cases h
      split at e
      · rename_i a l2 ea el
        cases e
        obtain ⟨ps, kvs, rfl, h1, h2⟩ := pairsT_of el r2
        obtain ⟨p, ws, rfl, hh, r3⟩ := rd_tup r1
        obtain ⟨x1, t1, rfl, s1, s2⟩ := rd_cons r3
        obtain ⟨x2, t2, rfl, s3, s4⟩ := rd_cons s2
        rw [rd_nil s4, key_of s1 ea] at hh
        exact ⟨p :: ps, (a, x2) :: kvs, rfl, .cons hh h1, mkk_cons (p := (a, v0)) s3 h2⟩
      · cases e
    · cases e
abbrev rDictB (K : PySem.W.Frag) : List V → Hp → VK → Prop := fun xs H Q => rDictG xs H Q ∨ rDictA K xs H Q
theorem call_dictB (hcalm : X.calm = true) : CallR X (.type "dict") (rDictB X.K) := CallR.or (call_dictG hcalm) (call_dictA hcalm)
def fDictB : List D → SM D := fun l S => match l with
  | [.gtp xs] => (match pairsT xs with
    | some ks => .ok (.adr S.n) (S.alloc (.dic (mergeD [] ks)))
    | none => .bad)
  | l => fDict l S
theorem snd_dictB : SndA c (rDictB c.K) fDictB := by
  intro E m S H Q l vs s r q
  unfold fDictB at q
  split at q
  · obtain ⟨v, rfl, h⟩ := one_of r
    obtain ⟨a, vs, rfl, hh, rs⟩ := rd_gtp h
    split at q
    · rename_i ks ek
      obtain ⟨ps, kvs, rfl, h1, h2⟩ := pairsT_of ek rs
      exact .inl ⟨a, ps, kvs, rfl, hh, h1, giveO (x := .dic _) s ⟨_, rfl, RelK.merge h2 mkk_nil⟩ q⟩
    · exact q.elim
  · exact .inr (snd_dict E m S H Q _ vs s r q)
end
end Y

set_option Elab.async false
set_option linter.all false
set_option maxRecDepth 100000
set_option maxHeartbeats 2000000
/-! Y24: list.index of texts, list(d.items()). -/
namespace Y
open PySem PySem.Spec PyProof.Rows L2
section
variable {X : Cx} {c : Ct} {E : XK}
/-- l.index(text) -/
def fLix : FM := fun x l S => match x, l with
  | .adr i, [.str z] => (match S.f i with
    | some (.lst xs) => (match strsOf xs with
      | some ys => (match ixS ys z with
        | some j => .ok (.int (j : Nat)) S
        | none => .bad)
      | none => .bad)
    | _ => .bad)
  | _, _ => .bad
theorem snd_lix : SndM c (rIndex c.K) fLix := fun E m S H Q x v l vs s rx rs q => by
  unfold fLix at q
  split at q
  · rename_i i z
    obtain ⟨rfl, hi⟩ := rd_adr rx
    obtain ⟨w, t, rfl, r1, r2⟩ := rd_cons rs
    rw [rd_str r1, rd_nil r2]
    split at q
    · rename_i xs el
      obtain ⟨vs, hh, r0⟩ := s.lst el
      split at q
      · rename_i ys ey
        split at q
        · rename_i j ej
          have e := strs_rel ey r0
          subst e
          obtain ⟨h1, h2⟩ := ixS_of ej
          refine ⟨_, ys.map V.str, .str z, j, .str z, rfl, rfl, .inl (.inl hh), rfl, List.all_eq_true.mpr (fun y hy => ?_), by rw [List.getElem?_map, h1]; rfl, beq_self_eq_true z, fun k z' hk e => ?_, q m H _ (Nxt.refl s) mk_int⟩
          · obtain ⟨x, _, rfl⟩ := List.mem_map.mp hy
            rfl
          · rw [List.getElem?_map] at e
            obtain ⟨x, ex, rfl⟩ := Option.map_eq_some_iff.mp e
            have := h2 k hk
            show (x == z) = false
            exact beq_eq_false_iff_ne.mpr fun h => this (by rw [ex, h])
        · exact q.elim
      · exact q.elim
    · exact q.elim
  · exact q.elim
/-! ### list(d.items()) -/
theorem Nxt.grown {m : Nat → Addr} {S : Sr} {H H' : Hp} (s : Sim c m S H) {p : Addr} {x : MO} {o : HO} (hp : H p = none) (ke : ∀ b o, H b = some o → H' b = some o) (h' : H' p = some o) (r : RelO c m S.n H' x o) : Nxt c m S H (ext m S.n p) (S.alloc x) H' := by
  have k : Kp H H' := ⟨fun a xs e => ke _ _ e, fun a b u e => ke _ _ e⟩
  have mu : ∀ i, i < S.n → ext m S.n p i = m i := fun i h => ext_lt h
  refine ⟨⟨fun i y e => ?_, fun i h => ?_, fun i j hi hj e => ?_, fun i y e => ?_, fun q hq => (s.tabs q hq).ext ke⟩, mu, Nat.le_succ _, fun i h1 h2 u e => ?_, k, fun a u ha e _ => ke _ _ e⟩
  · show i < S.n + 1
    by_cases h : i = S.n
    · omega
    · have e' : S.f i = some y := (if_neg h).symm.trans e
      have := s.dom i y e'
      omega
  · have h : i < S.n + 1 := h
    by_cases q : i = S.n
    · exact ⟨x, if_pos q⟩
    · obtain ⟨y, e⟩ := s.all i (by omega)
      exact ⟨y, (if_neg q).trans e⟩
  · have hi : i < S.n + 1 := hi
    have hj : j < S.n + 1 := hj
    by_cases qi : i = S.n
    · by_cases qj : j = S.n
      · omega
      · rw [qi, ext_same, ext_lt (show j < S.n by omega)] at e
        exact absurd e (s.ne (by omega) hp)
    · by_cases qj : j = S.n
      · rw [qj, ext_same, ext_lt (show i < S.n by omega)] at e
        exact absurd e.symm (s.ne (by omega) hp)
      · rw [ext_lt (show i < S.n by omega), ext_lt (show j < S.n by omega)] at e
        exact s.inj i j (by omega) (by omega) e
  · by_cases h : i = S.n
    · have e' : some x = some y := (if_pos h).symm.trans e
      cases e'
      refine ⟨o, ?_, r.mono mu (Nat.le_succ _) (Kp.refl _)⟩
      rw [h, ext_same]
      exact h'
    · have e' : S.f i = some y := (if_neg h).symm.trans e
      have hi := s.dom i y e'
      obtain ⟨u, e1, r1⟩ := s.at_ i y e'
      refine ⟨u, ?_, r1.mono mu (Nat.le_succ _) k⟩
      rw [ext_lt hi]
      exact ke _ _ e1
  · have h2 : i < S.n + 1 := h2
    have h : i = S.n := by omega
    rw [h, ext_same, hp] at e
    cases e
def kD : Key → D
  | .inl i => .int i
  | .inr s => .str s
theorem mk_kD {m : Nat → Addr} {n : Nat} {H : Hp} : ∀ k : Key, RelD c m n H (kD k) (kV k)
  | .inl i => mk_int
  | .inr s => mk_str
theorem rel_items {m : Nat → Addr} {n : Nat} {H : Hp} : ∀ {l : List (Key × D)} {kvs : List (Key × V)} {ts : List Addr}, RelK c m n H l kvs → Paired (fun (t : Addr) (q : Key × V) => H t = some (.tup [kV q.1, q.2])) ts kvs → RelDs c m n H (l.map fun q => .tup [kD q.1, q.2]) (ts.map V.ref)
  | [], kvs, ts, r, p => by
    have e := rk_nil r
    subst e
    cases p
    exact mk_nil
  | q :: l, kvs, ts, r, p => by
    obtain ⟨v, t, rfl, h1, h2⟩ := rk_cons r
    cases p with
    | cons h p =>
      exact mk_cons (mk_tup h (mk_cons (mk_kD q.1) (mk_cons h1 mk_nil))) (rel_items h2 p)
def mLi (a : ME) : ME := fun g => SM.bind (a g) fun d S => match d with
  | .adr i => (match S.f i with
    | some (.dic l) => .ok (.adr S.n) (S.alloc (.lst (l.map fun q => .tup [kD q.1, q.2])))
    | _ => .bad)
  | _ => .bad
theorem qe_li {e : Expr} {me : ME} {p apos cpos pos : Pos} (hc : X.calm = true) (hg : Gl X "list") (hm : X.mg "list" = none) (hv : bootBuiltins "list" = some (.type "list")) (he : PE X e (rdE c E me)) (hbase : attributeBase e "items" X.env (eval e X.env) = eval e X.env := by rfl) (hline : (apos.endLine == cpos.line) = true := by rfl)
    (hs : starEach [.Call (.Attribute e "items" apos) [] [] cpos] X.env = (false, eval (.Call (.Attribute e "items" apos) [] [] cpos) X.env) :: starEach [] X.env := by rfl) :
    PE X (.Call (.Name "list" p) [.Call (.Attribute e "items" apos) [] [] cpos] [] pos) (rdE c E (mLi me)) :=
  PE.imp (LiI.pe_listItems hc he hg hm hv hbase hline hs) fun σ H Q ⟨m, S, g, s, rg, q⟩ => seqE s rg q fun m1 S1 H1 d v a r q1 => by
    cases d <;> first | exact (show False from q1).elim | skip
    rename_i i
    obtain ⟨rfl, hi⟩ := rd_adr r
    dsimp only at q1
    split at q1
    · rename_i l el
      obtain ⟨kvs, hh, rs⟩ := a.sim.dic el
      refine ⟨_, kvs, rfl, hh, fun H' p ts ke hp _ _ h' hpr => ?_⟩
      have k : Kp H1 H' := ⟨fun a xs e => ke _ _ e, fun a b u e => ke _ _ e⟩
      have nx := Nxt.grown (x := .lst (l.map fun q => .tup [kD q.1, q.2])) a.sim hp ke h' ⟨_, rfl, rel_items (rs.mono (fun _ _ => rfl) (Nat.le_refl _) k) hpr⟩
      have e := mk_adr (c := c) (m := ext m1 S1.n p) (n := S1.n + 1) (H := H') (i := S1.n) (Nat.lt_succ_self _)
      rw [ext_same] at e
      exact q1 _ _ _ nx e
    · exact q1.elim
end
end Y

set_option Elab.async false
set_option linter.all false
set_option maxRecDepth 100000
set_option maxHeartbeats 2000000
/-! Y25: `or` behind a comprehension over lambdas. -/
namespace Y
open PySem PySem.Spec PyProof.Rows L2
section
variable {X : Cx} {c : Ct} {E : XK} {Kn : (Nat → Addr) → Sr → L2.St → Hp → Prop}
def rdTK (c : Ct) (E : XK) (Kn : (Nat → Addr) → Sr → L2.St → Hp → Prop) (x : MT) := fun σ H (Q : Bool → Hp → Prop) => ∃ m S g, Sim c m S H ∧ RelG c m S.n H g σ ∧ Kn m S σ H ∧ PoT c E m S H Q (x g S)
theorem qw_orK {a b : Expr} {rest : List Expr} {ma mb : MT} {pos : Pos} (ha : PT X a (rdTK c E Kn ma)) (hb : PW X (.BoolOp .Or (b :: rest) pos) (rdT c E mb)) : PW X (.BoolOp .Or (a :: b :: rest) pos) (rdTK c E Kn (mOr ma mb)) :=
  PW.imp (pw_or ha hb) fun σ H Q ⟨m, S, g, s, rg, kn, q⟩ => by
    refine ⟨m, S, g, s, rg, kn, ?_⟩
    unfold mOr SM.bind at q
    cases e : ma g S with
    | ok k S1 =>
      rw [e] at q
      intro m1 H1 a
      have q1 := PoT.go s a q
      cases k with
      | true => exact q1 m1 H1 (Nxt.refl a.sim)
      | false => exact ⟨m1, S1, g, a.sim, a.relG rg, q1⟩
    | exc p S1 => rw [e] at q; exact q
    | bad => rw [e] at q; exact q
theorem qt_pwK {e : Expr} {mt : MT} (h : PW X e (rdTK c E Kn mt)) : PT X e (rdTK c E Kn mt) := h.pt
end
end Y

set_option Elab.async false
set_option linter.all false
set_option maxRecDepth 100000
set_option maxHeartbeats 2000000
/-! Y26: enumerate of a zip of two lists. -/
namespace Y
open PySem PySem.Spec PyProof.Rows L2
/-- a zip's object: what it told of its tuple, and whether -/
abbrev ZO (v : Value) (f : Bool) (TI TO : Addr) : Obj := { cls := .type "zip", dict := none, data := .fields #[v, .bool f, .bool false, .ref TI, .ref TO], slots := #[] }
section
variable {prog : Program} {w : World} {A : Around} {E : Value → Shared → Prop} {s : Shared}
theorem gone_free {z TI TO T : Addr} {f : Bool} {Q : Bool → Shared → Prop} (hz : s.heap.get? z = some (ZO (rawInt T) f TI TO)) (hT : s.heap.get? T = none) (h : Q true s) : wpAny (model prog w) A (Builtin.SmallTypes.ownedTupleIsFree (.ref z)) Q E s := by
  unfold Builtin.SmallTypes.ownedTupleIsFree
  refine wpAny_bind (wpAny_field hz rfl (x := rawInt T) rfl ?_)
  show wpAny _ _ (loadIfAlive ((T : Int).toNat) >>= _) _ _ _
  rw [Int.toNat_natCast]
  refine wpAny_bind (fun _ _ _ => ?_)
  show wpAny _ _ _ _ _ _
  rw [hT]
  simp only [Option.isNone_none, if_true]
  exact wpAny_pure h
/-- the zip's next pair, its tuple gone -/
theorem gone_item {z TI TO T i1 i2 l1 l2 : Addr} {f : Bool} {k1 k2 : Nat} {xs ys : Array Value} {x y a b : Value} {Q : Value → Shared → Prop} (D : ZipApart z TI TO i1 i2 l1 l2)
    (hz : s.heap.get? z = some (ZO (rawInt T) f TI TO)) (hT : s.heap.get? T = none) (hTI : IsPair s.heap TI (.ref i1) (.ref i2)) (hTO : IsPair s.heap TO a b)
    (h1 : s.heap.IsListIter i1 l1 k1) (h2 : s.heap.IsListIter i2 l2 k2) (hl1 : s.heap.IsList l1 xs) (hl2 : s.heap.IsList l2 ys) (hx : xs[k1]? = some x) (hy : ys[k2]? = some y)
    (hQ : ∀ h', h'.get? z = some (ZO (rawInt s.heap.objs.size) false TI TO) → IsPair h' TO x y → h'.IsListIter i1 l1 (k1 + 1) → h'.IsListIter i2 l2 (k2 + 1) → IsPair h' s.heap.objs.size x y → h'.objs.size = s.heap.objs.size + 1 →
      (∀ c o, c ≠ z → c ≠ TO → c ≠ i1 → c ≠ i2 → s.heap.get? c = some o → h'.get? c = some o) → Q (.ref s.heap.objs.size) { s with heap := h' }) :
    wpAny (model prog w) A (Builtin.«zip.__next__» ⟨[.ref z], []⟩) (fun fin s' => ∃ v, fin = .done (.ret v) ∧ Q v s') E s := by
  show wpAny _ _ (field (.ref z) 2 >>= _) _ _ _
  refine wpAny_bind (wpAny_field hz rfl (x := .bool false) rfl ?_)
  show wpAny _ _ (field (.ref z) 3 >>= _) _ _ _
  refine wpAny_bind (wpAny_field hz rfl (x := .ref TI) rfl (wpAny_bind (wpAny_seqItems hTI rfl ?_)))
  show wpAny _ _ (Builtin.SmallTypes.ownedTupleIsFree (.ref z) >>= _) _ _ _
  refine wpAny_bind (gone_free hz hT ?_)
  simp only [if_true]
  refine wpAny_bind (wpAny_rule (wpAny_bind (wpAny_field hz rfl (x := .ref TO) rfl (wpAny_bind (wpAny_setField_rec hz (by simp) fun h₁ hz₁ q₁ => ?_)))))
  replace hz₁ : h₁.get? z = some (ZO .ellipsis f TI TO) := hz₁
  refine wpAny_bind ?_
  simp only [List.zipIdx_cons, List.zipIdx_nil, List.forIn_cons, List.forIn_nil]
  refine wpAny_bind (wpAny_bind (wpAny_onRaise ?_))
  show wpAny _ _ (Builtin.SmallTypes.nextOf (.ref i1) >>= _) _ _ _
  refine wpAny_bind (wpAny_nextOf_list_item (h1.extBut q₁.extBut D.i1z) (hl1.extBut q₁.extBut D.l1z) hx fun h₂ j₂ q₂ => wpAny_pure ?_)
  have t₂ : IsPair h₂ TO a b := q₂.extBut _ _ D.TOi1 (q₁.extBut _ _ D.TOz hTO)
  refine wpAny_bind (wpAny_seqItems t₂ rfl (wpAny_bind (wpAny_updateSeq_pair t₂ fun h₃ t₃ q₃ => ?_)))
  replace t₃ : IsPair h₃ TO x b := t₃
  refine wpAny_bind (wpAny_letGo (wpAny_pure (wpAny_bind (wpAny_bind (wpAny_onRaise ?_)))))
  show wpAny _ _ (Builtin.SmallTypes.nextOf (.ref i2) >>= _) _ _ _
  refine wpAny_bind (wpAny_nextOf_list_item (((h2.extBut q₁.extBut D.i2z).extBut q₂.extBut D.i12.symm).extBut q₃.extBut D.TOi2.symm) (((hl2.extBut q₁.extBut D.l2z).extBut q₂.extBut D.l2i1).extBut q₃.extBut D.l2TO) hy fun h₄ j₄ q₄ => wpAny_pure ?_)
  have t₄ : IsPair h₄ TO x b := q₄.extBut _ _ D.TOi2 t₃
  refine wpAny_bind (wpAny_seqItems t₄ rfl (wpAny_bind (wpAny_updateSeq_pair t₄ fun h₅ t₅ q₅ => ?_)))
  replace t₅ : IsPair h₅ TO x y := t₅
  refine wpAny_bind (wpAny_letGo (wpAny_pure (wpAny_pure (wpAny_bind (wpAny_seqItems t₅ rfl (wpAny_bind (wpAny_newTuple ?_)))))))
  have size₅ : h₅.objs.size = s.heap.objs.size := by rw [q₅.1, q₄.1, q₃.1, q₂.1, q₁.1]
  have zat : h₅.get? z = some (ZO .ellipsis f TI TO) := q₅.extBut _ _ D.TOz.symm (q₄.extBut _ _ D.i2z.symm (q₃.extBut _ _ D.TOz.symm (q₂.extBut _ _ D.i1z.symm hz₁)))
  have rest₅ : ∀ c o, c ≠ z → c ≠ TO → c ≠ i1 → c ≠ i2 → s.heap.get? c = some o → h₅.get? c = some o := fun c o n1 n2 n3 n4 e => q₅.extBut _ _ n2 (q₄.extBut _ _ n4 (q₃.extBut _ _ n2 (q₂.extBut _ _ n3 (q₁.extBut _ _ n1 e))))
  have one₅ : h₅.IsListIter i1 l1 (k1 + 1) := ((j₂.extBut q₃.extBut D.TOi1.symm).extBut q₄.extBut D.i12).extBut q₅.extBut D.TOi1.symm
  have two₅ : h₅.IsListIter i2 l2 (k2 + 1) := j₄.extBut q₅.extBut D.TOi2.symm
  have zlt : z < h₅.objs.size := Heap.lt_size zat
  show wpAny _ _ (Builtin.SmallTypes.ownedTupleHandOut (.ref z) (.ref h₅.objs.size) >>= _) _ _ _
  refine wpAny_bind ?_
  unfold Builtin.SmallTypes.ownedTupleHandOut
  have z₆ : (h₅.push { cls := .type "tuple", data := .seq #[x, y] }).get? z = some (ZO .ellipsis f TI TO) := Heap.get?_push_of_some _ zat
  refine wpAny_bind (wpAny_setField_rec z₆ (by simp) fun h₇ z₇ q₇ => ?_)
  replace z₇ : h₇.get? z = some (ZO (rawInt h₅.objs.size) f TI TO) := z₇
  refine wpAny_setField_rec z₇ (by simp) fun h₈ z₈ q₈ => ?_
  replace z₈ : h₈.get? z = some (ZO (rawInt h₅.objs.size) false TI TO) := z₈
  have over : ∀ c o, c ≠ z → h₅.get? c = some o → h₈.get? c = some o := fun c o n e => q₈.extBut _ _ n (q₇.extBut _ _ n (Heap.get?_push_of_some _ e))
  have pair₈ : IsPair h₈ h₅.objs.size x y := q₈.extBut _ _ (Nat.ne_of_gt zlt) (q₇.extBut _ _ (Nat.ne_of_gt zlt) (Heap.get?_push_size _ rfl))
  have size₈ : h₈.objs.size = h₅.objs.size + 1 := by rw [q₈.1, q₇.1, Heap.size_push]
  rw [size₅] at z₈ pair₈ size₈
  refine wpAny_pure ⟨_, rfl, ?_⟩
  show Q (.ref h₅.objs.size) _
  rw [size₅]
  exact hQ h₈ z₈ (over _ _ D.TOz t₅) (one₅.at fun o e => over _ o D.i1z e) (two₅.at fun o e => over _ o D.i2z e) pair₈ size₈ fun c o n1 n2 n3 n4 e => over c o n1 (rest₅ c o n1 n2 n3 n4 e)
/-- the zip's end, its tuple gone -/
theorem gone_end {z TI TO T i1 i2 l1 l2 : Addr} {f : Bool} {k1 k2 : Nat} {xs ys : Array Value} {a b : Value} {Q : Fin → Shared → Prop} (hh : A.handled = none) (D : ZipApart z TI TO i1 i2 l1 l2)
    (hz : s.heap.get? z = some (ZO (rawInt T) f TI TO)) (hT : s.heap.get? T = none) (hTI : IsPair s.heap TI (.ref i1) (.ref i2)) (hTO : IsPair s.heap TO a b)
    (h1 : s.heap.IsListIter i1 l1 k1) (h2 : s.heap.IsListIter i2 l2 k2) (hl1 : s.heap.IsList l1 xs) (hl2 : s.heap.IsList l2 ys) (hend : xs[k1]? = none ∨ ys[k2]? = none)
    (hE : ∀ h' e, (∀ c o, c ≠ z → c ≠ TO → c ≠ i1 → c ≠ i2 → s.heap.get? c = some o → h'.get? c = some o) → (∃ o, h'.get? e = some o ∧ o.cls = .type "StopIteration") → E (.ref e) { s with heap := h' }) :
    wpAny (model prog w) A (Builtin.«zip.__next__» ⟨[.ref z], []⟩) Q E s := by
  show wpAny _ _ (field (.ref z) 2 >>= _) _ _ _
  refine wpAny_bind (wpAny_field hz rfl (x := .bool false) rfl ?_)
  show wpAny _ _ (field (.ref z) 3 >>= _) _ _ _
  refine wpAny_bind (wpAny_field hz rfl (x := .ref TI) rfl (wpAny_bind (wpAny_seqItems hTI rfl ?_)))
  show wpAny _ _ (Builtin.SmallTypes.ownedTupleIsFree (.ref z) >>= _) _ _ _
  refine wpAny_bind (gone_free hz hT ?_)
  simp only [if_true]
  refine wpAny_bind (wpAny_rule (wpAny_bind (wpAny_field hz rfl (x := .ref TO) rfl (wpAny_bind (wpAny_setField_rec hz (by simp) fun h₁ hz₁ q₁ => ?_)))))
  replace hz₁ : h₁.get? z = some (ZO .ellipsis f TI TO) := hz₁
  refine wpAny_bind ?_
  simp only [List.zipIdx_cons, List.zipIdx_nil, List.forIn_cons, List.forIn_nil]
  refine wpAny_bind (wpAny_bind (wpAny_onRaise ?_))
  show wpAny _ _ (Builtin.SmallTypes.nextOf (.ref i1) >>= _) _ _ _
  cases hx : xs[k1]? with
  | none =>
    refine wpAny_bind (wpAny_nextOf_list_end hh (h1.extBut q₁.extBut D.i1z) (hl1.extBut q₁.extBut D.l1z) hx fun h₂ e q₂ he => ?_)
    obtain ⟨oe, hoe, hce⟩ := he
    have z₂ : h₂.get? z = some (ZO .ellipsis f TI TO) := q₂ _ _ D.i1z.symm hz₁
    have ne : e ≠ z := fun q => by
      rw [q, z₂] at hoe
      cases hoe
      simp at hce
    exact wpAny_setField_rec z₂ (by simp) fun h₃ _ q₃ => hE h₃ e (fun c o n1 _ n3 _ g => q₃.extBut _ _ n1 (q₂ _ _ n3 (q₁.extBut _ _ n1 g))) ⟨oe, q₃.extBut _ _ ne hoe, hce⟩
  | some x =>
    have hy : ys[k2]? = none := hend.resolve_left fun q => by rw [hx] at q; cases q
    refine wpAny_bind (wpAny_nextOf_list_item (h1.extBut q₁.extBut D.i1z) (hl1.extBut q₁.extBut D.l1z) hx fun h₂ j₂ q₂ => wpAny_pure ?_)
    have t₂ : IsPair h₂ TO a b := q₂.extBut _ _ D.TOi1 (q₁.extBut _ _ D.TOz hTO)
    refine wpAny_bind (wpAny_seqItems t₂ rfl (wpAny_bind (wpAny_updateSeq_pair t₂ fun h₃ t₃ q₃ => ?_)))
    refine wpAny_bind (wpAny_letGo (wpAny_pure (wpAny_bind (wpAny_bind (wpAny_onRaise ?_)))))
    show wpAny _ _ (Builtin.SmallTypes.nextOf (.ref i2) >>= _) _ _ _
    refine wpAny_bind (wpAny_nextOf_list_end hh (((h2.extBut q₁.extBut D.i2z).extBut q₂.extBut D.i12.symm).extBut q₃.extBut D.TOi2.symm) (((hl2.extBut q₁.extBut D.l2z).extBut q₂.extBut D.l2i1).extBut q₃.extBut D.l2TO) hy fun h₄ e q₄ he => ?_)
    obtain ⟨oe, hoe, hce⟩ := he
    have z₄ : h₄.get? z = some (ZO .ellipsis f TI TO) := q₄ _ _ D.i2z.symm (q₃.extBut _ _ D.TOz.symm (q₂.extBut _ _ D.i1z.symm hz₁))
    have ne : e ≠ z := fun q => by
      rw [q, z₄] at hoe
      cases hoe
      simp at hce
    exact wpAny_setField_rec z₄ (by simp) fun h₅ _ q₅ => hE h₅ e (fun c o n1 n2 n3 n4 g => q₅.extBut _ _ n1 (q₄ _ _ n4 (q₃.extBut _ _ n2 (q₂.extBut _ _ n3 (q₁.extBut _ _ n1 g))))) ⟨oe, q₅.extBut _ _ ne hoe, hce⟩
/-- a zip of two lists behind k pairs -/
structure ZS (h : Heap) (z TI TO i1 i2 l1 l2 : Addr) (k : Nat) : Prop where
  z_ : h.get? z = some (ZO .none false TI TO) ∨ ∃ (T : Addr) (f : Bool), h.get? z = some (ZO (rawInt T) f TI TO)
  ti : IsPair h TI (.ref i1) (.ref i2)
  to : ∃ x y, IsPair h TO x y
  j1 : h.IsListIter i1 l1 k
  j2 : h.IsListIter i2 l2 k
theorem ZS.type {z TI TO i1 i2 l1 l2 : Addr} {k : Nat} (h : ZS s.heap z TI TO i1 i2 l1 l2 k) : s.TypeIs (.ref z) "zip" := by
  rcases h.z_ with h | ⟨T, f, h⟩ <;> exact ⟨_, h, rfl⟩
theorem zs_item {z TI TO i1 i2 l1 l2 : Addr} {k : Nat} {xs ys : Array Value} {x y : Value} {Q : Value → Shared → Prop} (D : ZipApart z TI TO i1 i2 l1 l2) (st : ZS s.heap z TI TO i1 i2 l1 l2 k) (hl1 : s.heap.IsList l1 xs) (hl2 : s.heap.IsList l2 ys) (hx : xs[k]? = some x) (hy : ys[k]? = some y)
    (hQ : ∀ h', ZS h' z TI TO i1 i2 l1 l2 (k + 1) → IsPair h' s.heap.objs.size x y → h'.objs.size = s.heap.objs.size + 1 → (∀ c o, c ≠ z → c ≠ TO → c ≠ i1 → c ≠ i2 → s.heap.get? c = some o → h'.get? c = some o) → Q (.ref s.heap.objs.size) { s with heap := h' }) :
    wpAny (model prog w) A (Builtin.SmallTypes.nextOf (.ref z)) Q E s := by
  have ty := st.type
  obtain ⟨hz, hTI, ⟨a, b, hTO⟩, h1, h2⟩ := st
  unfold Builtin.SmallTypes.nextOf
  refine wpAny_bind (wpAny_callSpecial?_slot (name := Str.ofString "__next__") ty F.slot_zip_next (wpAny_call_entry F.slot_zip_next ty F.entry_zip_next ?_ (F.args_zip_next_1 _)))
  have ti : ∀ {h' : Heap}, (∀ c o, c ≠ z → c ≠ TO → c ≠ i1 → c ≠ i2 → s.heap.get? c = some o → h'.get? c = some o) → IsPair h' TI (.ref i1) (.ref i2) := fun k => k _ _ D.TIz D.TITO D.TIi1 D.TIi2 hTI
  rcases hz with hz | ⟨T, f, hz⟩
  · exact zip_next_item D hz hTI hTO h1 h2 hl1 hl2 hx hy fun h' e1 e2 e3 e4 e5 e6 e7 => wpAny_pure (hQ h' ⟨.inr ⟨_, _, e1⟩, ti e7, ⟨_, _, e2⟩, e3, e4⟩ e5 e6 e7)
  · cases hT : s.heap.get? T with
    | none => exact gone_item D hz hT hTI hTO h1 h2 hl1 hl2 hx hy fun h' e1 e2 e3 e4 e5 e6 e7 => wpAny_pure (hQ h' ⟨.inr ⟨_, _, e1⟩, ti e7, ⟨_, _, e2⟩, e3, e4⟩ e5 e6 e7)
    | some oT =>
      refine zip_next_item_held D hz hT hTI h1 h2 hl1 hl2 hx hy fun h' e1 e3 e4 e5 e6 e7 => wpAny_pure (hQ h' ⟨.inr ⟨_, _, e1⟩, e7 _ _ D.TIz D.TIi1 D.TIi2 hTI, ⟨_, _, e7 _ _ D.TOz D.TOi1 D.TOi2 hTO⟩, e3, e4⟩ e5 e6 fun c o n1 n2 n3 n4 e => e7 c o n1 n3 n4 e)
theorem zs_end {z TI TO i1 i2 l1 l2 : Addr} {k : Nat} {xs ys : Array Value} {Q : Value → Shared → Prop} (hh : A.handled = none) (D : ZipApart z TI TO i1 i2 l1 l2) (st : ZS s.heap z TI TO i1 i2 l1 l2 k) (hl1 : s.heap.IsList l1 xs) (hl2 : s.heap.IsList l2 ys) (hend : xs[k]? = none ∨ ys[k]? = none)
    (hE : ∀ h' e, (∀ c o, c ≠ z → c ≠ TO → c ≠ i1 → c ≠ i2 → s.heap.get? c = some o → h'.get? c = some o) → (∃ o, h'.get? e = some o ∧ o.cls = .type "StopIteration") → E (.ref e) { s with heap := h' }) :
    wpAny (model prog w) A (Builtin.SmallTypes.nextOf (.ref z)) Q E s := by
  have ty := st.type
  obtain ⟨hz, hTI, ⟨a, b, hTO⟩, h1, h2⟩ := st
  unfold Builtin.SmallTypes.nextOf
  refine wpAny_bind (wpAny_callSpecial?_slot (name := Str.ofString "__next__") ty F.slot_zip_next (wpAny_call_entry F.slot_zip_next ty F.entry_zip_next ?_ (F.args_zip_next_1 _)))
  rcases hz with hz | ⟨T, f, hz⟩
  · exact zip_next_end hh D hz hTI hTO h1 h2 hl1 hl2 hend hE
  · cases hT : s.heap.get? T with
    | none => exact gone_end hh D hz hT hTI hTO h1 h2 hl1 hl2 hend hE
    | some oT => exact zip_next_end_held hh D hz hT hTI h1 h2 hl1 hl2 hend fun h' e k he => hE h' e (fun c o n1 n2 n3 n4 g => k c o n1 n3 n4 g) he
/-- enumerate's next pair: the place and the zip's pair -/
theorem enz_item {e z TI TO i1 i2 l1 l2 : Addr} {k : Nat} {xs ys : Array Value} {x y old : Value} {Q : Option Value → Shared → Prop} (D : ZipApart z TI TO i1 i2 l1 l2) (he : IsEnum s.heap e z (k : Int) old) (st : ZS s.heap z TI TO i1 i2 l1 l2 k)
    (ne : e ≠ z ∧ e ≠ TI ∧ e ≠ TO ∧ e ≠ i1 ∧ e ≠ i2) (hl1 : s.heap.IsList l1 xs) (hl2 : s.heap.IsList l2 ys) (hx : xs[k]? = some x) (hy : ys[k]? = some y)
    (hQ : ∀ h' tk, IsEnumOut h' e z ((k : Int) + 1) (.ref s.heap.objs.size) (s.heap.objs.size + 1) → ZS h' z TI TO i1 i2 l1 l2 (k + 1) → IsPair h' s.heap.objs.size x y →
      h'.get? (s.heap.objs.size + 1) = some { cls := .type "tuple", data := .seq #[.int k tk, .ref s.heap.objs.size] } → h'.objs.size = s.heap.objs.size + 2 →
      (∀ c o, c ≠ e → c ≠ z → c ≠ TO → c ≠ i1 → c ≠ i2 → s.heap.get? c = some o → h'.get? c = some o) → Q (some (.ref (s.heap.objs.size + 1))) { s with heap := h', toks := tk + 1 }) :
    wpAny (model prog w) A (pyNext (.ref e)) Q E s := by
  have ty : s.TypeIs (.ref e) "enumerate" := ⟨_, he, rfl⟩
  unfold pyNext
  refine wpAny_bind (wpAny_attempt (wpAny_callSpecial?_slot (name := Str.ofString "__next__") ty F.slot_enumerate_next (wpAny_call_entry F.slot_enumerate_next ty F.entry_enumerate_next ?_ (F.args_enumerate_next_1 _))))
  show wpAny _ _ (field (.ref e) 2 >>= _) _ _ _
  refine wpAny_bind (wpAny_field he rfl (x := .ref z) rfl (wpAny_bind (zs_item D st hl1 hl2 hx hy fun h₁ z₁ p₁ n₁ k₁ => ?_)))
  have le : e < s.heap.objs.size := Heap.lt_size he
  have e₁ : IsEnum h₁ e z (k : Int) old := k₁ _ _ ne.1 ne.2.2.1 ne.2.2.2.1 ne.2.2.2.2 he
  show wpAny _ _ (field (.ref e) 3 >>= _) _ _ { s with heap := h₁ }
  refine wpAny_bind (wpAny_field e₁ rfl (x := rawInt k) rfl ?_)
  show wpAny _ _ (field (.ref e) 4 >>= _) _ _ { s with heap := h₁ }
  refine wpAny_bind (wpAny_field e₁ rfl (x := .none) rfl ?_)
  show wpAny _ _ (mkInt k >>= _) _ _ { s with heap := h₁ }
  refine wpAny_bind (wpAny_mkInt ?_)
  show wpAny _ _ (setField (.ref e) 3 (rawInt ((k : Int) + 1)) >>= _) _ _ { s with heap := h₁, toks := s.toks + 1 }
  refine wpAny_bind (wpAny_setField_rec e₁ (by simp) fun h₂ e₂ q₂ => ?_)
  replace e₂ : IsEnum h₂ e z ((k : Int) + 1) old := e₂
  show wpAny _ _ (setField (.ref e) 4 .none >>= _) _ _ { s with heap := h₂, toks := s.toks + 1 }
  refine wpAny_bind (wpAny_setField_rec e₂ (by simp) fun h₃ e₃ q₃ => ?_)
  replace e₃ : IsEnum h₃ e z ((k : Int) + 1) old := e₃
  show wpAny _ _ (newTuple [.int k s.toks, .ref s.heap.objs.size] >>= _) _ _ { s with heap := h₃, toks := s.toks + 1 }
  refine wpAny_bind (wpAny_newTuple ?_)
  have n₃ : h₃.objs.size = s.heap.objs.size + 1 := by rw [q₃.1, q₂.1, n₁]
  have e₄ : IsEnum (h₃.push { cls := .type "tuple", data := .seq #[.int k s.toks, .ref s.heap.objs.size] }) e z ((k : Int) + 1) old := Heap.get?_push_of_some _ e₃
  have t₄ : (h₃.push { cls := .type "tuple", data := .seq #[.int k s.toks, .ref s.heap.objs.size] }).get? (s.heap.objs.size + 1) = some { cls := .type "tuple", data := .seq #[.int k s.toks, .ref s.heap.objs.size] } := by
    rw [← n₃]
    exact Heap.get?_push_size _ rfl
  have n₄ : (h₃.push { cls := .type "tuple", data := .seq #[.int k s.toks, .ref s.heap.objs.size] }).objs.size = s.heap.objs.size + 2 := by rw [Heap.size_push, n₃]
  have k₄ : ∀ c o, c ≠ e → h₁.get? c = some o → (h₃.push { cls := .type "tuple", data := .seq #[.int k s.toks, .ref s.heap.objs.size] }).get? c = some o := fun c o n g => Heap.get?_push_of_some _ (q₃.extBut _ _ n (q₂.extBut _ _ n g))
  generalize h₃.push { cls := .type "tuple", data := .seq #[.int k s.toks, .ref s.heap.objs.size] } = h₄ at e₄ t₄ n₄ k₄
  show wpAny _ _ (Builtin.SmallTypes.ownedTupleIsFree (.ref e) >>= _) _ _ { s with heap := h₄, toks := s.toks + 1 }
  refine wpAny_bind ?_
  unfold Builtin.SmallTypes.ownedTupleIsFree
  refine wpAny_bind (wpAny_field e₄ rfl (x := .none) rfl (wpAny_pure ?_))
  simp only [if_true]
  refine wpAny_bind (wpAny_rule (wpAny_bind (wpAny_field e₄ rfl (x := old) rfl (wpAny_bind (wpAny_setField_rec e₄ (by simp) fun h₅ e₅ q₅ => ?_)))))
  replace e₅ : IsEnum h₅ e z ((k : Int) + 1) (.ref s.heap.objs.size) := e₅
  rw [n₃]
  show wpAny _ _ (Builtin.SmallTypes.ownedTupleHandOut (.ref e) (.ref (s.heap.objs.size + 1)) >>= _) _ _ { s with heap := h₅, toks := s.toks + 1 }
  refine wpAny_bind ?_
  unfold Builtin.SmallTypes.ownedTupleHandOut
  refine wpAny_bind (wpAny_setField_rec e₅ (by simp) fun h₆ e₆ q₆ => ?_)
  replace e₆ : IsEnumOut h₆ e z ((k : Int) + 1) (.ref s.heap.objs.size) (s.heap.objs.size + 1) := e₆
  refine wpAny_setField_rec e₆ (by simp) fun h₇ e₇ q₇ => ?_
  replace e₇ : IsEnumOut h₇ e z ((k : Int) + 1) (.ref s.heap.objs.size) (s.heap.objs.size + 1) := e₇
  have over : ∀ c o, c ≠ e → h₁.get? c = some o → h₇.get? c = some o := fun c o n g => q₇.extBut _ _ n (q₆.extBut _ _ n (q₅.extBut _ _ n (k₄ c o n g)))
  obtain ⟨zz, zt, ⟨x0, y0, zo⟩, zj1, zj2⟩ := z₁
  refine wpAny_bind (wpAny_letGo (wpAny_pure ⟨_, rfl, wpAny_pure (hQ h₇ s.toks e₇ ⟨?_, over _ _ ne.2.1.symm zt, ⟨x0, y0, over _ _ ne.2.2.1.symm zo⟩, zj1.at fun o g => over _ o ne.2.2.2.1.symm g, zj2.at fun o g => over _ o ne.2.2.2.2.symm g⟩ (over _ _ (Nat.ne_of_gt le) p₁) ?_ ?_ fun c o n0 n1 n2 n3 n4 g => over c o n0 (k₁ c o n1 n2 n3 n4 g))⟩))
  · rcases zz with q | ⟨T, f, q⟩
    · exact .inl (over _ _ ne.1.symm q)
    · exact .inr ⟨T, f, over _ _ ne.1.symm q⟩
  · have : s.heap.objs.size + 1 ≠ e := Nat.ne_of_gt (Nat.lt_succ_of_lt le)
    exact q₇.extBut _ _ this (q₆.extBut _ _ this (q₅.extBut _ _ this t₄))
  · rw [q₇.1, q₆.1, q₅.1, n₄]
theorem enz_end {e z TI TO i1 i2 l1 l2 : Addr} {k : Nat} {xs ys : Array Value} {old : Value} {Q : Option Value → Shared → Prop} (hh : A.handled = none) (D : ZipApart z TI TO i1 i2 l1 l2) (he : IsEnum s.heap e z (k : Int) old) (st : ZS s.heap z TI TO i1 i2 l1 l2 k)
    (hl1 : s.heap.IsList l1 xs) (hl2 : s.heap.IsList l2 ys) (hend : xs[k]? = none ∨ ys[k]? = none)
    (hQ : ∀ h', (∀ c o, c ≠ z → c ≠ TO → c ≠ i1 → c ≠ i2 → s.heap.get? c = some o → h'.get? c = some o) → Q none { s with heap := h' }) : wpAny (model prog w) A (pyNext (.ref e)) Q E s := by
  have ty : s.TypeIs (.ref e) "enumerate" := ⟨_, he, rfl⟩
  unfold pyNext
  refine wpAny_bind (wpAny_attempt (wpAny_callSpecial?_slot (name := Str.ofString "__next__") ty F.slot_enumerate_next (wpAny_call_entry F.slot_enumerate_next ty F.entry_enumerate_next ?_ (F.args_enumerate_next_1 _))))
  show wpAny _ _ (field (.ref e) 2 >>= _) _ _ _
  refine wpAny_bind (wpAny_field he rfl (x := .ref z) rfl (wpAny_bind (zs_end hh D st hl1 hl2 hend fun h' x k' xo => ?_)))
  obtain ⟨o, g1, g2⟩ := xo
  exact wpAny_bind (wpAny_isInstance (T := "StopIteration") (b := true) ⟨o, g1, g2⟩ isSubtype_stop (wpAny_pure (hQ _ k')))
end
end Y

set_option Elab.async false
set_option linter.all false
set_option maxRecDepth 100000
set_option maxHeartbeats 2000000
/-! Y27: for .. in enumerate(zip(a, b)). -/
namespace Y
open PySem PySem.Spec PyProof.Rows L2
theorem enum_newZ (z : Addr) :
    Meets (Builtin.«enumerate.__new__» ⟨[.type "enumerate", .ref z], []⟩) (fun _ R s => (∃ TI TO f0, IsZip s.heap z TI TO f0) ∧
      R (.ok (.ret (.ref s.heap.objs.size))) { s with heap := s.heap.push { cls := .type "enumerate", data := .fields #[.none, .bool false, .ref z, rawInt 0, .none, .none] } }) :=
  .of_wp fun prog w A R s both => by
    obtain ⟨hp, gn, dr, tk, os⟩ := s
    obtain ⟨⟨TI, TO, f0, there⟩, h⟩ := both
    have hsub := sub_enumerate
    have step : ∀ {A' : Around} {E' : Value → Shared → Prop} {Q' : Value → Shared → Prop}, Q' (.ref z) ⟨hp, gn, dr, tk, os⟩ → wpAny (model prog w) A' (pyIter (.ref z)) Q' E' ⟨hp, gn, dr, tk, os⟩ :=
      fun q => wpAny_pyIter_zip (s := ⟨hp, gn, dr, tk, os⟩) there q
    wp_walk using step
    refine wpAny_stack_any fun st => wpAny_pure ?_
    split
    · rename_i kk _ _ _ _ _
      cases (kk == Value.type "enumerate")
      · wp_walk using step
        exact ⟨_, rfl, h⟩
      · wp_walk using step
        exact ⟨_, rfl, h⟩
    · wp_walk using step
      exact ⟨_, rfl, h⟩
theorem enum_startsZ {prog : Program} {w : World} {A : Around} {E : Value → Shared → Prop} {s : Shared} {z : Addr} {Q : Value → Shared → Prop} (there : ∃ TI TO f0, IsZip s.heap z TI TO f0)
    (h : ∀ h', IsEnum h' s.heap.objs.size z 0 .none → (∀ b u, s.heap.get? b = some u → h'.get? b = some u) → Q (.ref s.heap.objs.size) { s with heap := h' }) :
    wpAny (model prog w) A (call (.type "enumerate") [.ref z]) Q E s := by
  refine callType_new F.called_enumerate (by decide) (F.typeCall_enumerate_1 _) (F.newCall_enumerate_1 _) (fun obj => F.args_object_init_2 obj _) F.entry_enumerate_new (enum_newZ z) ⟨there, ?_⟩
  have isE : IsEnum (s.heap.push { cls := .type "enumerate", data := .fields #[.none, .bool false, .ref z, rawInt 0, .none, .none] }) s.heap.objs.size z 0 .none := Heap.get?_push_size _ rfl
  exact ⟨⟨_, isE, rfl⟩, h _ isE (fun b u e => Heap.get?_push_of_some _ e)⟩
section
variable {X : Cx} {pins : List (Addr × Obj)} {σ : L2.St} {H : Hp} {s : Shared} {h' : Heap}
/-- several records of ours have turned, two new objects are laid -/
theorem turnedTwo {t' : Nat} {ch : List Addr} {T U : Addr} {ob ub : HO} (I : L2.Inv X pins σ H s) (k : ∀ b o, b ∉ ch → s.heap.get? b = some o → h'.get? b = some o) (hf : ∀ b ∈ ch, FpOk X pins H b) (hT : s.heap.objs.size ≤ T) (hU : s.heap.objs.size ≤ U) (hne : T ≠ U)
    (newT : ObjOk X.prog X.w (upd (upd H T ob) U ub) h' T ob) (newU : ObjOk X.prog X.w (upd (upd H T ob) U ub) h' U ub) : L2.Inv X pins σ (upd (upd H T ob) U ub) { s with heap := h', toks := t' } := by
  have nT : H T = none := I.hok.fresh hT
  have nU : H U = none := I.hok.fresh hU
  have kp : ∀ b u, H b = some u → upd (upd H T ob) U ub b = some u := fun b u e => by
    rw [upd_ne (ne_of_none e nU), upd_ne (ne_of_none e nT)]
    exact e
  have nit : ∀ b u, H b = some u → b ∉ ch := fun b u e z => by
    have q := (hf b z).1
    rw [q] at e
    cases e
  refine I.step (g' := s.gens) (d' := s.drawn) (ch := ch) (fun b hb => ⟨(hf b hb).2.2.2.1, (hf b hb).2.1, (hf b hb).2.2.2.2.1, (hf b hb).2.2.2.2.2⟩) (fun b o _ _ hc e _ => k b o hc e) (fun b o _ _ hc e _ => ⟨o.slots, k b o hc e⟩)
    (fun b o _ e n => ?_) (fun b o hc e => ⟨o, k b o hc e⟩) (fun b xs e => kp b _ e) (fun b o u e => kp b _ e) (fun b ps e => ⟨#[], by rw [kp b _ e]; simp⟩) (fun m hm => ?_) (fun b u e => ?_) I.bare
  · rw [upd_ne (Nat.ne_of_lt (Nat.lt_of_lt_of_le (Heap.lt_size e) hU)), upd_ne (Nat.ne_of_lt (Nat.lt_of_lt_of_le (Heap.lt_size e) hT))]
    exact n
  · obtain ⟨o, es, ep, ho, r⟩ := hm
    exact ⟨o, es, ep, k _ o (fun z => (hf _ z).2.1 rfl) ho, r⟩
  · by_cases hb : b = U
    · subst hb
      rw [upd_same] at e
      cases e
      exact newU
    · rw [upd_ne hb] at e
      by_cases hb2 : b = T
      · subst hb2
        rw [upd_same] at e
        cases e
        exact newT
      · rw [upd_ne hb2] at e
        refine (I.hok b u e).stay (fun c v hc q => k c v ?_ q) (fun c q => kp c _ q) fun c xs q => kp c _ q
        rcases hc with z | z
        · rw [z]; exact nit b u e
        · exact nit c _ z
end
/-- the lists at a and b at each turn, the items in a new pair within a new pair -/
def Itez (K : PySem.W.Frag) (a b : Addr) : It where
  go i H := ∃ (xs ys : List V) (x y : V), SqL K H a xs ∧ SqL K H b ys ∧ xs[i]? = some x ∧ ys[i]? = some y
  yld i H v H' := ∃ T U x y, v = .ref U ∧ H T = none ∧ H U = none ∧ T ≠ U ∧ H' = upd (upd H T (.tup [x, y])) U (.tup [.int (i : Nat), .ref T]) ∧ (∀ xs, SqL K H a xs → xs[i]? = some x) ∧ ∀ ys, SqL K H b ys → ys[i]? = some y
  stop i H := ∃ xs ys : List V, SqL K H a xs ∧ SqL K H b ys ∧ (xs.length ≤ i ∨ ys.length ≤ i)
theorem turn_enz {P : Program} {w : World} {K : PySem.W.Frag} {elts : List Expr} {kk : Nat} {tpos : Pos} {a b e z TI TO i1 i2 : Addr} (D : ZipApart z TI TO i1 i2 a b) (ne : e ≠ z ∧ e ≠ TI ∧ e ≠ TO ∧ e ≠ i1 ∧ e ≠ i2) :
    Turn P w K (.Tuple elts kk tpos) (Itez K a b) [e, z, TI, TO, i1, i2] e (fun i h => (∃ old, IsEnum h e z ((i : Nat) : Int) old) ∧ ZS h z TI TO i1 i2 a b i) where
  mem := List.mem_cons_self
  obj := by
    rintro i h ⟨⟨old, he⟩, zz, ti, ⟨x0, y0, zo⟩, ⟨o1, g1, _, d1⟩, ⟨o2, g2, _, d2⟩⟩ c hc
    simp only [List.mem_cons, List.not_mem_nil, or_false] at hc
    rcases hc with rfl | rfl | rfl | rfl | rfl | rfl
    · exact ⟨_, he, fun v q => nomatch q⟩
    · rcases zz with q | ⟨T, f, q⟩
      · exact ⟨_, q, fun v q => nomatch q⟩
      · exact ⟨_, q, fun v q => nomatch q⟩
    · exact ⟨_, ti, fun v q => nomatch q⟩
    · exact ⟨_, zo, fun v q => nomatch q⟩
    · exact ⟨o1, g1, fun v q => by rw [d1] at q; cases q⟩
    · exact ⟨o2, g2, fun v q => by rw [d2] at q; cases q⟩
  keep := by
    rintro i h h' ⟨⟨old, he⟩, zz, ti, ⟨x0, y0, zo⟩, j1, j2⟩ k
    refine ⟨⟨old, k e (by simp) _ he⟩, ?_, k TI (by simp) _ ti, ⟨x0, y0, k TO (by simp) _ zo⟩, j1.at fun o q => k i1 (by simp) o q, j2.at fun o q => k i2 (by simp) o q⟩
    rcases zz with q | ⟨T, f, q⟩
    · exact .inl (k z (by simp) _ q)
    · exact .inr ⟨T, f, k z (by simp) _ q⟩
  item := by
    rintro X rfl rfl rfl calm i pins s σ H E I fpo ⟨⟨old, he⟩, st⟩ ⟨xs, ys, x, y, hqx, hqy, hx, hy⟩
    obtain ⟨its, rv, p, _⟩ := I.list hqx
    obtain ⟨its2, rv2, p2, _⟩ := I.list hqy
    obtain ⟨u, hu, ru⟩ := rv.get hx
    obtain ⟨u2, hu2, ru2⟩ := rv2.get hy
    have le : e < s.heap.objs.size := Heap.lt_size he
    have low : ∀ c ∈ [e, z, TI, TO, i1, i2], c < s.heap.objs.size := fun c hc => by
      obtain ⟨zz, ti, ⟨x0, y0, zo⟩, ⟨o1, g1, _⟩, ⟨o2, g2, _⟩⟩ := st
      simp only [List.mem_cons, List.not_mem_nil, or_false] at hc
      rcases hc with rfl | rfl | rfl | rfl | rfl | rfl
      · exact le
      · rcases zz with q | ⟨T, f, q⟩
        · exact Heap.lt_size q
        · exact Heap.lt_size q
      · exact Heap.lt_size ti
      · exact Heap.lt_size zo
      · exact Heap.lt_size g1
      · exact Heap.lt_size g2
    refine enz_item D he st ne p.isList p2.isList (x := u) (y := u2) (by simpa using hu) (by simpa using hu2) fun h' tk he1 st1 hp1 ht1 hsz hk => ⟨_, rfl, ?_⟩
    refine wpAny_letOwnedTupleGo_enum (s := { s with heap := h', toks := tk + 1 }) he1 fun h2 he2 sb => ?_
    have over : ∀ c o, c ≠ e → h'.get? c = some o → h2.get? c = some o := fun c o n g => (sb.2 c n).trans g
    have pT : IsPair h2 s.heap.objs.size u u2 := over _ _ (Nat.ne_of_gt le) hp1
    have pU : h2.get? (s.heap.objs.size + 1) = some { cls := .type "tuple", data := .seq #[.int i tk, .ref s.heap.objs.size] } := over _ _ (Nat.ne_of_gt (Nat.lt_succ_of_lt le)) ht1
    have I2 : L2.Inv X pins σ (upd (upd H s.heap.objs.size (.tup [x, y])) (s.heap.objs.size + 1) (.tup [.int (i : Nat), .ref s.heap.objs.size])) { s with heap := h2, toks := tk + 1 } :=
      turnedTwo (ch := [e, z, TI, TO, i1, i2]) I (fun c o hc q => by
        simp only [List.mem_cons, List.not_mem_nil, or_false, not_or] at hc
        exact over c o hc.1 (hk c o hc.1 hc.2.1 hc.2.2.2.1 hc.2.2.2.2.1 hc.2.2.2.2.2 q)) fpo (Nat.le_refl _) (Nat.le_succ _) (Nat.ne_of_lt (Nat.lt_succ_self _))
        ⟨show 2 ≤ sizeLine by decide, [u, u2], .cons ru (.cons ru2 .nil), _, pT, rfl, _, rfl⟩ ⟨show 2 ≤ sizeLine by decide, [.int i tk, .ref s.heap.objs.size], .cons ⟨_, rfl⟩ (.cons rfl .nil), _, pU, rfl, _, rfl⟩
    obtain ⟨zz, ti, ⟨x0, y0, zo⟩, j1, j2⟩ := st1
    refine ⟨.ref (s.heap.objs.size + 1), _, I2, rfl, ⟨s.heap.objs.size, s.heap.objs.size + 1, x, y, rfl, I.hok.fresh (Nat.le_refl _), I.hok.fresh (Nat.le_succ _), Nat.ne_of_lt (Nat.lt_succ_self _), rfl, fun l hl => by rw [I.list_inj hl hqx]; exact hx, fun l hl => by rw [I.list_inj hl hqy]; exact hy⟩, ⟨⟨.ref s.heap.objs.size, ?_⟩, ?_, over _ _ ne.2.1.symm ti, ⟨x0, y0, over _ _ ne.2.2.1.symm zo⟩, j1.at fun o q => over _ o ne.2.2.2.1.symm q, j2.at fun o q => over _ o ne.2.2.2.2.symm q⟩, fun c hc => ?_⟩
    · rw [show ((i + 1 : Nat) : Int) = (i : Int) + 1 by omega]
      exact he2
    · rcases zz with q | ⟨T, f, q⟩
      · exact .inl (over _ _ ne.1.symm q)
      · exact .inr ⟨T, f, over _ _ ne.1.symm q⟩
    · have lc := low c hc
      rw [upd_ne (Nat.ne_of_lt (Nat.lt_succ_of_lt lc)), upd_ne (Nat.ne_of_lt lc)]
      exact (fpo c hc).1
  done := by
    rintro X rfl rfl rfl calm i pins s σ H E I fpo ⟨⟨old, he⟩, st⟩ ⟨xs, ys, hqx, hqy, hend⟩
    obtain ⟨its, rv, p, _⟩ := I.list hqx
    obtain ⟨its2, rv2, p2, _⟩ := I.list hqy
    have l1 := rv.length
    have l2 := rv2.length
    have hn : its.toArray[i]? = none ∨ its2.toArray[i]? = none := by
      rcases hend with q | q
      · exact .inl (by simp; omega)
      · exact .inr (by simp; omega)
    exact enz_end (I.ok.hd calm) D he st p.isList p2.isList hn fun h' k => ⟨rfl, I.turnedL (t' := s.toks) (ch := [e, z, TI, TO, i1, i2]) (fun c o hc q => by
      simp only [List.mem_cons, List.not_mem_nil, or_false, not_or] at hc
      exact k c o hc.2.1 hc.2.2.2.1 hc.2.2.2.2.1 hc.2.2.2.2.2 q) fpo⟩
  self := fun A i s Q E st h => by
    obtain ⟨⟨_, he⟩, _⟩ := st
    exact wpAny_pyIter_enum he h
section
variable {X : Cx} {c : Ct} {E : XK} {m : Nat → Addr} {S : Sr} {H : Hp} {g : Gm} {σ : L2.St}
def iEnz (K : PySem.W.Frag) (ta : TA) : TI := fun σ H R => ta σ H fun vs H1 => ∃ a b xs ys, vs = [.ref a, .ref b] ∧ SqL K H1 a xs ∧ SqL K H1 b ys ∧ R (Itez K a b) H1
theorem pi_enz {e e2 : Expr} {ta : TA} {p pos tpos p2 pos2 : Pos} {elts : List Expr} {kk : Nat} (hg : Gl X "enumerate" ∧ Gl X "zip") (hm : X.mg "enumerate" = none) (hm2 : X.mg "zip" = none) (ha : PA X [e, e2] ta)
    (hs : starEach [.Call (.Name "zip" p2) [e, e2] [] pos2] X.env = (false, eval (.Call (.Name "zip" p2) [e, e2] [] pos2) X.env) :: starEach [] X.env := by rfl) (hs2 : starEach [e, e2] X.env = (false, eval e X.env) :: starEach [e2] X.env := by rfl) (hpl : (backTo pos2 (starEach [e2] X.env)).any (·.1) = false := by rfl) :
    PI X (.Tuple elts kk tpos) (.Call (.Name "enumerate" p) [.Call (.Name "zip" p2) [e, e2] [] pos2] [] pos) (iEnz X.K ta) := by
  refine ⟨fun pins s σ H R I h => Call_ (ld_blt I hg.1 hm boot_enumerate ?_)⟩
  refine PyProof.Rows.callWith_type1 ?_ hs rfl
  rw [hs]
  show wpAny _ _ (spliced ((false, eval (.Call (.Name "zip" p2) [e, e2] [] pos2) X.env) :: backTo pos (starEach [] X.env))) _ _ s
  refine Calls.spliced_cons (Call_ (ld_blt I hg.2 hm2 PyProof.Rows.boot_zip (PyProof.Rows.callWith_type1 (thn (ha.run pos2 pins s σ H _ I h) ?_) hs2 hpl)))
  rintro us s1 ⟨vs, H1, I1, r1, a, b, xs, ys, rfl, hqx, hqy, q⟩
  cases r1 with
  | cons r rr =>
    cases rr with
    | cons r' rr =>
      cases rr
      cases r
      cases r'
      obtain ⟨its, rv, p1, _⟩ := I1.list hqx
      obtain ⟨its2, rv2, p2', _⟩ := I1.list hqy
      have la : a < s1.heap.objs.size := p1.lt
      have lb : b < s1.heap.objs.size := p2'.lt
      refine call_zip_2 p1.isList p2'.isList fun h1 hz hTI hTO j1 j2 hsz hk => Calls.spliced_nil ?_
      refine enum_startsZ (s := { s1 with heap := h1 }) ⟨_, _, _, hz⟩ fun h2 isE hk2 => wpAny_pyIter_enum isE ?_
      have I2 : L2.Inv X pins σ H1 { s1 with heap := h2 } := I1.kept (t' := s1.toks) fun c o g => hk2 c o (hk c o g)
      have D := PySem.W.ktu_apart s1.heap.objs.size a b la lb
      have hsz : h1.objs.size = s1.heap.objs.size + 5 := hsz
      show PIE X pins σ _ R (.ref h1.objs.size) _
      refine ⟨h1.objs.size, [h1.objs.size, s1.heap.objs.size + 4, s1.heap.objs.size + 2, s1.heap.objs.size + 3, s1.heap.objs.size, s1.heap.objs.size + 1], _, _, H1, rfl, I2, turn_enz D ⟨?_, ?_, ?_, ?_, ?_⟩, ⟨⟨.none, isE⟩, .inl (hk2 _ _ hz), hk2 _ _ hTI, ⟨_, _, hk2 _ _ hTO⟩, j1.at fun o g => hk2 _ o g, j2.at fun o g => hk2 _ o g⟩, fun c hc => ?_, q⟩
      · rw [hsz]; exact Nat.ne_of_gt (Nat.add_lt_add_left (by decide) _)
      · rw [hsz]; exact Nat.ne_of_gt (Nat.add_lt_add_left (by decide) _)
      · rw [hsz]; exact Nat.ne_of_gt (Nat.add_lt_add_left (by decide) _)
      · rw [hsz]; exact Nat.ne_of_gt (Nat.lt_add_of_pos_right (by decide))
      · rw [hsz]; exact Nat.ne_of_gt (Nat.add_lt_add_left (by decide) _)
      · have up : s1.heap.objs.size ≤ c := by
          simp only [List.mem_cons, List.not_mem_nil, or_false] at hc
          rcases hc with rfl | rfl | rfl | rfl | rfl | rfl
          · rw [hsz]; exact Nat.le_add_right _ _
          · exact Nat.le_add_right _ _
          · exact Nat.le_add_right _ _
          · exact Nat.le_add_right _ _
          · exact Nat.le_refl _
          · exact Nat.le_add_right _ _
        exact I1.fpOk up (I1.hok.fresh up)
theorem it_enz {sr sr2 : Src} {a b : Addr} (h : SqOk c sr a m S H) (h2 : SqOk c sr2 b m S H) : ItOk c (Itez c.K a b) (sqe (sqz sr sr2)) m S H := by
  refine ⟨fun i m1 S1 H1 d a1 e => ?_, fun i m1 S1 H1 a1 e => ?_⟩
  · unfold sqe sqz at e
    dsimp only at e
    cases e0 : sr.nxt i S1 with
    | none => rw [e0] at e; cases e
    | some o0 =>
      cases e1 : sr2.nxt i S1 with
      | none => rw [e0, e1] at e; cases o0 <;> cases e
      | some o1 =>
        rw [e0, e1] at e
        cases o0 with
        | none => cases o1 <;> cases e
        | some d0 =>
          cases o1 with
          | none => cases e
          | some d1 =>
            cases e
            obtain ⟨vs, hq, v, e2, r⟩ := h i m1 S1 H1 a1 _ e0
            obtain ⟨ws, hq2, w, e3, r2⟩ := h2 i m1 S1 H1 a1 _ e1
            refine ⟨⟨vs, ws, v, w, hq, hq2, e2, e3⟩, fun x H' ⟨T, U, y, z, e4, hT, hU, hne, e5, hy, hz⟩ => ?_⟩
            subst e4 e5
            have e6 := hy vs hq
            have e7 := hz ws hq2
            rw [e2] at e6
            rw [e3] at e7
            cases e6
            cases e7
            have n1 : Nxt c m1 S1 H1 m1 S1 (upd H1 T (.tup [v, w])) := Nxt.fresh a1.sim hT
            have hU' : upd H1 T (.tup [v, w]) U = none := by rw [upd_ne (Ne.symm hne)]; exact hU
            have n2 : Nxt c m1 S1 (upd H1 T (.tup [v, w])) m1 S1 (upd (upd H1 T (.tup [v, w])) U (.tup [.int (i : Nat), .ref T])) := Nxt.fresh n1.sim hU'
            have n := n1.trans a1.sim n2
            refine ⟨n, mk_tup upd_same (mk_cons mk_int (mk_cons (mk_tup ?_ (mk_cons (n.relD r) (mk_cons (n.relD r2) mk_nil))) mk_nil))⟩
            rw [upd_ne hne, upd_same]
  · unfold sqe sqz at e
    dsimp only at e
    cases e0 : sr.nxt i S1 with
    | none => rw [e0] at e; cases e
    | some o0 =>
      cases e1 : sr2.nxt i S1 with
      | none => rw [e0, e1] at e; cases o0 <;> cases e
      | some o1 =>
        rw [e0, e1] at e
        obtain ⟨vs, hq, q1⟩ := h i m1 S1 H1 a1 _ e0
        obtain ⟨ws, hq2, q2⟩ := h2 i m1 S1 H1 a1 _ e1
        cases o0 with
        | none => exact ⟨vs, ws, hq, hq2, .inl q1⟩
        | some d0 =>
          cases o1 with
          | none => exact ⟨vs, ws, hq, hq2, .inr q2⟩
          | some d1 => cases e
/-- enumerate(zip(a, b)) of two lists -/
def mEnz (a : MA) : MI := fun g => SM.bind (a g) fun l S => match l with
  | [x, y] => (match mSrcD false x S, mSrcD false y S with
    | .ok s1 _, .ok s2 _ => .ok (sqe (sqz s1 s2)) S
    | _, _ => .bad)
  | _ => .bad
theorem qi_enz {e e2 : Expr} {ma : MA} {p pos tpos p2 pos2 : Pos} {elts : List Expr} {kk : Nat} (hK : X.K = c.K) (hg : Gl X "enumerate" ∧ Gl X "zip") (hm : X.mg "enumerate" = none) (hm2 : X.mg "zip" = none) (ha : PA X [e, e2] (rdA c E ma))
    (hs : starEach [.Call (.Name "zip" p2) [e, e2] [] pos2] X.env = (false, eval (.Call (.Name "zip" p2) [e, e2] [] pos2) X.env) :: starEach [] X.env := by rfl) (hs2 : starEach [e, e2] X.env = (false, eval e X.env) :: starEach [e2] X.env := by rfl) (hpl : (backTo pos2 (starEach [e2] X.env)).any (·.1) = false := by rfl) :
    PI X (.Tuple elts kk tpos) (.Call (.Name "enumerate" p) [.Call (.Name "zip" p2) [e, e2] [] pos2] [] pos) (rdI c E (mEnz ma)) :=
  PI.imp (pi_enz hg hm hm2 ha hs hs2 hpl) fun σ H Q ⟨m, S, g, s, rg, q⟩ => seqIA s rg q fun m1 S1 H1 l vs a rs q1 => by
    rw [hK]
    split at q1
    · obtain ⟨v, w, rfl, r1, r2⟩ := rd_cons rs
      obtain ⟨v2, w2, rfl, r3, r4⟩ := rd_cons r2
      rw [rd_nil r4]
      split at q1
      · rename_i sr _ sr2 _ e1 e2
        obtain ⟨_, p, rfl, hq, vs, hv⟩ := sq_of a.sim r1 e1
        obtain ⟨_, p2, rfl, hq2, vs2, hv2⟩ := sq_of a.sim r3 e2
        exact ⟨p, p2, vs, vs2, rfl, hv, hv2, q1 m1 H1 _ (Nxt.refl a.sim) (it_enz hq hq2)⟩
      · exact q1.elim
    · exact q1.elim
end
end Y

set_option Elab.async false
set_option linter.all false
set_option maxRecDepth 100000
namespace K18
open PySem PySem.Spec PyProof.Rows L2 Y
def subT : Str → Str → Bool := fun a b => decide (a = b)
def qsT : List Str := ["RunError"]
def clT : Tcl := [("RunError", "RunError")]
def K_LETTERS_OF_NAMES : D := .str "abcdefghijklmnopqrstuvwxyz0123456789"
def N_Wave___init__ : List Str := ["self", "widths"]
def b_Wave___init__ : MS := (mSeq (mFld ["Wave"] "widths" (mVar 0) (mCB fTupG (mCons (mVar 1) mNil)))
  (mFld ["Wave"] "rows" (mVar 0) (mLst mNil)))
def f_Wave___init__ : List D → SM D := mFun 2 b_Wave___init__
def N_Wave_add : List Str := ["self", "table", "row", "name", "width"]
def b_Wave_add_L16 : MS := (mSeq (mIfS (mOr (mTB (mB (dIn true) (mVar 3) (mVar 1))) (mNot (mTB (mChain dLe dLt (mC (.int 0)) (mB dIx (mVar 1) (mVar 3)) (mB dShl (mC (.int 1)) (mVar 4)))))) (mRaise "RunError") mPass)
  (mDrop (mBM "list" fApp (mVar 2) (mCons (mB dIx (mVar 1) (mVar 3)) mNil))))
def b_Wave_add : MS := (mSeq (mSet 2 (mLst mNil))
  (mSeq (mFor (mSrc (mAttr ["Wave"] "widths" (mVar 0))) (gTp 2 (gCn (gNm 3) (gCn (gNm 4) gNl))) b_Wave_add_L16)
  (mDrop (mBM "list" fApp (mAttr ["Wave"] "rows" (mVar 0)) (mCons (mCB fTupG (mCons (mVar 2) mNil)) mNil)))))
def f_Wave_add : List D → SM D := mFun 5 b_Wave_add
def N_Wave_wave_text : List Str := ["self", "found", "before", "beat", "row", "parts", "place", "name", "width", "line"]
def b_Wave_wave_text_L26 : MS := (mIfS (mOr (mTB (mB (dIs false) (mVar 2) (mC .non))) (mTB (mB dNe (mB dIx (mVar 2) (mVar 6)) (mB dIx (mVar 4) (mVar 6))))) (mDrop (mBM "list" fApp (mVar 5) (mCons (mJs [(mFmt (mVar 7)), (mC (.str "=")), (mFmt (mB dIx (mVar 4) (mVar 6)))] PySem.Str.empty) mNil))) mPass)
def b_Wave_wave_text_L24 : MS := (mSeq (mSet 5 (mLst mNil))
  (mSeq (mFor (mEnu (mCons (mAttr ["Wave"] "widths" (mVar 0)) mNil)) (gTp 2 (gCn (gNm 6) (gCn (gTp 2 (gCn (gNm 7) (gCn (gNm 8) gNl))) gNl))) b_Wave_wave_text_L26)
  (mSeq (mIfS (mOr (mTB (mB dNe (mVar 5) (mLst mNil))) (mTB (mB dEq (mVar 3) (mB dSub (mCB fLen (mCons (mAttr ["Wave"] "rows" (mVar 0)) mNil)) (mC (.int 1)))))) (mDrop (mBM "list" fApp (mVar 1) (mCons (mBM "str" fJoin (mC (.str " ")) (mCons (mB dAdd (mLst (mCons (mJs [(mC (.str "#")), (mFmt (mVar 3))] PySem.Str.empty) mNil)) (mVar 5)) mNil)) mNil))) mPass)
  (mSet 2 (mVar 4)))))
def b_Wave_wave_text : MS := (mSeq (mPar 1 2 (mCons (mB dAdd (mLc (mSrc (mAttr ["Wave"] "widths" (mVar 0))) (.tp [7, 8]) mYes (mJs [(mFmt (mVar 7)), (mC (.str " ")), (mFmt (mVar 8))] PySem.Str.empty) [7, 8]) (mLst (mCons (mC (.str "")) mNil))) (mCons (mC .non) mNil)))
  (mSeq (mFor (mEnu (mCons (mAttr ["Wave"] "rows" (mVar 0)) mNil)) (gTp 2 (gCn (gNm 3) (gCn (gNm 4) gNl))) b_Wave_wave_text_L24)
  (mRet (mBM "str" fJoin (mC (.str "")) (mCons (mLc (mSrc (mVar 1)) (.nm 9) mYes (mB dAdd (mVar 9) (mC (.str "\n"))) [9]) mNil)))))
def f_Wave_wave_text : List D → SM D := mFun 10 b_Wave_wave_text
def N_Wave_changes : List Str := ["self", "name", "places", "found", "beat", "row", "place"]
def b_Wave_changes_L39 : MS := (mIfS (mOr (mTB (mB dEq (mVar 3) (mLst mNil))) (mTB (mB dNe (mB dIx (mB dIx (mVar 3) (mU dNeg (mC (.int 1)))) (mC (.int 1))) (mB dIx (mVar 5) (mB dIx (mVar 2) (mC (.int 0))))))) (mDrop (mBM "list" fApp (mVar 3) (mCons (mTup (mCons (mVar 4) (mCons (mB dIx (mVar 5) (mB dIx (mVar 2) (mC (.int 0)))) mNil))) mNil))) mPass)
def b_Wave_changes : MS := (mSeq (mSet 2 (mLc (mEnu (mCons (mAttr ["Wave"] "widths" (mVar 0)) mNil)) (.tp [6, 5]) (mTB (mB dEq (mB dIx (mVar 5) (mC (.int 0))) (mVar 1))) (mVar 6) [6, 5]))
  (mSeq (mIfS (mTB (mB dEq (mVar 2) (mLst mNil))) (mRaise "RunError") mPass)
  (mSeq (mSet 3 (mLst mNil))
  (mSeq (mFor (mEnu (mCons (mAttr ["Wave"] "rows" (mVar 0)) mNil)) (gTp 2 (gCn (gNm 4) (gCn (gNm 5) gNl))) b_Wave_changes_L39)
  (mRet (mCB fTupG (mCons (mVar 3) mNil)))))))
def f_Wave_changes : List D → SM D := mFun 7 b_Wave_changes
def N_Wave_first_unlike : List Str := ["self", "other", "beat", "one", "two", "place", "name", "width"]
def b_Wave_first_unlike_L46 : MS := (mIfS (mTB (mB dNe (mB dIx (mVar 3) (mVar 5)) (mB dIx (mVar 4) (mVar 5)))) (mRet (mTup (mCons (mVar 2) (mCons (mVar 6) mNil)))) mPass)
def b_Wave_first_unlike_L45 : MS := (mFor (mEnu (mCons (mAttr ["Wave"] "widths" (mVar 0)) mNil)) (gTp 2 (gCn (gNm 5) (gCn (gTp 2 (gCn (gNm 6) (gCn (gNm 7) gNl))) gNl))) b_Wave_first_unlike_L46)
def b_Wave_first_unlike : MS := (mSeq (mFor (mEnz (mCons (mAttr ["Wave"] "rows" (mVar 0)) (mCons (mAttr ["Wave"] "rows" (mVar 1)) mNil))) (gTp 2 (gCn (gNm 2) (gCn (gTp 2 (gCn (gNm 3) (gCn (gNm 4) gNl))) gNl))) b_Wave_first_unlike_L45)
  (mRet (mC .non)))
def f_Wave_first_unlike : List D → SM D := mFun 8 b_Wave_first_unlike
def N_number_of_text : List Str := ["text", "sign"]
def b_number_of_text : MS := (mSeq (mIfS (mOr (mNot (mTB (mChain dLt dLt (mC (.int 0)) (mCB fLen (mCons (mVar 0) mNil)) (mC (.int 11))))) (mOr (mTB (mAnyS (notInS "0123456789") (mVar 0))) (mAnd (mTB (mB dEq (mB dIx (mVar 0) (mC (.int 0))) (mC (.str "0")))) (mTB (mB dGt (mCB fLen (mCons (mVar 0) mNil)) (mC (.int 1))))))) (mRaise "RunError") mPass)
  (mRet (mCB fInt (mCons (mVar 0) mNil))))
def f_number_of_text : List D → SM D := mFun 2 b_number_of_text
def N_head_of : List Str := ["line", "name", "blank", "width", "sign"]
def b_head_of : MS := (mSeq (mAsg (mBM "str" fPart (mVar 0) (mCons (mC (.str " ")) mNil)) (gTp 3 (gCn (gNm 1) (gCn (gNm 2) (gCn (gNm 3) gNl)))))
  (mSeq (mIfS (mOr (mTB (mB dEq (mVar 1) (mC (.str "")))) (mOr (mTB (mAnyS (notInS "abcdefghijklmnopqrstuvwxyz0123456789") (mVar 1))) (mNot (mTB (mChain dLe dLe (mC (.int 1)) (mCall f_number_of_text 1 [] (mCons (mVar 3) mNil)) (mC (.int 32))))))) (mRaise "RunError") mPass)
  (mRet (mTup (mCons (mVar 1) (mCons (mCall f_number_of_text 1 [] (mCons (mVar 3) mNil)) mNil))))))
def f_head_of : List D → SM D := mFun 5 b_head_of
def N_read_wave : List Str := ["text", "lines", "middle", "found", "table", "line", "words", "beat", "word", "name", "mark", "number"]
def b_read_wave_L64 : MS := (mDrop (mMeth "Wave" "add" f_Wave_add 2 [] (mVar 3) (mCons (mVar 4) mNil)))
def b_read_wave_L66 : MS := (mSeq (mAsg (mBM "str" fPart (mVar 8) (mCons (mC (.str "=")) mNil)) (gTp 3 (gCn (gNm 9) (gCn (gNm 10) (gCn (gNm 11) gNl)))))
  (mSeq (mIfS (mOr (mTB (mB (dIn true) (mVar 9) (mCB fDictB (mCons (mAttr ["Wave"] "widths" (mVar 3)) mNil)))) (mTB (mB dEq (mVar 10) (mC (.str ""))))) (mRaise "RunError") mPass)
  (mAsg (mCall f_number_of_text 1 [] (mCons (mVar 11) mNil)) (gSub' (mVar 4) (mVar 9)))))
def b_read_wave_L59 : MS := (mSeq (mSet 6 (mBM "str" fSplit (mVar 5) (mCons (mC (.str " ")) mNil)))
  (mSeq (mSet 7 (mIf (mTB (mBM "str" (fTxB Txt.startswith) (mB dIx (mVar 6) (mC (.int 0))) (mCons (mC (.str "#")) mNil))) (mCall f_number_of_text 1 [] (mCons (mSl slD (mB dIx (mVar 6) (mC (.int 0))) (oE (mC (.int 1))) oNo) mNil)) (mB dSub (mC (.int 0)) (mC (.int 1)))))
  (mSeq (mIfS (mOr (mTB (mB dLt (mVar 7) (mCB fLen (mCons (mAttr ["Wave"] "rows" (mVar 3)) mNil)))) (mOr (mTB (mB dGt (mVar 7) (mC (.int 100000)))) (mAnd (mTB (mB dGt (mVar 7) (mC (.int 0)))) (mTB (mB dEq (mAttr ["Wave"] "rows" (mVar 3)) (mLst mNil)))))) (mRaise "RunError") mPass)
  (mSeq (whileG (mTB (mB dLt (mCB fLen (mCons (mAttr ["Wave"] "rows" (mVar 3)) mNil)) (mVar 7))) b_read_wave_L64 FU)
  (mSeq (mFor (mSrc (mSl slD (mVar 6) (oE (mC (.int 1))) oNo)) (gNm 8) b_read_wave_L66)
  (mDrop (mMeth "Wave" "add" f_Wave_add 2 [] (mVar 3) (mCons (mVar 4) mNil))))))))
def b_read_wave : MS := (mSeq (mSet 1 (mBM "str" fSplit (mVar 0) (mCons (mC (.str "\n")) mNil)))
  (mSeq (mIfS (mOr (mTB (mB dNe (mB dIx (mVar 1) (mU dNeg (mC (.int 1)))) (mC (.str "")))) (mTB (mB (dIn true) (mC (.str "")) (mSl slD (mVar 1) oNo (oE (mU dNeg (mC (.int 1)))))))) (mRaise "RunError") mPass)
  (mSeq (mSet 2 (mBM "list" fLix (mVar 1) (mCons (mC (.str "")) mNil)))
  (mSeq (mSet 3 (mMake "Wave" f_Wave___init__ 2 [] (mCons (mLc (mSrc (mSl slD (mVar 1) oNo (oE (mVar 2)))) (.nm 5) mYes (mCall f_head_of 1 [] (mCons (mVar 5) mNil)) [5]) mNil)))
  (mSeq (mIfS (mTB (mB dNe (mCB fLen (mCons (mCB fDictB (mCons (mAttr ["Wave"] "widths" (mVar 3)) mNil)) mNil)) (mCB fLen (mCons (mAttr ["Wave"] "widths" (mVar 3)) mNil)))) (mRaise "RunError") mPass)
  (mSeq (mSet 4 mEmp)
  (mSeq (mFor (mSrc (mSl slD (mVar 1) (oE (mB dAdd (mVar 2) (mC (.int 1)))) (oE (mU dNeg (mC (.int 1)))))) (gNm 5) b_read_wave_L59)
  (mRet (mVar 3)))))))))
def f_read_wave : List D → SM D := mFun 12 b_read_wave
def N__law_dice : List Str := ["cell"]
def b__law_dice : MS := (mSeq (mIfS (mTB (mChain dLt dLt (mB dSub (mC (.int 0)) (mC (.int 10))) (mVar 0) (mC (.int 10)))) (mRet (mLst (mCons (mCB fAbs (mCons (mVar 0) mNil)) (mCons (mC (.int 0)) (mCons (mC (.int 2)) mNil))))) mPass)
  (mRet (mLst (mCons (mVar 0) (mCons (mB dAdd (mC (.int 1)) (mB dMod (mCB fInt (mCons (mVar 0) mNil)) (mC (.int 1009)))) (mCons (mCB fInt (mCons (mB dGe (mVar 0) (mB dPow (mC (.int 10)) (mC (.int 18)))) mNil)) mNil))))))
def f__law_dice : List D → SM D := mFun 1 b__law_dice
def N__law_roll : List Str := ["dice", "many", "found"]
def b__law_roll : MS := (mSeq (mIfS (mOr (mTB (mB dEq (mB dIx (mVar 0) (mC (.int 2))) (mC (.int 2)))) (mAnd (mTB (mB dEq (mB dIx (mVar 0) (mC (.int 2))) (mC (.int 1)))) (mTB (mB dGt (mB dIx (mVar 0) (mC (.int 0))) (mC (.int 0)))))) (mSeq (mSet 2 (mB dMod (mCB fInt (mCons (mB dIx (mVar 0) (mC (.int 0))) mNil)) (mVar 1)))
  (mSeq (mAsg (mB dFdiv (mB dIx (mVar 0) (mC (.int 0))) (mVar 1)) (gSub' (mVar 0) (mC (.int 0))))
  (mRet (mVar 2)))) mPass)
  (mSeq (mAsg (mC (.int 0)) (gSub' (mVar 0) (mC (.int 2))))
  (mSeq (mIfS (mTB (mB dGt (mVar 1) (mC (.int 100000000)))) (mRet (mB dMod (mCB fInt (mCons (mB dAdd (mB dMulS mBad (mC (.int 100000000))) mBad) mNil)) (mVar 1))) mPass)
  (mSeq (mAsg (mB dMod (mCB fInt (mCons (mB dAdd (mB dAdd (mB dMulS (mB dIx (mVar 0) (mC (.int 0))) (mC (.int 48271))) (mB dMulS (mB dIx (mVar 0) (mC (.int 1))) (mC (.int 69621)))) (mC (.int 11))) mNil)) (mC (.int 2147483647))) (gSub' (mVar 0) (mC (.int 0))))
  (mSeq (mAsg (mB dAdd (mB dIx (mVar 0) (mC (.int 1))) (mC (.int 1))) (gSub' (mVar 0) (mC (.int 1))))
  (mRet (mB dMod (mCB fInt (mCons (mB dFdiv (mB dIx (mVar 0) (mC (.int 0))) (mC (.int 7))) mNil)) (mVar 1))))))))
def f__law_roll : List D → SM D := mFun 3 b__law_roll
def N__law_rounds : List Str := ["script", "most", "cells", "cell"]
def b__law_rounds : MS := (mSeq (mSet 2 (mSl slD (mVar 0) oNo (oE (mVar 1))))
  (mSeq (mIfS (mTB (mB dEq (mVar 2) (mLst mNil))) (mSet 2 (mLst (mCons (mC (.int 0)) mNil))) mPass)
  (mRet (mLc (mSrc (mVar 2)) (.nm 3) mYes (mCall f__law_dice 1 [] (mCons (mVar 3) mNil)) [3]))))
def f__law_rounds : List D → SM D := mFun 4 b__law_rounds
def N_law : List Str := ["script", "dice", "widths", "wave", "rows", "beat", "row", "due", "parts", "k", "name", "width", "other", "spot", "place", "table", "wrong", "bad", "f", "text"]
def b_law_s142 : MS := (mRet (mC (.bl false)))
def b_law_s110 : MS := (mSet 2 (mLc (mRng1 (mCons (mB dAdd (mC (.int 1)) (mCall f__law_roll 2 [] (mCons (mVar 1) (mCons (mC (.int 4)) mNil)))) mNil)) (.nm 9) mYes (mTup (mCons (mB dIx (mLst (mCons (mC (.str "a")) (mCons (mC (.str "b1")) (mCons (mC (.str "clock")) (mCons (mC (.str "x")) mNil))))) (mVar 9)) (mCons (mB dAdd (mC (.int 1)) (mCall f__law_roll 2 [] (mCons (mVar 1) (mCons (mC (.int 5)) mNil)))) mNil))) [9]))
def b_law_s111 : MS := (mAsg (mTup (mCons (mMake "Wave" f_Wave___init__ 2 [] (mCons (mVar 2) mNil)) (mCons (mLst mNil) mNil))) (gTp 2 (gCn (gNm 3) (gCn (gNm 4) gNl))))
def b_law_s113 : MS := (mSet 6 (mIf (mAnd (mTB (mB dGt (mVar 5) (mC (.int 0)))) (mTB (mB dEq (mCall f__law_roll 2 [] (mCons (mVar 1) (mCons (mC (.int 2)) mNil))) (mC (.int 0))))) (mB dIx (mVar 4) (mB dSub (mVar 5) (mC (.int 1)))) (mCB fTupG (mCons (mLc (mSrc (mVar 2)) (.tp [10, 11]) mYes (mCall f__law_roll 2 [] (mCons (mVar 1) (mCons (mB dShl (mC (.int 1)) (mVar 11)) mNil))) [10, 11]) mNil))))
def b_law_s114 : MS := (mDrop (mBM "list" fApp (mVar 4) (mCons (mVar 6) mNil)))
def b_law_s115 : MS := (mDrop (mMeth "Wave" "add" f_Wave_add 2 [] (mVar 3) (mCons (mCB fDictB (mCons (mLc (mRng1 (mCons (mCB fLen (mCons (mVar 6) mNil)) mNil)) (.nm 9) mYes (mTup (mCons (mB dIx (mB dIx (mVar 2) (mVar 9)) (mC (.int 0))) (mCons (mB dIx (mVar 6) (mVar 9)) mNil))) [9]) mNil)) mNil)))
def b_law_L112 : MS := (mSeq b_law_s113
  (mSeq b_law_s114
  b_law_s115))
def b_law_s112 : MS := (mFor (mRng1 (mCons (mCall f__law_roll 2 [] (mCons (mVar 1) (mCons (mC (.int 31)) mNil))) mNil)) (gNm 5) b_law_L112)
def b_law_s116 : MS := (mSet 7 (mB dAdd (mBM "str" fJoin (mC (.str "")) (mCons (mLc (mSrc (mVar 2)) (.tp [10, 11]) mYes (mB dAdd (mB dAdd (mB dAdd (mVar 10) (mC (.str " "))) (mCB fStr (mCons (mVar 11) mNil))) (mC (.str "\n"))) [10, 11]) mNil)) (mC (.str "\n"))))
def b_law_s118 : MS := (mSet 8 (mLc (mRng1 (mCons (mCB fLen (mCons (mVar 6) mNil)) mNil)) (.nm 9) (mOr (mTB (mB dEq (mVar 5) (mC (.int 0)))) (mTB (mB dNe (mB dIx (mB dIx (mVar 4) (mB dSub (mVar 5) (mC (.int 1)))) (mVar 9)) (mB dIx (mVar 6) (mVar 9))))) (mB dAdd (mB dAdd (mB dIx (mB dIx (mVar 2) (mVar 9)) (mC (.int 0))) (mC (.str "="))) (mCB fStr (mCons (mB dIx (mVar 6) (mVar 9)) mNil))) [9]))
def b_law_s119 : MS := (mSet 7 (mB dAdd (mVar 7) (mIf (mOr (mTB (mB dNe (mVar 8) (mLst mNil))) (mTB (mB dEq (mVar 5) (mB dSub (mCB fLen (mCons (mVar 4) mNil)) (mC (.int 1)))))) (mB dAdd (mBM "str" fJoin (mC (.str " ")) (mCons (mB dAdd (mLst (mCons (mB dAdd (mC (.str "#")) (mCB fStr (mCons (mVar 5) mNil))) mNil)) (mVar 8)) mNil)) (mC (.str "\n"))) (mC (.str "")))))
def b_law_L117 : MS := (mSeq b_law_s118
  b_law_s119)
def b_law_s117 : MS := (mFor (mEnu (mCons (mVar 4) mNil)) (gTp 2 (gCn (gNm 5) (gCn (gNm 6) gNl))) b_law_L117)
def b_law_s121 : MS := (mRet (mC (.bl false)))
def b_law_s120 : MS := (mIfS (mOr (mTB (mB dNe (mAttr ["Wave"] "rows" (mVar 3)) (mVar 4))) (mOr (mTB (mB dNe (mMeth "Wave" "wave_text" f_Wave_wave_text 1 [] (mVar 3) mNil) (mVar 7))) (mOr (mTB (mB dNe (mAttr ["Wave"] "rows" (mCall f_read_wave 1 [] (mCons (mVar 7) mNil))) (mVar 4))) (mTB (mB dNe (mCB fList (mCons (mAttr ["Wave"] "widths" (mCall f_read_wave 1 [] (mCons (mVar 7) mNil))) mNil)) (mVar 2)))))) b_law_s121 mPass)
def b_law_s124 : MS := (mRet (mC (.bl false)))
def b_law_s123 : MS := (mIfS (mTB (mB dNe (mCB fList (mCons (mMeth "Wave" "changes" f_Wave_changes 2 [] (mVar 3) (mCons (mVar 10) mNil)) mNil)) (mLc (mEnu (mCons (mVar 4) mNil)) (.tp [5, 6]) (mOr (mTB (mB dEq (mVar 5) (mC (.int 0)))) (mTB (mB dNe (mB dIx (mB dIx (mVar 4) (mB dSub (mVar 5) (mC (.int 1)))) (mVar 9)) (mB dIx (mVar 6) (mVar 9))))) (mTup (mCons (mVar 5) (mCons (mB dIx (mVar 6) (mVar 9)) mNil))) [5, 6]))) b_law_s124 mPass)
def b_law_L122 : MS := b_law_s123
def b_law_s122 : MS := (mFor (mEnu (mCons (mVar 2) mNil)) (gTp 2 (gCn (gNm 9) (gCn (gTp 2 (gCn (gNm 10) (gCn (gNm 11) gNl))) gNl))) b_law_L122)
def b_law_s125 : MS := (mSet 12 (mMake "Wave" f_Wave___init__ 2 [] (mCons (mVar 2) mNil)))
def b_law_s126 : MS := (mAsg (mIf (mTB (mB dNe (mVar 4) (mLst mNil))) (mTup (mCons (mCall f__law_roll 2 [] (mCons (mVar 1) (mCons (mCB fLen (mCons (mVar 4) mNil)) mNil))) (mCons (mCall f__law_roll 2 [] (mCons (mVar 1) (mCons (mCB fLen (mCons (mVar 2) mNil)) mNil))) mNil))) (mTup (mCons (mC (.int 0)) (mCons (mC (.int 0)) mNil)))) (gTp 2 (gCn (gNm 13) (gCn (gNm 14) gNl))))
def b_law_s128 : MS := (mSet 15 (mCB fDictB (mCons (mLc (mRng1 (mCons (mCB fLen (mCons (mVar 6) mNil)) mNil)) (.nm 9) mYes (mTup (mCons (mB dIx (mB dIx (mVar 2) (mVar 9)) (mC (.int 0))) (mCons (mB dIx (mVar 6) (mVar 9)) mNil))) [9]) mNil)))
def b_law_s129 : MS := (mSet 10 (mB dIx (mB dIx (mVar 2) (mVar 14)) (mC (.int 0))))
def b_law_s130 : MS := (mAsg (mIf (mTB (mB dEq (mVar 5) (mVar 13))) (mB dSub (mB dSub (mB dShl (mC (.int 1)) (mB dIx (mB dIx (mVar 2) (mVar 14)) (mC (.int 1)))) (mC (.int 1))) (mB dIx (mVar 15) (mVar 10))) (mB dIx (mVar 15) (mVar 10))) (gSub' (mVar 15) (mVar 10)))
def b_law_s131 : MS := (mDrop (mMeth "Wave" "add" f_Wave_add 2 [] (mVar 12) (mCons (mVar 15) mNil)))
def b_law_L127 : MS := (mSeq b_law_s128
  (mSeq b_law_s129
  (mSeq b_law_s130
  b_law_s131)))
def b_law_s127 : MS := (mFor (mEnu (mCons (mVar 4) mNil)) (gTp 2 (gCn (gNm 5) (gCn (gNm 6) gNl))) b_law_L127)
def b_law_s133 : MS := (mRet (mC (.bl false)))
def b_law_s132 : MS := (mIfS (mOr (mTB (mB dNe (mMeth "Wave" "first_unlike" f_Wave_first_unlike 2 [] (mVar 3) (mCons (mVar 12) mNil)) (mIf (mTB (mB dNe (mVar 4) (mLst mNil))) (mTup (mCons (mVar 13) (mCons (mB dIx (mB dIx (mVar 2) (mVar 14)) (mC (.int 0))) mNil))) (mC .non)))) (mTB (mB (dIs true) (mMeth "Wave" "first_unlike" f_Wave_first_unlike 2 [] (mVar 3) (mCons (mVar 3) mNil)) (mC .non)))) b_law_s133 mPass)
def b_law_s134 : MS := (mSet 15 (mCB fDictB (mCons (mLc (mSrc (mVar 2)) (.tp [10, 11]) mYes (mTup (mCons (mVar 10) (mCons (mC (.int 0)) mNil))) [10, 11]) mNil)))
def b_law_s135 : MS := (mAsg (mB dIx (mVar 2) (mCall f__law_roll 2 [] (mCons (mVar 1) (mCons (mCB fLen (mCons (mVar 2) mNil)) mNil)))) (gTp 2 (gCn (gNm 10) (gCn (gNm 11) gNl))))
def b_law_L109 : MS := (mSeq b_law_s110
  (mSeq b_law_s111
  (mSeq b_law_s112
  (mSeq b_law_s116
  (mSeq b_law_s117
  (mSeq b_law_s120
  (mSeq b_law_s122
  (mSeq b_law_s125
  (mSeq b_law_s126
  (mSeq b_law_s127
  (mSeq b_law_s132
  (mSeq b_law_s134
  (mSeq b_law_s135
  (mForget 16 (mIfS (mOr (mTB (mB dNe (mLamComp subT qsT clT "RunError" [18] [(mMeth "Wave" "add" f_Wave_add 2 [] (mVar 3) (mCons mEmp mNil)), (mMeth "Wave" "add" f_Wave_add 2 [] (mVar 3) (mCons (mCB fDictB (mCons (mB dAdd (mLi (mVar 15)) (mLst (mCons (mTup (mCons (mVar 10) (mCons (mB dShl (mC (.int 1)) (mVar 11)) mNil))) mNil))) mNil)) mNil)), (mMeth "Wave" "add" f_Wave_add 2 [] (mVar 3) (mCons (mCB fDictB (mCons (mB dAdd (mLi (mVar 15)) (mLst (mCons (mTup (mCons (mVar 10) (mCons (mU dNeg (mC (.int 1))) mNil))) mNil))) mNil)) mNil)), (mMeth "Wave" "changes" f_Wave_changes 2 [] (mVar 3) (mCons (mC (.str "zz")) mNil))]) (mLst mNil))) (mTB (mB dNe (mAttr ["Wave"] "rows" (mVar 3)) (mVar 4)))) b_law_s142 mPass)))))))))))))))
def b_law_s109 : MS := (mFor (mSrc (mCall f__law_rounds 2 [] (mCons (mVar 0) (mCons (mC (.int 1)) mNil)))) (gNm 1) b_law_L109)
def b_law_s143 : MS := (mSet 17 (mLst (mCons (mC (.str "")) (mCons (mC (.str "a 1")) (mCons (mC (.str "a 1\n")) (mCons (mC (.str "a\n\n")) (mCons (mC (.str "a 0\n\n")) (mCons (mC (.str "a 33\n\n")) (mCons (mC (.str "A 1\n\n")) (mCons (mC (.str "a 1\n\n0 a=1\n")) (mCons (mC (.str "a 1\n\n#1 a=1\n")) (mCons (mC (.str "a 1\n\n#0\n")) (mCons (mC (.str "a 1\n\n#0 a=2\n")) (mCons (mC (.str "a 1\n\n#0 b=1\n")) (mCons (mC (.str "a 1\n\n#0 a=1\n#0 a=0\n")) (mCons (mC (.str "a 1\n\n#0 a=x\n")) (mCons (mC (.str "a 1\na 1\n\n")) (mCons (mC (.str "a 1\n\n#0 a\n")) (mCons (mC (.str "a 01\n\n")) (mCons (mC (.str "a 1\n\n#0 a=1\n#100001\n")) mNil))))))))))))))))))))
def b_law_s146 : MS := (mRet (mC (.bl false)))
def b_law_s144 : MS := (mIfS (mTB (mB dNe (mLc (mSrc (mVar 17)) (.nm 19) (mTB (mB dNe (mTold subT qsT clT (mCall f_read_wave 1 [] (mCons (mVar 19) mNil))) (mC (.str "RunError")))) (mVar 19) [19]) (mLst mNil))) b_law_s146 mPass)
def b_law_s147 : MS := (mRet (mAndV (mB dEq (mAttr ["Wave"] "rows" (mCall f_read_wave 1 [] (mCons (mC (.str "a 2\n\n#0 a=3\n#4 a=1\n")) mNil))) (mLst (mCons (mTup (mCons (mC (.int 3)) mNil)) (mCons (mTup (mCons (mC (.int 3)) mNil)) (mCons (mTup (mCons (mC (.int 3)) mNil)) (mCons (mTup (mCons (mC (.int 3)) mNil)) (mCons (mTup (mCons (mC (.int 1)) mNil)) mNil))))))) (mAndV (mB dEq (mCall f_head_of 1 [] (mCons (mC (.str "a 4")) mNil)) (mTup (mCons (mC (.str "a")) (mCons (mC (.int 4)) mNil)))) (mAndV (mB dEq (mCall f_number_of_text 1 [] (mCons (mC (.str "10")) mNil)) (mC (.int 10))) (mB dEq (mTold subT qsT clT (mCall f_number_of_text 1 [] (mCons (mC (.str "12345678901")) mNil))) (mC (.str "RunError")))))))
def b_law : MS := (mSeq b_law_s109
  (mSeq b_law_s143
  (mSeq b_law_s144
  b_law_s147)))
def f_law : List D → SM D := mFun 20 b_law
end K18

set_option Elab.async false
set_option linter.all false
set_option maxRecDepth 100000
set_option maxHeartbeats 1000000
namespace K18
open PySem PySem.Spec PyProof.Rows L2 Y
def top (i : Nat) : Stmt := PySem.Challenge.pw_chipstack_k18_waves_as_texts.main.body.getD i (.Pass ⟨0, 0, 0, 0⟩)
structure Fx (K : PySem.W.Frag) (mg : Str → Option Value) (c : Ct) : Prop where
  triv : True
  a_rows : Att c K ["Wave"] "rows"
  a_widths : Att c K ["Wave"] "widths"
  b_abs : mg "abs" = none
  b_any : mg "any" = none
  b_dict : mg "dict" = none
  b_enumerate : mg "enumerate" = none
  b_int : mg "int" = none
  b_len : mg "len" = none
  b_list : mg "list" = none
  b_range : mg "range" = none
  b_str : mg "str" = none
  b_tuple : mg "tuple" = none
  b_zip : mg "zip" = none
  g_LETTERS_OF_NAMES : GK mg c "LETTERS_OF_NAMES" K_LETTERS_OF_NAMES
  x_RunError : Exo K mg c "RunError"
theorem k_Wave___init__ {P : Program} {w : World} {K : PySem.W.Frag} {mg : Str → Option Value} {base : Heap} {cls : Str → Addr} {T : List (Addr × Str)} (F : Fx K mg (Ct.mk K cls T))  {f : Addr} {cdv : Value} {A : Around} {outer : List Env} {s : Shared} {H : Hp} {E : XK}
    (hr : Room 0 (A.deeper (envOfC "Wave.__init__" (defScope (inClass (top 5) 0)) s.heap.objs.size f cdv))) :
    PSs (cxOf (L2.CX P w) P w K mg base N_Wave___init__ "Wave.__init__" (defScope (inClass (top 5) 0)) f cdv A outer s H E) (defBody (inClass (top 5) 0)) (rdS (Ct.mk K cls T) E b_Wave___init__) := by
  have nd : (N_Wave___init__).Nodup := by decide +kernel
  have tk : Takes (cxOf (L2.CX P w) P w K mg base N_Wave___init__ "Wave.__init__" (defScope (inClass (top 5) 0)) f cdv A outer s H E) (fun cls d _ H => E cls d H) := takes_of rfl rfl rfl rfl
  have hx := passesT tk
  have hp : PassesOwn _ _ _ (cxOf (L2.CX P w) P w K mg base N_Wave___init__ "Wave.__init__" (defScope (inClass (top 5) 0)) f cdv A outer s H E).xe := passes_of rfl
  have hu : (A.deeper (envOfC "Wave.__init__" (defScope (inClass (top 5) 0)) s.heap.objs.size f cdv)).units + 1 < cLine := Nat.lt_of_le_of_lt (Nat.add_le_add_left (show 1 ≤ 64 by decide) _) hr.units
  exact (qss_cons (qs_fld F.a_widths (qe_var (pv 0)) (qe_cb (pe_callTy call_tupG rfl F.b_tuple boot_tuple (qa_cons (qe_var (pv 1)) qa_nil)) snd_tupG) rfl)
    (qss_one (qs_fld F.a_rows (qe_var (pv 0)) (qe_lst qa_nil) rfl)))
theorem s_Wave___init__ : FnScope N_Wave___init__ ["self", "widths"] (defScope (inClass (top 5) 0)) := ⟨rfl, rfl, rfl, by decide +kernel, rfl, by decide +kernel, by decide +kernel⟩
theorem k_Wave_add {P : Program} {w : World} {K : PySem.W.Frag} {mg : Str → Option Value} {base : Heap} {cls : Str → Addr} {T : List (Addr × Str)} (F : Fx K mg (Ct.mk K cls T))  {f : Addr} {cdv : Value} {A : Around} {outer : List Env} {s : Shared} {H : Hp} {E : XK}
    (hr : Room 0 (A.deeper (envOfC "Wave.add" (defScope (inClass (top 5) 1)) s.heap.objs.size f cdv))) :
    PSs (cxOf (L2.CX P w) P w K mg base N_Wave_add "Wave.add" (defScope (inClass (top 5) 1)) f cdv A outer s H E) (defBody (inClass (top 5) 1)) (rdS (Ct.mk K cls T) E b_Wave_add) := by
  have nd : (N_Wave_add).Nodup := by decide +kernel
  have tk : Takes (cxOf (L2.CX P w) P w K mg base N_Wave_add "Wave.add" (defScope (inClass (top 5) 1)) f cdv A outer s H E) (fun cls d _ H => E cls d H) := takes_of rfl rfl rfl rfl
  have hx := passesT tk
  have hp : PassesOwn _ _ _ (cxOf (L2.CX P w) P w K mg base N_Wave_add "Wave.add" (defScope (inClass (top 5) 1)) f cdv A outer s H E).xe := passes_of rfl
  have hu : (A.deeper (envOfC "Wave.add" (defScope (inClass (top 5) 1)) s.heap.objs.size f cdv)).units + 1 < cLine := Nat.lt_of_le_of_lt (Nat.add_le_add_left (show 1 ≤ 64 by decide) _) hr.units
  exact (qss_cons (qs_set (i := 2) nd rfl (.inl rfl) (qe_lst qa_nil))
    (qss_cons (qs_for hp rfl (qi_seq rfl (qe_attr F.a_widths (qe_var (pv 0)) rfl)) (qg_tup rfl rfl (qgs_cons (qg_name nd rfl (.inl rfl)) (qgs_cons (qg_name nd rfl (.inl rfl)) qgs_nil))) (qss_cons (qs_if (qt_pw (qw_or (qt_cmp (op_notinA hu) snd_in (qe_var (pv 3)) (qe_var (pv 1)) rfl) (qw_or1 (qt_not (qt_chain op_le snd_le op_lt snd_lt pure_okB qe_int (qe_ix (ix_A hu) snd_ix (qe_var (pv 1)) (qe_var (pv 3)) (fun _ _ => rfl)) (qe_bin op_shl snd_shl qe_int (qe_var (pv 4)))))))) (qss_one (qs_raise F.x_RunError rfl tk rfl)) qss_nil)
    (qss_one (qs_expr (qe_bm rfl PySem.F.plainAttrs_list PySem.F.slot_list_append PySem.F.type_list_append mt_append snd_append (qe_var (pv 2)) (qa_cons (qe_ix (ix_A hu) snd_ix (qe_var (pv 1)) (qe_var (pv 3)) (fun _ _ => rfl)) qa_nil))))))
    (qss_one (qs_expr (qe_bm rfl PySem.F.plainAttrs_list PySem.F.slot_list_append PySem.F.type_list_append mt_append snd_append (qe_attr F.a_rows (qe_var (pv 0)) rfl) (qa_cons (qe_cb (pe_callTy call_tupG rfl F.b_tuple boot_tuple (qa_cons (qe_var (pv 2)) qa_nil)) snd_tupG) qa_nil))))))
theorem s_Wave_add : FnScope N_Wave_add ["self", "table"] (defScope (inClass (top 5) 1)) := ⟨rfl, rfl, rfl, by decide +kernel, rfl, by decide +kernel, by decide +kernel⟩
theorem k_Wave_wave_text {P : Program} {w : World} {K : PySem.W.Frag} {mg : Str → Option Value} {base : Heap} {cls : Str → Addr} {T : List (Addr × Str)} (F : Fx K mg (Ct.mk K cls T))  {f : Addr} {cdv : Value} {A : Around} {outer : List Env} {s : Shared} {H : Hp} {E : XK}
    (hr : Room 0 (A.deeper (envOfC "Wave.wave_text" (defScope (inClass (top 5) 2)) s.heap.objs.size f cdv))) :
    PSs (cxOf (L2.CX P w) P w K mg base N_Wave_wave_text "Wave.wave_text" (defScope (inClass (top 5) 2)) f cdv A outer s H E) (defBody (inClass (top 5) 2)) (rdS (Ct.mk K cls T) E b_Wave_wave_text) := by
  have nd : (N_Wave_wave_text).Nodup := by decide +kernel
  have tk : Takes (cxOf (L2.CX P w) P w K mg base N_Wave_wave_text "Wave.wave_text" (defScope (inClass (top 5) 2)) f cdv A outer s H E) (fun cls d _ H => E cls d H) := takes_of rfl rfl rfl rfl
  have hx := passesT tk
  have hp : PassesOwn _ _ _ (cxOf (L2.CX P w) P w K mg base N_Wave_wave_text "Wave.wave_text" (defScope (inClass (top 5) 2)) f cdv A outer s H E).xe := passes_of rfl
  have hu : (A.deeper (envOfC "Wave.wave_text" (defScope (inClass (top 5) 2)) s.heap.objs.size f cdv)).units + 1 < cLine := Nat.lt_of_le_of_lt (Nat.add_le_add_left (show 1 ≤ 64 by decide) _) hr.units
  exact (qss_cons (qs_par rfl nd rfl rfl (by decide) rfl rfl (qa_cons (qe_bin op_addA snd_add (qe_lc (own := [("name", 7), ("width", 8)]) (fl_of rfl rfl tk) rfl rfl nd (qi_seq rfl (qe_attr F.a_widths (qe_var (pv 0)) rfl)) (blkOk_by (show blkC N_Wave_wave_text (defScope (inClass (top 5) 2)) _ _ = true from by decide +kernel)) (fun s1 H1 cl1 fp1 px1 fx1 => (qt_tup rfl (qt_cons nd rfl (by first | exact .inl rfl | exact .inr rfl) (qt_cons nd rfl (by first | exact .inl rfl | exact .inr rfl) qt_nil)))) (fun s1 H1 cl1 fp1 px1 fx1 => qy_nil) (fun s1 H1 cl1 fp1 px1 fx1 => (qe_joined (ms := [(mFmt (mVar 7)), (mC (.str " ")), (mFmt (mVar 8))]) (.cons (qe_fmt (qe_var (pv 7))) (.cons qe_str (.cons (qe_fmt (qe_var (pv 8))) .nil)))))) (qe_lst (qa_cons qe_str qa_nil))) (qa_cons qe_non qa_nil)) rfl)
    (qss_cons (qs_for hp rfl (qi_enu rfl rfl F.b_enumerate (qa_cons (qe_attr F.a_rows (qe_var (pv 0)) rfl) qa_nil)) (qg_tup rfl rfl (qgs_cons (qg_name nd rfl (.inl rfl)) (qgs_cons (qg_name nd rfl (.inl rfl)) qgs_nil))) (qss_cons (qs_set (i := 5) nd rfl (.inl rfl) (qe_lst qa_nil))
    (qss_cons (qs_for hp rfl (qi_enu rfl rfl F.b_enumerate (qa_cons (qe_attr F.a_widths (qe_var (pv 0)) rfl) qa_nil)) (qg_tup rfl rfl (qgs_cons (qg_name nd rfl (.inl rfl)) (qgs_cons (qg_tup rfl rfl (qgs_cons (qg_name nd rfl (.inl rfl)) (qgs_cons (qg_name nd rfl (.inl rfl)) qgs_nil))) qgs_nil))) (qss_one (qs_if (qt_pw (qw_or (qt_cmp op_isA snd_is (qe_var (pv 2)) qe_non rfl) (qw_or1 (qt_cmp (op_neD hr.units) snd_ne (qe_ix (ix_A hu) snd_ix (qe_var (pv 2)) (qe_var (pv 6)) (fun _ _ => rfl)) (qe_ix (ix_A hu) snd_ix (qe_var (pv 4)) (qe_var (pv 6)) (fun _ _ => rfl)) rfl)))) (qss_one (qs_expr (qe_bm rfl PySem.F.plainAttrs_list PySem.F.slot_list_append PySem.F.type_list_append mt_append snd_append (qe_var (pv 5)) (qa_cons (qe_joined (ms := [(mFmt (mVar 7)), (mC (.str "=")), (mFmt (mB dIx (mVar 4) (mVar 6)))]) (.cons (qe_fmt (qe_var (pv 7))) (.cons qe_str (.cons (qe_fmt (qe_ix (ix_A hu) snd_ix (qe_var (pv 4)) (qe_var (pv 6)) (fun _ _ => rfl))) .nil)))) qa_nil)))) qss_nil)))
    (qss_cons (qs_if (qt_pw (qw_or (qt_cmp (op_neD hr.units) snd_ne (qe_var (pv 5)) (qe_lst qa_nil) rfl) (qw_or1 (qt_cmp (op_eqD hr.units) snd_eq (qe_var (pv 3)) (qe_bin op_sub snd_sub (qe_cb (pe_callB call_lenA rfl F.b_len boot_len (qa_cons (qe_attr F.a_rows (qe_var (pv 0)) rfl) qa_nil)) snd_len) qe_int) rfl)))) (qss_one (qs_expr (qe_bm rfl PySem.F.plainAttrs_list PySem.F.slot_list_append PySem.F.type_list_append mt_append snd_append (qe_var (pv 1)) (qa_cons (qe_bm rfl PySem.F.plainAttrs_str PySem.F.slot_str_join PySem.F.type_str_join mt_join snd_join qe_str (qa_cons (qe_bin op_addA snd_add (qe_lst (qa_cons (qe_joined (ms := [(mC (.str "#")), (mFmt (mVar 3))]) (.cons qe_str (.cons (qe_fmt (qe_var (pv 3))) .nil))) qa_nil)) (qe_var (pv 5))) qa_nil)) qa_nil)))) qss_nil)
    (qss_one (qs_set (i := 2) nd rfl (.inl rfl) (qe_var (pv 4))))))))
    (qss_one (qs_ret (qe_bm rfl PySem.F.plainAttrs_str PySem.F.slot_str_join PySem.F.type_str_join mt_join snd_join qe_str (qa_cons (qe_lc (own := [("line", 9)]) (fl_of rfl rfl tk) rfl rfl nd (qi_seq rfl (qe_var (pv 1))) (blkOk_by (show blkC N_Wave_wave_text (defScope (inClass (top 5) 2)) _ _ = true from by decide +kernel)) (fun s1 H1 cl1 fp1 px1 fx1 => (qt_name nd rfl (by first | exact .inl rfl | exact .inr rfl))) (fun s1 H1 cl1 fp1 px1 fx1 => qy_nil) (fun s1 H1 cl1 fp1 px1 fx1 => (qe_bin op_addA snd_add (qe_var (pv 9)) qe_str))) qa_nil))))))
theorem s_Wave_wave_text : FnScope N_Wave_wave_text ["self"] (defScope (inClass (top 5) 2)) := ⟨rfl, rfl, rfl, by decide +kernel, rfl, by decide +kernel, by decide +kernel⟩
theorem k_Wave_changes {P : Program} {w : World} {K : PySem.W.Frag} {mg : Str → Option Value} {base : Heap} {cls : Str → Addr} {T : List (Addr × Str)} (F : Fx K mg (Ct.mk K cls T))  {f : Addr} {cdv : Value} {A : Around} {outer : List Env} {s : Shared} {H : Hp} {E : XK}
    (hr : Room 0 (A.deeper (envOfC "Wave.changes" (defScope (inClass (top 5) 3)) s.heap.objs.size f cdv))) :
    PSs (cxOf (L2.CX P w) P w K mg base N_Wave_changes "Wave.changes" (defScope (inClass (top 5) 3)) f cdv A outer s H E) (defBody (inClass (top 5) 3)) (rdS (Ct.mk K cls T) E b_Wave_changes) := by
  have nd : (N_Wave_changes).Nodup := by decide +kernel
  have tk : Takes (cxOf (L2.CX P w) P w K mg base N_Wave_changes "Wave.changes" (defScope (inClass (top 5) 3)) f cdv A outer s H E) (fun cls d _ H => E cls d H) := takes_of rfl rfl rfl rfl
  have hx := passesT tk
  have hp : PassesOwn _ _ _ (cxOf (L2.CX P w) P w K mg base N_Wave_changes "Wave.changes" (defScope (inClass (top 5) 3)) f cdv A outer s H E).xe := passes_of rfl
  have hu : (A.deeper (envOfC "Wave.changes" (defScope (inClass (top 5) 3)) s.heap.objs.size f cdv)).units + 1 < cLine := Nat.lt_of_le_of_lt (Nat.add_le_add_left (show 1 ≤ 64 by decide) _) hr.units
  exact (qss_cons (qs_setLc (i := 2) (own := [("place", 6), ("row", 5)]) (fl_of rfl rfl tk) rfl rfl nd rfl rfl (sw_true rfl rfl rfl rfl) (qi_enu rfl rfl F.b_enumerate (qa_cons (qe_attr F.a_widths (qe_var (pv 0)) rfl) qa_nil)) (blkOk_by (show blkC N_Wave_changes (defScope (inClass (top 5) 3)) _ _ = true from by decide +kernel)) (fun s1 H1 cl1 fp1 px1 fx1 => (qt_tup rfl (qt_cons nd rfl (by first | exact .inl rfl | exact .inr rfl) (qt_cons nd rfl (by first | exact .inl rfl | exact .inr rfl) qt_nil)))) (fun s1 H1 cl1 fp1 px1 fx1 => (pts_one (qt_cmp (op_eqD hr.units) snd_eq (qe_ix (ix_A hu) snd_ix (qe_var (pv 5)) qe_int (fun _ _ => rfl)) (qe_var (pv 1)) rfl))) (fun s1 H1 cl1 fp1 px1 fx1 => (qe_var (pv 6))))
    (qss_cons (qs_if (qt_cmp (op_eqD hr.units) snd_eq (qe_var (pv 2)) (qe_lst qa_nil) rfl) (qss_one (qs_raise F.x_RunError rfl tk rfl)) qss_nil)
    (qss_cons (qs_set (i := 3) nd rfl (.inl rfl) (qe_lst qa_nil))
    (qss_cons (qs_for hp rfl (qi_enu rfl rfl F.b_enumerate (qa_cons (qe_attr F.a_rows (qe_var (pv 0)) rfl) qa_nil)) (qg_tup rfl rfl (qgs_cons (qg_name nd rfl (.inl rfl)) (qgs_cons (qg_name nd rfl (.inl rfl)) qgs_nil))) (qss_one (qs_if (qt_pw (qw_or (qt_cmp (op_eqD hr.units) snd_eq (qe_var (pv 3)) (qe_lst qa_nil) rfl) (qw_or1 (qt_cmp (op_neD hr.units) snd_ne (qe_ix (ix_A hu) snd_ix (qe_ix (ix_A hu) snd_ix (qe_var (pv 3)) (qe_un un_neg snd_neg qe_int) (fun _ _ => rfl)) qe_int (fun _ _ => rfl)) (qe_ix (ix_A hu) snd_ix (qe_var (pv 5)) (qe_ix (ix_A hu) snd_ix (qe_var (pv 2)) qe_int (fun _ _ => rfl)) (fun _ _ => rfl)) rfl)))) (qss_one (qs_expr (qe_bm rfl PySem.F.plainAttrs_list PySem.F.slot_list_append PySem.F.type_list_append mt_append snd_append (qe_var (pv 3)) (qa_cons (qe_tup (qa_cons (qe_var (pv 4)) (qa_cons (qe_ix (ix_A hu) snd_ix (qe_var (pv 5)) (qe_ix (ix_A hu) snd_ix (qe_var (pv 2)) qe_int (fun _ _ => rfl)) (fun _ _ => rfl)) qa_nil))) qa_nil)))) qss_nil)))
    (qss_one (qs_ret (qe_cb (pe_callTy call_tupG rfl F.b_tuple boot_tuple (qa_cons (qe_var (pv 3)) qa_nil)) snd_tupG)))))))
theorem s_Wave_changes : FnScope N_Wave_changes ["self", "name"] (defScope (inClass (top 5) 3)) := ⟨rfl, rfl, rfl, by decide +kernel, rfl, by decide +kernel, by decide +kernel⟩
theorem k_Wave_first_unlike {P : Program} {w : World} {K : PySem.W.Frag} {mg : Str → Option Value} {base : Heap} {cls : Str → Addr} {T : List (Addr × Str)} (F : Fx K mg (Ct.mk K cls T))  {f : Addr} {cdv : Value} {A : Around} {outer : List Env} {s : Shared} {H : Hp} {E : XK}
    (hr : Room 0 (A.deeper (envOfC "Wave.first_unlike" (defScope (inClass (top 5) 4)) s.heap.objs.size f cdv))) :
    PSs (cxOf (L2.CX P w) P w K mg base N_Wave_first_unlike "Wave.first_unlike" (defScope (inClass (top 5) 4)) f cdv A outer s H E) (defBody (inClass (top 5) 4)) (rdS (Ct.mk K cls T) E b_Wave_first_unlike) := by
  have nd : (N_Wave_first_unlike).Nodup := by decide +kernel
  have tk : Takes (cxOf (L2.CX P w) P w K mg base N_Wave_first_unlike "Wave.first_unlike" (defScope (inClass (top 5) 4)) f cdv A outer s H E) (fun cls d _ H => E cls d H) := takes_of rfl rfl rfl rfl
  have hx := passesT tk
  have hp : PassesOwn _ _ _ (cxOf (L2.CX P w) P w K mg base N_Wave_first_unlike "Wave.first_unlike" (defScope (inClass (top 5) 4)) f cdv A outer s H E).xe := passes_of rfl
  have hu : (A.deeper (envOfC "Wave.first_unlike" (defScope (inClass (top 5) 4)) s.heap.objs.size f cdv)).units + 1 < cLine := Nat.lt_of_le_of_lt (Nat.add_le_add_left (show 1 ≤ 64 by decide) _) hr.units
  exact (qss_cons (qs_for hp rfl (qi_enz rfl ⟨rfl, rfl⟩ F.b_enumerate F.b_zip (qa_cons (qe_attr F.a_rows (qe_var (pv 0)) rfl) (qa_cons (qe_attr F.a_rows (qe_var (pv 1)) rfl) qa_nil))) (qg_tup rfl rfl (qgs_cons (qg_name nd rfl (.inl rfl)) (qgs_cons (qg_tup rfl rfl (qgs_cons (qg_name nd rfl (.inl rfl)) (qgs_cons (qg_name nd rfl (.inl rfl)) qgs_nil))) qgs_nil))) (qss_one (qs_for hp rfl (qi_enu rfl rfl F.b_enumerate (qa_cons (qe_attr F.a_widths (qe_var (pv 0)) rfl) qa_nil)) (qg_tup rfl rfl (qgs_cons (qg_name nd rfl (.inl rfl)) (qgs_cons (qg_tup rfl rfl (qgs_cons (qg_name nd rfl (.inl rfl)) (qgs_cons (qg_name nd rfl (.inl rfl)) qgs_nil))) qgs_nil))) (qss_one (qs_if (qt_cmp (op_neD hr.units) snd_ne (qe_ix (ix_A hu) snd_ix (qe_var (pv 3)) (qe_var (pv 5)) (fun _ _ => rfl)) (qe_ix (ix_A hu) snd_ix (qe_var (pv 4)) (qe_var (pv 5)) (fun _ _ => rfl)) rfl) (qss_one (qs_ret (qe_tup (qa_cons (qe_var (pv 2)) (qa_cons (qe_var (pv 6)) qa_nil))))) qss_nil)))))
    (qss_one (qs_ret qe_non)))
theorem s_Wave_first_unlike : FnScope N_Wave_first_unlike ["self", "other"] (defScope (inClass (top 5) 4)) := ⟨rfl, rfl, rfl, by decide +kernel, rfl, by decide +kernel, by decide +kernel⟩
theorem k_number_of_text {P : Program} {w : World} {K : PySem.W.Frag} {mg : Str → Option Value} {base : Heap} {cls : Str → Addr} {T : List (Addr × Str)} (F : Fx K mg (Ct.mk K cls T))  {f : Addr} {cdv : Value} {A : Around} {outer : List Env} {s : Shared} {H : Hp} {E : XK} {cc Pt : Addr} (TB : LamX.TabB base mg cc Pt) (hcd : cdv = .ref cc) (hmT : (Pt, (("number_of_text.<locals>." : Str) ++ ("<genexpr>" : Str))) ∈ T) (huT : ∀ p ∈ T, p.1 = Pt → p.2 = (("number_of_text.<locals>." : Str) ++ ("<genexpr>" : Str)))
    (hr : Room 0 (A.deeper (envOfC "number_of_text" (defScope (top 8)) s.heap.objs.size f cdv))) :
    PSs (cxOf (L2.CX P w) P w K mg base N_number_of_text "number_of_text" (defScope (top 8)) f cdv A outer s H E) (defBody (top 8)) (rdS (Ct.mk K cls T) E b_number_of_text) := by
  have nd : (N_number_of_text).Nodup := by decide +kernel
  have tk : Takes (cxOf (L2.CX P w) P w K mg base N_number_of_text "number_of_text" (defScope (top 8)) f cdv A outer s H E) (fun cls d _ H => E cls d H) := takes_of rfl rfl rfl rfl
  have hx := passesT tk
  have hp : PassesOwn _ _ _ (cxOf (L2.CX P w) P w K mg base N_number_of_text "number_of_text" (defScope (top 8)) f cdv A outer s H E).xe := passes_of rfl
  have hu : (A.deeper (envOfC "number_of_text" (defScope (top 8)) s.heap.objs.size f cdv)).units + 1 < cLine := Nat.lt_of_le_of_lt (Nat.add_le_add_left (show 1 ≤ 64 by decide) _) hr.units
  exact (qss_cons (qs_if (qt_pw (qw_or (qt_not (qt_chain op_lt snd_lt op_lt snd_lt pure_okB qe_int (qe_cb (pe_callB call_lenA rfl F.b_len boot_len (qa_cons (qe_var (pv 0)) qa_nil)) snd_len) qe_int)) (qw_or (qt_val (qe_anyS hr rfl F.b_any TB hcd hmT huT (genS_by (show genSB _ _ = true from by decide +kernel)) (qe_var (pv 0)) (eg_notIn (a := "0123456789") rfl rfl tg_k))) (qw_or1 (qt_pw (qw_and (qt_cmp (op_eqD hr.units) snd_eq (qe_ix (ix_A hu) snd_ix (qe_var (pv 0)) qe_int (fun _ _ => rfl)) qe_str rfl) (qw_and1 (qt_cmp op_gt snd_gt (qe_cb (pe_callB call_lenA rfl F.b_len boot_len (qa_cons (qe_var (pv 0)) qa_nil)) snd_len) qe_int rfl)))))))) (qss_one (qs_raise F.x_RunError rfl tk rfl)) qss_nil)
    (qss_one (qs_ret (qe_cb (pe_callTy call_intA rfl F.b_int boot_int (qa_cons (qe_var (pv 0)) qa_nil)) snd_int))))
theorem s_number_of_text : FnScope N_number_of_text ["text"] (defScope (top 8)) := ⟨rfl, rfl, rfl, by decide +kernel, rfl, by decide +kernel, by decide +kernel⟩
theorem k_head_of {P : Program} {w : World} {K : PySem.W.Frag} {mg : Str → Option Value} {base : Heap} {cls : Str → Addr} {T : List (Addr × Str)} (F : Fx K mg (Ct.mk K cls T)) (G_number_of_text : Gfn P w K mg base (Ct.mk K cls T) 1 "number_of_text" 1 [] f_number_of_text) {f : Addr} {cdv : Value} {A : Around} {outer : List Env} {s : Shared} {H : Hp} {E : XK} {cc Pt : Addr} (TB : LamX.TabB base mg cc Pt) (hcd : cdv = .ref cc) (hmT : (Pt, (("head_of.<locals>." : Str) ++ ("<genexpr>" : Str))) ∈ T) (huT : ∀ p ∈ T, p.1 = Pt → p.2 = (("head_of.<locals>." : Str) ++ ("<genexpr>" : Str)))
    (hr : Room 1 (A.deeper (envOfC "head_of" (defScope (top 7)) s.heap.objs.size f cdv))) :
    PSs (cxOf (L2.CX P w) P w K mg base N_head_of "head_of" (defScope (top 7)) f cdv A outer s H E) (defBody (top 7)) (rdS (Ct.mk K cls T) E b_head_of) := by
  have nd : (N_head_of).Nodup := by decide +kernel
  have tk : Takes (cxOf (L2.CX P w) P w K mg base N_head_of "head_of" (defScope (top 7)) f cdv A outer s H E) (fun cls d _ H => E cls d H) := takes_of rfl rfl rfl rfl
  have hx := passesT tk
  have hp : PassesOwn _ _ _ (cxOf (L2.CX P w) P w K mg base N_head_of "head_of" (defScope (top 7)) f cdv A outer s H E).xe := passes_of rfl
  have hu : (A.deeper (envOfC "head_of" (defScope (top 7)) s.heap.objs.size f cdv)).units + 1 < cLine := Nat.lt_of_le_of_lt (Nat.add_le_add_left (show 1 ≤ 64 by decide) _) hr.units
  exact (qss_cons (qs_asg (qe_bm rfl PySem.F.plainAttrs_str PySem.F.slot_str_partition PySem.F.type_str_partition mt_partition snd_part (qe_var (pv 0)) (qa_cons qe_str qa_nil)) (qg_tup rfl rfl (qgs_cons (qg_name nd rfl (.inl rfl)) (qgs_cons (qg_name nd rfl (.inl rfl)) (qgs_cons (qg_name nd rfl (.inl rfl)) qgs_nil)))))
    (qss_cons (qs_if (qt_pw (qw_or (qt_cmp (op_eqD hr.units) snd_eq (qe_var (pv 1)) qe_str rfl) (qw_or (qt_val (qe_anyS hr rfl F.b_any TB hcd hmT huT (genS_by (show genSB _ _ = true from by decide +kernel)) (qe_var (pv 1)) (eg_notIn (a := "abcdefghijklmnopqrstuvwxyz0123456789") rfl rfl (tg_g rfl rfl F.g_LETTERS_OF_NAMES)))) (qw_or1 (qt_not (qt_chain op_le snd_le op_le snd_le pure_okB qe_int (qe_call G_number_of_text (hr.mono (by omega)) rfl hx (qa_cons (qe_var (pv 3)) qa_nil)) qe_int)))))) (qss_one (qs_raise F.x_RunError rfl tk rfl)) qss_nil)
    (qss_one (qs_ret (qe_tup (qa_cons (qe_var (pv 1)) (qa_cons (qe_call G_number_of_text (hr.mono (by omega)) rfl hx (qa_cons (qe_var (pv 3)) qa_nil)) qa_nil)))))))
theorem s_head_of : FnScope N_head_of ["line"] (defScope (top 7)) := ⟨rfl, rfl, rfl, by decide +kernel, rfl, by decide +kernel, by decide +kernel⟩
theorem k_read_wave {P : Program} {w : World} {K : PySem.W.Frag} {mg : Str → Option Value} {base : Heap} {cls : Str → Addr} {T : List (Addr × Str)} (F : Fx K mg (Ct.mk K cls T)) (G_Wave___init__ : Gk P w K mg base (Ct.mk K cls T) 1 "Wave" 2 [] f_Wave___init__) (G_head_of : Gfn P w K mg base (Ct.mk K cls T) 2 "head_of" 1 [] f_head_of) (G_number_of_text : Gfn P w K mg base (Ct.mk K cls T) 1 "number_of_text" 1 [] f_number_of_text) (G_Wave_add : Gm' P w K mg base (Ct.mk K cls T) 1 "Wave" "add" 2 [] f_Wave_add) {f : Addr} {cdv : Value} {A : Around} {outer : List Env} {s : Shared} {H : Hp} {E : XK}
    (hr : Room 2 (A.deeper (envOfC "read_wave" (defScope (top 6)) s.heap.objs.size f cdv))) :
    PSs (cxOf (L2.CX P w) P w K mg base N_read_wave "read_wave" (defScope (top 6)) f cdv A outer s H E) (defBody (top 6)) (rdS (Ct.mk K cls T) E b_read_wave) := by
  have nd : (N_read_wave).Nodup := by decide +kernel
  have tk : Takes (cxOf (L2.CX P w) P w K mg base N_read_wave "read_wave" (defScope (top 6)) f cdv A outer s H E) (fun cls d _ H => E cls d H) := takes_of rfl rfl rfl rfl
  have hx := passesT tk
  have hp : PassesOwn _ _ _ (cxOf (L2.CX P w) P w K mg base N_read_wave "read_wave" (defScope (top 6)) f cdv A outer s H E).xe := passes_of rfl
  have hu : (A.deeper (envOfC "read_wave" (defScope (top 6)) s.heap.objs.size f cdv)).units + 1 < cLine := Nat.lt_of_le_of_lt (Nat.add_le_add_left (show 1 ≤ 64 by decide) _) hr.units
  exact (qss_cons (qs_set (i := 1) nd rfl (.inl rfl) (qe_bm rfl PySem.F.plainAttrs_str PySem.F.slot_str_split PySem.F.type_str_split mt_split snd_split (qe_var (pv 0)) (qa_cons qe_str qa_nil)))
    (qss_cons (qs_if (qt_pw (qw_or (qt_cmp (op_neD hr.units) snd_ne (qe_ix (ix_A hu) snd_ix (qe_var (pv 1)) (qe_un un_neg snd_neg qe_int) (fun _ _ => rfl)) qe_str rfl) (qw_or1 (qt_cmp (op_notinA hu) snd_in qe_str (qe_sl rfl (qe_var (pv 1)) qo_no (qo_e (qe_un un_neg snd_neg qe_int))) rfl)))) (qss_one (qs_raise F.x_RunError rfl tk rfl)) qss_nil)
    (qss_cons (qs_set (i := 2) nd rfl (.inl rfl) (qe_bm rfl PySem.F.plainAttrs_list PySem.F.slot_list_index PySem.F.type_list_index mt_index snd_lix (qe_var (pv 1)) (qa_cons qe_str qa_nil)))
    (qss_cons (qs_set (i := 3) nd rfl (.inl rfl) (qe_make G_Wave___init__ (hr.mono (by omega)) rfl hx (qa_cons (qe_lc (own := [("line", 5)]) (fl_of rfl rfl tk) rfl rfl nd (qi_seq rfl (qe_sl rfl (qe_var (pv 1)) qo_no (qo_e (qe_var (pv 2))))) (blkOk_by (show blkC N_read_wave (defScope (top 6)) _ _ = true from by decide +kernel)) (fun s1 H1 cl1 fp1 px1 fx1 => (qt_name nd rfl (by first | exact .inl rfl | exact .inr rfl))) (fun s1 H1 cl1 fp1 px1 fx1 => qy_nil) (fun s1 H1 cl1 fp1 px1 fx1 => (qe_call G_head_of (hr.mono (by omega)) rfl px1 (qa_cons (qe_var (pv 5)) qa_nil)))) qa_nil)))
    (qss_cons (qs_if (qt_cmp (op_neD hr.units) snd_ne (qe_cb (pe_callB call_lenA rfl F.b_len boot_len (qa_cons (qe_cb (pe_callTy (call_dictB rfl) rfl F.b_dict boot_dict (qa_cons (qe_attr F.a_widths (qe_var (pv 3)) rfl) qa_nil)) snd_dictB) qa_nil)) snd_len) (qe_cb (pe_callB call_lenA rfl F.b_len boot_len (qa_cons (qe_attr F.a_widths (qe_var (pv 3)) rfl) qa_nil)) snd_len) rfl) (qss_one (qs_raise F.x_RunError rfl tk rfl)) qss_nil)
    (qss_cons (qs_set (i := 4) nd rfl (.inl rfl) qe_emp)
    (qss_cons (qs_for hp rfl (qi_seq rfl (qe_sl rfl (qe_var (pv 1)) (qo_e (qe_bin op_addA snd_add (qe_var (pv 2)) qe_int)) (qo_e (qe_un un_neg snd_neg qe_int)))) (qg_name nd rfl (.inl rfl)) (qss_cons (qs_set (i := 6) nd rfl (.inl rfl) (qe_bm rfl PySem.F.plainAttrs_str PySem.F.slot_str_split PySem.F.type_str_split mt_split snd_split (qe_var (pv 5)) (qa_cons qe_str qa_nil)))
    (qss_cons (qs_set (i := 7) nd rfl (.inl rfl) (qe_if (qt_val (qe_bm rfl PySem.F.plainAttrs_str PySem.F.slot_str_startswith PySem.F.type_str_startswith mt_startswith snd_txB (qe_ix (ix_A hu) snd_ix (qe_var (pv 6)) qe_int (fun _ _ => rfl)) (qa_cons qe_str qa_nil))) (qe_call G_number_of_text (hr.mono (by omega)) rfl hx (qa_cons (qe_sl rfl (qe_ix (ix_A hu) snd_ix (qe_var (pv 6)) qe_int (fun _ _ => rfl)) (qo_e qe_int) qo_no) qa_nil)) (qe_bin op_sub snd_sub qe_int qe_int)))
    (qss_cons (qs_if (qt_pw (qw_or (qt_cmp op_lt snd_lt (qe_var (pv 7)) (qe_cb (pe_callB call_lenA rfl F.b_len boot_len (qa_cons (qe_attr F.a_rows (qe_var (pv 3)) rfl) qa_nil)) snd_len) rfl) (qw_or (qt_cmp op_gt snd_gt (qe_var (pv 7)) qe_int rfl) (qw_or1 (qt_pw (qw_and (qt_cmp op_gt snd_gt (qe_var (pv 7)) qe_int rfl) (qw_and1 (qt_cmp (op_eqD hr.units) snd_eq (qe_attr F.a_rows (qe_var (pv 3)) rfl) (qe_lst qa_nil) rfl)))))))) (qss_one (qs_raise F.x_RunError rfl tk rfl)) qss_nil)
    (qss_cons (qs_while FU hp (qt_cmp op_lt snd_lt (qe_cb (pe_callB call_lenA rfl F.b_len boot_len (qa_cons (qe_attr F.a_rows (qe_var (pv 3)) rfl) qa_nil)) snd_len) (qe_var (pv 7)) rfl) (qss_one (qs_expr (qe_meth G_Wave_add (hr.mono (by omega)) hx (qe_var (pv 3)) (qa_cons (qe_var (pv 4)) qa_nil)))))
    (qss_cons (qs_for hp rfl (qi_seq rfl (qe_sl rfl (qe_var (pv 6)) (qo_e qe_int) qo_no)) (qg_name nd rfl (.inl rfl)) (qss_cons (qs_asg (qe_bm rfl PySem.F.plainAttrs_str PySem.F.slot_str_partition PySem.F.type_str_partition mt_partition snd_part (qe_var (pv 8)) (qa_cons qe_str qa_nil)) (qg_tup rfl rfl (qgs_cons (qg_name nd rfl (.inl rfl)) (qgs_cons (qg_name nd rfl (.inl rfl)) (qgs_cons (qg_name nd rfl (.inl rfl)) qgs_nil)))))
    (qss_cons (qs_if (qt_pw (qw_or (qt_cmp (op_notinA hu) snd_in (qe_var (pv 9)) (qe_cb (pe_callTy (call_dictB rfl) rfl F.b_dict boot_dict (qa_cons (qe_attr F.a_widths (qe_var (pv 3)) rfl) qa_nil)) snd_dictB) rfl) (qw_or1 (qt_cmp (op_eqD hr.units) snd_eq (qe_var (pv 10)) qe_str rfl)))) (qss_one (qs_raise F.x_RunError rfl tk rfl)) qss_nil)
    (qss_one (qs_asg (qe_call G_number_of_text (hr.mono (by omega)) rfl hx (qa_cons (qe_var (pv 11)) qa_nil)) (qg_sub hu (qe_var (pv 4)) (qe_var (pv 9)) (fun _ => rfl)))))))
    (qss_one (qs_expr (qe_meth G_Wave_add (hr.mono (by omega)) hx (qe_var (pv 3)) (qa_cons (qe_var (pv 4)) qa_nil))))))))))
    (qss_one (qs_ret (qe_var (pv 3)))))))))))
theorem s_read_wave : FnScope N_read_wave ["text"] (defScope (top 6)) := ⟨rfl, rfl, rfl, by decide +kernel, rfl, by decide +kernel, by decide +kernel⟩
theorem k__law_dice {P : Program} {w : World} {K : PySem.W.Frag} {mg : Str → Option Value} {base : Heap} {cls : Str → Addr} {T : List (Addr × Str)} (F : Fx K mg (Ct.mk K cls T))  {f : Addr} {cdv : Value} {A : Around} {outer : List Env} {s : Shared} {H : Hp} {E : XK}
    (hr : Room 0 (A.deeper (envOfC "_law_dice" (defScope (top 10)) s.heap.objs.size f cdv))) :
    PSs (cxOf (L2.CX P w) P w K mg base N__law_dice "_law_dice" (defScope (top 10)) f cdv A outer s H E) (defBody (top 10)) (rdS (Ct.mk K cls T) E b__law_dice) := by
  have nd : (N__law_dice).Nodup := by decide +kernel
  have tk : Takes (cxOf (L2.CX P w) P w K mg base N__law_dice "_law_dice" (defScope (top 10)) f cdv A outer s H E) (fun cls d _ H => E cls d H) := takes_of rfl rfl rfl rfl
  have hx := passesT tk
  have hp : PassesOwn _ _ _ (cxOf (L2.CX P w) P w K mg base N__law_dice "_law_dice" (defScope (top 10)) f cdv A outer s H E).xe := passes_of rfl
  have hu : (A.deeper (envOfC "_law_dice" (defScope (top 10)) s.heap.objs.size f cdv)).units + 1 < cLine := Nat.lt_of_le_of_lt (Nat.add_le_add_left (show 1 ≤ 64 by decide) _) hr.units
  exact (qss_cons (qs_if (qt_chain op_lt snd_lt op_lt snd_lt pure_okB (qe_bin op_sub snd_sub qe_int qe_int) (qe_var (pv 0)) qe_int) (qss_one (qs_ret (qe_lst (qa_cons (qe_cb (pe_callB call_abs rfl F.b_abs boot_abs (qa_cons (qe_var (pv 0)) qa_nil)) snd_abs) (qa_cons qe_int (qa_cons qe_int qa_nil)))))) qss_nil)
    (qss_one (qs_ret (qe_lst (qa_cons (qe_var (pv 0)) (qa_cons (qe_bin op_addA snd_add qe_int (qe_bin op_mod snd_mod (qe_cb (pe_callTy call_intA rfl F.b_int boot_int (qa_cons (qe_var (pv 0)) qa_nil)) snd_int) qe_int)) (qa_cons (qe_cb (pe_callTy call_intA rfl F.b_int boot_int (qa_cons (qe_cmp op_ge snd_ge (qe_var (pv 0)) (qe_bin op_pow snd_pow qe_int qe_int) rfl) qa_nil)) snd_int) qa_nil)))))))
theorem s__law_dice : FnScope N__law_dice ["cell"] (defScope (top 10)) := ⟨rfl, rfl, rfl, by decide +kernel, rfl, by decide +kernel, by decide +kernel⟩
theorem k__law_roll {P : Program} {w : World} {K : PySem.W.Frag} {mg : Str → Option Value} {base : Heap} {cls : Str → Addr} {T : List (Addr × Str)} (F : Fx K mg (Ct.mk K cls T))  {f : Addr} {cdv : Value} {A : Around} {outer : List Env} {s : Shared} {H : Hp} {E : XK}
    (hr : Room 0 (A.deeper (envOfC "_law_roll" (defScope (top 11)) s.heap.objs.size f cdv))) :
    PSs (cxOf (L2.CX P w) P w K mg base N__law_roll "_law_roll" (defScope (top 11)) f cdv A outer s H E) (defBody (top 11)) (rdS (Ct.mk K cls T) E b__law_roll) := by
  have nd : (N__law_roll).Nodup := by decide +kernel
  have tk : Takes (cxOf (L2.CX P w) P w K mg base N__law_roll "_law_roll" (defScope (top 11)) f cdv A outer s H E) (fun cls d _ H => E cls d H) := takes_of rfl rfl rfl rfl
  have hx := passesT tk
  have hp : PassesOwn _ _ _ (cxOf (L2.CX P w) P w K mg base N__law_roll "_law_roll" (defScope (top 11)) f cdv A outer s H E).xe := passes_of rfl
  have hu : (A.deeper (envOfC "_law_roll" (defScope (top 11)) s.heap.objs.size f cdv)).units + 1 < cLine := Nat.lt_of_le_of_lt (Nat.add_le_add_left (show 1 ≤ 64 by decide) _) hr.units
  exact (qss_cons (qs_if (qt_pw (qw_or (qt_cmp (op_eqD hr.units) snd_eq (qe_ix (ix_A hu) snd_ix (qe_var (pv 0)) qe_int (fun _ _ => rfl)) qe_int rfl) (qw_or1 (qt_pw (qw_and (qt_cmp (op_eqD hr.units) snd_eq (qe_ix (ix_A hu) snd_ix (qe_var (pv 0)) qe_int (fun _ _ => rfl)) qe_int rfl) (qw_and1 (qt_cmp op_gt snd_gt (qe_ix (ix_A hu) snd_ix (qe_var (pv 0)) qe_int (fun _ _ => rfl)) qe_int rfl))))))) (qss_cons (qs_set (i := 2) nd rfl (.inl rfl) (qe_bin op_mod snd_mod (qe_cb (pe_callTy call_intA rfl F.b_int boot_int (qa_cons (qe_ix (ix_A hu) snd_ix (qe_var (pv 0)) qe_int (fun _ _ => rfl)) qa_nil)) snd_int) (qe_var (pv 1))))
    (qss_cons (qs_asg (qe_bin op_fdiv snd_fdiv (qe_ix (ix_A hu) snd_ix (qe_var (pv 0)) qe_int (fun _ _ => rfl)) (qe_var (pv 1))) (qg_sub hu (qe_var (pv 0)) qe_int (fun _ => rfl)))
    (qss_one (qs_ret (qe_var (pv 2)))))) qss_nil)
    (qss_cons (qs_asg qe_int (qg_sub hu (qe_var (pv 0)) qe_int (fun _ => rfl)))
    (qss_cons (qs_if (qt_cmp op_gt snd_gt (qe_var (pv 1)) qe_int rfl) (qss_one (qs_ret (qe_bin op_mod snd_mod (qe_cb (pe_callTy call_intA rfl F.b_int boot_int (qa_cons (qe_bin op_addA snd_add (qe_bin op_mulS snd_mulS qe_bad qe_int) qe_bad) qa_nil)) snd_int) (qe_var (pv 1))))) qss_nil)
    (qss_cons (qs_asg (qe_bin op_mod snd_mod (qe_cb (pe_callTy call_intA rfl F.b_int boot_int (qa_cons (qe_bin op_addA snd_add (qe_bin op_addA snd_add (qe_bin op_mulS snd_mulS (qe_ix (ix_A hu) snd_ix (qe_var (pv 0)) qe_int (fun _ _ => rfl)) qe_int) (qe_bin op_mulS snd_mulS (qe_ix (ix_A hu) snd_ix (qe_var (pv 0)) qe_int (fun _ _ => rfl)) qe_int)) qe_int) qa_nil)) snd_int) qe_int) (qg_sub hu (qe_var (pv 0)) qe_int (fun _ => rfl)))
    (qss_cons (qs_asg (qe_bin op_addA snd_add (qe_ix (ix_A hu) snd_ix (qe_var (pv 0)) qe_int (fun _ _ => rfl)) qe_int) (qg_sub hu (qe_var (pv 0)) qe_int (fun _ => rfl)))
    (qss_one (qs_ret (qe_bin op_mod snd_mod (qe_cb (pe_callTy call_intA rfl F.b_int boot_int (qa_cons (qe_bin op_fdiv snd_fdiv (qe_ix (ix_A hu) snd_ix (qe_var (pv 0)) qe_int (fun _ _ => rfl)) qe_int) qa_nil)) snd_int) (qe_var (pv 1))))))))))
theorem s__law_roll : FnScope N__law_roll ["dice", "many"] (defScope (top 11)) := ⟨rfl, rfl, rfl, by decide +kernel, rfl, by decide +kernel, by decide +kernel⟩
theorem k__law_rounds {P : Program} {w : World} {K : PySem.W.Frag} {mg : Str → Option Value} {base : Heap} {cls : Str → Addr} {T : List (Addr × Str)} (F : Fx K mg (Ct.mk K cls T)) (G__law_dice : Gfn P w K mg base (Ct.mk K cls T) 1 "_law_dice" 1 [] f__law_dice) {f : Addr} {cdv : Value} {A : Around} {outer : List Env} {s : Shared} {H : Hp} {E : XK}
    (hr : Room 1 (A.deeper (envOfC "_law_rounds" (defScope (top 12)) s.heap.objs.size f cdv))) :
    PSs (cxOf (L2.CX P w) P w K mg base N__law_rounds "_law_rounds" (defScope (top 12)) f cdv A outer s H E) (defBody (top 12)) (rdS (Ct.mk K cls T) E b__law_rounds) := by
  have nd : (N__law_rounds).Nodup := by decide +kernel
  have tk : Takes (cxOf (L2.CX P w) P w K mg base N__law_rounds "_law_rounds" (defScope (top 12)) f cdv A outer s H E) (fun cls d _ H => E cls d H) := takes_of rfl rfl rfl rfl
  have hx := passesT tk
  have hp : PassesOwn _ _ _ (cxOf (L2.CX P w) P w K mg base N__law_rounds "_law_rounds" (defScope (top 12)) f cdv A outer s H E).xe := passes_of rfl
  have hu : (A.deeper (envOfC "_law_rounds" (defScope (top 12)) s.heap.objs.size f cdv)).units + 1 < cLine := Nat.lt_of_le_of_lt (Nat.add_le_add_left (show 1 ≤ 64 by decide) _) hr.units
  exact (qss_cons (qs_set (i := 2) nd rfl (.inl rfl) (qe_sl rfl (qe_var (pv 0)) qo_no (qo_e (qe_var (pv 1)))))
    (qss_cons (qs_if (qt_cmp (op_eqD hr.units) snd_eq (qe_var (pv 2)) (qe_lst qa_nil) rfl) (qss_one (qs_set (i := 2) nd rfl (.inl rfl) (qe_lst (qa_cons qe_int qa_nil)))) qss_nil)
    (qss_one (qs_ret (qe_lc (own := [("cell", 3)]) (fl_of rfl rfl tk) rfl rfl nd (qi_seq rfl (qe_var (pv 2))) (blkOk_by (show blkC N__law_rounds (defScope (top 12)) _ _ = true from by decide +kernel)) (fun s1 H1 cl1 fp1 px1 fx1 => (qt_name nd rfl (by first | exact .inl rfl | exact .inr rfl))) (fun s1 H1 cl1 fp1 px1 fx1 => qy_nil) (fun s1 H1 cl1 fp1 px1 fx1 => (qe_call G__law_dice (hr.mono (by omega)) rfl px1 (qa_cons (qe_var (pv 3)) qa_nil))))))))
theorem s__law_rounds : FnScope N__law_rounds ["script", "most"] (defScope (top 12)) := ⟨rfl, rfl, rfl, by decide +kernel, rfl, by decide +kernel, by decide +kernel⟩
theorem k_law {P : Program} {w : World} {K : PySem.W.Frag} {mg : Str → Option Value} {base : Heap} {cls : Str → Addr} {T : List (Addr × Str)} (F : Fx K mg (Ct.mk K cls T)) (G__law_rounds : Gfn P w K mg base (Ct.mk K cls T) 2 "_law_rounds" 2 [] f__law_rounds) (G_Wave_add : Gm' P w K mg base (Ct.mk K cls T) 1 "Wave" "add" 2 [] f_Wave_add) (G_Wave_changes : Gm' P w K mg base (Ct.mk K cls T) 1 "Wave" "changes" 2 [] f_Wave_changes) (G__law_roll : Gfn P w K mg base (Ct.mk K cls T) 1 "_law_roll" 2 [] f__law_roll) (G_Wave___init__ : Gk P w K mg base (Ct.mk K cls T) 1 "Wave" 2 [] f_Wave___init__) (G_Wave_wave_text : Gm' P w K mg base (Ct.mk K cls T) 1 "Wave" "wave_text" 1 [] f_Wave_wave_text) (G_read_wave : Gfn P w K mg base (Ct.mk K cls T) 3 "read_wave" 1 [] f_read_wave) (G_Wave_first_unlike : Gm' P w K mg base (Ct.mk K cls T) 1 "Wave" "first_unlike" 2 [] f_Wave_first_unlike) (G_head_of : Gfn P w K mg base (Ct.mk K cls T) 2 "head_of" 1 [] f_head_of) (G_number_of_text : Gfn P w K mg base (Ct.mk K cls T) 1 "number_of_text" 1 [] f_number_of_text) {f : Addr} {cdv : Value} {A : Around} {outer : List Env} {s : Shared} {H : Hp} {E : XK} (hT : Told P w K mg base (Ct.mk K cls T) "_law_told" subT qsT clT) {cc Pt : Addr} (TB : LamX.TabB base mg cc Pt) (hcd : cdv = .ref cc) (hmT : (Pt, (("law.<locals>." : Str) ++ ("<lambda>" : Str))) ∈ T) (huT : ∀ p ∈ T, p.1 = Pt → p.2 = (("law.<locals>." : Str) ++ ("<lambda>" : Str)))
    (hr : Room 5 (A.deeper (envOfC "law" (defScope (top 14)) s.heap.objs.size f cdv))) :
    PSs (cxOf (L2.CX P w) P w K mg base N_law "law" (defScope (top 14)) f cdv A outer s H E) (defBody (top 14)) (rdS (Ct.mk K cls T) E b_law) := by
  have nd : (N_law).Nodup := by decide +kernel
  have tk : Takes (cxOf (L2.CX P w) P w K mg base N_law "law" (defScope (top 14)) f cdv A outer s H E) (fun cls d _ H => E cls d H) := takes_of rfl rfl rfl rfl
  have hx := passesT tk
  have hp : PassesOwn _ _ _ (cxOf (L2.CX P w) P w K mg base N_law "law" (defScope (top 14)) f cdv A outer s H E).xe := passes_of rfl
  have hu : (A.deeper (envOfC "law" (defScope (top 14)) s.heap.objs.size f cdv)).units + 1 < cLine := Nat.lt_of_le_of_lt (Nat.add_le_add_left (show 1 ≤ 64 by decide) _) hr.units
  exact (qss_cons (qs_for hp rfl (qi_seq rfl (qe_call G__law_rounds (hr.mono (by omega)) rfl hx (qa_cons (qe_var (pv 0)) (qa_cons qe_int qa_nil)))) (qg_name nd rfl (.inr rfl)) (qss_cons (qs_set (i := 2) nd rfl (.inr rfl) (qe_lc (own := [("k", 9)]) (fl_of rfl rfl tk) rfl rfl nd (qi_rng1 rfl F.b_range (qa_cons (qe_bin op_addA snd_add qe_int (qe_call G__law_roll (hr.mono (by omega)) rfl hx (qa_cons (qe_var (pv 1)) (qa_cons qe_int qa_nil)))) qa_nil)) (blkOk_by (show blkC N_law (defScope (top 14)) _ _ = true from by decide +kernel)) (fun s1 H1 cl1 fp1 px1 fx1 => (qt_name nd rfl (by first | exact .inl rfl | exact .inr rfl))) (fun s1 H1 cl1 fp1 px1 fx1 => qy_nil) (fun s1 H1 cl1 fp1 px1 fx1 => (qe_tup (qa_cons (qe_ix (ix_A hu) snd_ix (qe_lst (qa_cons qe_str (qa_cons qe_str (qa_cons qe_str (qa_cons qe_str qa_nil))))) (qe_var (pv 9)) (fun _ _ => rfl)) (qa_cons (qe_bin op_addA snd_add qe_int (qe_call G__law_roll (hr.mono (by omega)) rfl px1 (qa_cons (qe_var (pv 1)) (qa_cons qe_int qa_nil)))) qa_nil))))))
    (qss_cons (qs_asg (qe_tup (qa_cons (qe_make G_Wave___init__ (hr.mono (by omega)) rfl hx (qa_cons (qe_var (pv 2)) qa_nil)) (qa_cons (qe_lst qa_nil) qa_nil))) (qg_tup rfl rfl (qgs_cons (qg_name nd rfl (.inr rfl)) (qgs_cons (qg_name nd rfl (.inr rfl)) qgs_nil))))
    (qss_cons (qs_for hp rfl (qi_rng1 rfl F.b_range (qa_cons (qe_call G__law_roll (hr.mono (by omega)) rfl hx (qa_cons (qe_var (pv 1)) (qa_cons qe_int qa_nil))) qa_nil)) (qg_name nd rfl (.inr rfl)) (qss_cons (qs_set (i := 6) nd rfl (.inr rfl) (qe_if (qt_pw (qw_and (qt_cmp op_gt snd_gt (qe_var (pv 5)) qe_int rfl) (qw_and1 (qt_cmp (op_eqD hr.units) snd_eq (qe_call G__law_roll (hr.mono (by omega)) rfl hx (qa_cons (qe_var (pv 1)) (qa_cons qe_int qa_nil))) qe_int rfl)))) (qe_ix (ix_A hu) snd_ix (qe_var (pv 4)) (qe_bin op_sub snd_sub (qe_var (pv 5)) qe_int) (fun _ _ => rfl)) (qe_cb (pe_callTy call_tupG rfl F.b_tuple boot_tuple (qa_cons (qe_lc (own := [("name", 10), ("width", 11)]) (fl_of rfl rfl tk) rfl rfl nd (qi_seq rfl (qe_var (pv 2))) (blkOk_by (show blkC N_law (defScope (top 14)) _ _ = true from by decide +kernel)) (fun s1 H1 cl1 fp1 px1 fx1 => (qt_tup rfl (qt_cons nd rfl (by first | exact .inl rfl | exact .inr rfl) (qt_cons nd rfl (by first | exact .inl rfl | exact .inr rfl) qt_nil)))) (fun s1 H1 cl1 fp1 px1 fx1 => qy_nil) (fun s1 H1 cl1 fp1 px1 fx1 => (qe_call G__law_roll (hr.mono (by omega)) rfl px1 (qa_cons (qe_var (pv 1)) (qa_cons (qe_bin op_shl snd_shl qe_int (qe_var (pv 11))) qa_nil))))) qa_nil)) snd_tupG)))
    (qss_cons (qs_expr (qe_bm rfl PySem.F.plainAttrs_list PySem.F.slot_list_append PySem.F.type_list_append mt_append snd_append (qe_var (pv 4)) (qa_cons (qe_var (pv 6)) qa_nil)))
    (qss_one (qs_expr (qe_meth G_Wave_add (hr.mono (by omega)) hx (qe_var (pv 3)) (qa_cons (qe_cb (pe_callTy (call_dictB rfl) rfl F.b_dict boot_dict (qa_cons (qe_lc (own := [("k", 9)]) (fl_of rfl rfl tk) rfl rfl nd (qi_rng1 rfl F.b_range (qa_cons (qe_cb (pe_callB call_lenA rfl F.b_len boot_len (qa_cons (qe_var (pv 6)) qa_nil)) snd_len) qa_nil)) (blkOk_by (show blkC N_law (defScope (top 14)) _ _ = true from by decide +kernel)) (fun s1 H1 cl1 fp1 px1 fx1 => (qt_name nd rfl (by first | exact .inl rfl | exact .inr rfl))) (fun s1 H1 cl1 fp1 px1 fx1 => qy_nil) (fun s1 H1 cl1 fp1 px1 fx1 => (qe_tup (qa_cons (qe_ix (ix_A hu) snd_ix (qe_ix (ix_A hu) snd_ix (qe_var (pv 2)) (qe_var (pv 9)) (fun _ _ => rfl)) qe_int (fun _ _ => rfl)) (qa_cons (qe_ix (ix_A hu) snd_ix (qe_var (pv 6)) (qe_var (pv 9)) (fun _ _ => rfl)) qa_nil))))) qa_nil)) snd_dictB) qa_nil)))))))
    (qss_cons (qs_set (i := 7) nd rfl (.inl rfl) (qe_bin op_addA snd_add (qe_bm rfl PySem.F.plainAttrs_str PySem.F.slot_str_join PySem.F.type_str_join mt_join snd_join qe_str (qa_cons (qe_lc (own := [("name", 10), ("width", 11)]) (fl_of rfl rfl tk) rfl rfl nd (qi_seq rfl (qe_var (pv 2))) (blkOk_by (show blkC N_law (defScope (top 14)) _ _ = true from by decide +kernel)) (fun s1 H1 cl1 fp1 px1 fx1 => (qt_tup rfl (qt_cons nd rfl (by first | exact .inl rfl | exact .inr rfl) (qt_cons nd rfl (by first | exact .inl rfl | exact .inr rfl) qt_nil)))) (fun s1 H1 cl1 fp1 px1 fx1 => qy_nil) (fun s1 H1 cl1 fp1 px1 fx1 => (qe_bin op_addA snd_add (qe_bin op_addA snd_add (qe_bin op_addA snd_add (qe_var (pv 10)) qe_str) (qe_cb (pe_callTy call_str_int rfl F.b_str boot_str (qa_cons (qe_var (pv 11)) qa_nil)) snd_str)) qe_str))) qa_nil)) qe_str))
    (qss_cons (qs_for hp rfl (qi_enu rfl rfl F.b_enumerate (qa_cons (qe_var (pv 4)) qa_nil)) (qg_tup rfl rfl (qgs_cons (qg_name nd rfl (.inr rfl)) (qgs_cons (qg_name nd rfl (.inr rfl)) qgs_nil))) (qss_cons (qs_setLc (i := 8) (own := [("k", 9)]) (fl_of rfl rfl tk) rfl rfl nd rfl rfl (sw_true rfl rfl rfl rfl) (qi_rng1 rfl F.b_range (qa_cons (qe_cb (pe_callB call_lenA rfl F.b_len boot_len (qa_cons (qe_var (pv 6)) qa_nil)) snd_len) qa_nil)) (blkOk_by (show blkC N_law (defScope (top 14)) _ _ = true from by decide +kernel)) (fun s1 H1 cl1 fp1 px1 fx1 => (qt_name nd rfl (by first | exact .inl rfl | exact .inr rfl))) (fun s1 H1 cl1 fp1 px1 fx1 => (pts_one (qt_pw (qw_or (qt_cmp (op_eqD hr.units) snd_eq (qe_var (pv 5)) qe_int rfl) (qw_or1 (qt_cmp (op_neD hr.units) snd_ne (qe_ix (ix_A hu) snd_ix (qe_ix (ix_A hu) snd_ix (qe_var (pv 4)) (qe_bin op_sub snd_sub (qe_var (pv 5)) qe_int) (fun _ _ => rfl)) (qe_var (pv 9)) (fun _ _ => rfl)) (qe_ix (ix_A hu) snd_ix (qe_var (pv 6)) (qe_var (pv 9)) (fun _ _ => rfl)) rfl)))))) (fun s1 H1 cl1 fp1 px1 fx1 => (qe_bin op_addA snd_add (qe_bin op_addA snd_add (qe_ix (ix_A hu) snd_ix (qe_ix (ix_A hu) snd_ix (qe_var (pv 2)) (qe_var (pv 9)) (fun _ _ => rfl)) qe_int (fun _ _ => rfl)) qe_str) (qe_cb (pe_callTy call_str_int rfl F.b_str boot_str (qa_cons (qe_ix (ix_A hu) snd_ix (qe_var (pv 6)) (qe_var (pv 9)) (fun _ _ => rfl)) qa_nil)) snd_str))))
    (qss_one (qs_set (i := 7) nd rfl (.inl rfl) (qe_bin op_addA snd_add (qe_var (pv 7)) (qe_if (qt_pw (qw_or (qt_cmp (op_neD hr.units) snd_ne (qe_var (pv 8)) (qe_lst qa_nil) rfl) (qw_or1 (qt_cmp (op_eqD hr.units) snd_eq (qe_var (pv 5)) (qe_bin op_sub snd_sub (qe_cb (pe_callB call_lenA rfl F.b_len boot_len (qa_cons (qe_var (pv 4)) qa_nil)) snd_len) qe_int) rfl)))) (qe_bin op_addA snd_add (qe_bm rfl PySem.F.plainAttrs_str PySem.F.slot_str_join PySem.F.type_str_join mt_join snd_join qe_str (qa_cons (qe_bin op_addA snd_add (qe_lst (qa_cons (qe_bin op_addA snd_add qe_str (qe_cb (pe_callTy call_str_int rfl F.b_str boot_str (qa_cons (qe_var (pv 5)) qa_nil)) snd_str)) qa_nil)) (qe_var (pv 8))) qa_nil)) qe_str) qe_str))))))
    (qss_cons (qs_if (qt_pw (qw_or (qt_cmp (op_neD hr.units) snd_ne (qe_attr F.a_rows (qe_var (pv 3)) rfl) (qe_var (pv 4)) rfl) (qw_or (qt_cmp (op_neD hr.units) snd_ne (qe_meth0 G_Wave_wave_text (hr.mono (by omega)) hx (qe_var (pv 3))) (qe_var (pv 7)) rfl) (qw_or (qt_cmp (op_neD hr.units) snd_ne (qe_attr F.a_rows (qe_call G_read_wave (hr.mono (by omega)) rfl hx (qa_cons (qe_var (pv 7)) qa_nil)) rfl) (qe_var (pv 4)) rfl) (qw_or1 (qt_cmp (op_neD hr.units) snd_ne (qe_cb (pe_callTy call_list_of rfl F.b_list boot_list (qa_cons (qe_attr F.a_widths (qe_call G_read_wave (hr.mono (by omega)) rfl hx (qa_cons (qe_var (pv 7)) qa_nil)) rfl) qa_nil)) snd_list) (qe_var (pv 2)) rfl)))))) (qss_one (qs_ret qe_bl)) qss_nil)
    (qss_cons (qs_for hp rfl (qi_enu rfl rfl F.b_enumerate (qa_cons (qe_var (pv 2)) qa_nil)) (qg_tup rfl rfl (qgs_cons (qg_name nd rfl (.inr rfl)) (qgs_cons (qg_tup rfl rfl (qgs_cons (qg_name nd rfl (.inr rfl)) (qgs_cons (qg_name nd rfl (.inr rfl)) qgs_nil))) qgs_nil))) (qss_one (qs_if (qt_cmp (op_neD hr.units) snd_ne (qe_cb (pe_callTy call_list_of rfl F.b_list boot_list (qa_cons (qe_meth G_Wave_changes (hr.mono (by omega)) hx (qe_var (pv 3)) (qa_cons (qe_var (pv 10)) qa_nil)) qa_nil)) snd_list) (qe_lc (own := [("beat", 5), ("row", 6)]) (fl_of rfl rfl tk) rfl rfl nd (qi_enu rfl rfl F.b_enumerate (qa_cons (qe_var (pv 4)) qa_nil)) (blkOk_by (show blkC N_law (defScope (top 14)) _ _ = true from by decide +kernel)) (fun s1 H1 cl1 fp1 px1 fx1 => (qt_tup rfl (qt_cons nd rfl (by first | exact .inl rfl | exact .inr rfl) (qt_cons nd rfl (by first | exact .inl rfl | exact .inr rfl) qt_nil)))) (fun s1 H1 cl1 fp1 px1 fx1 => (pts_one (qt_pw (qw_or (qt_cmp (op_eqD hr.units) snd_eq (qe_var (pv 5)) qe_int rfl) (qw_or1 (qt_cmp (op_neD hr.units) snd_ne (qe_ix (ix_A hu) snd_ix (qe_ix (ix_A hu) snd_ix (qe_var (pv 4)) (qe_bin op_sub snd_sub (qe_var (pv 5)) qe_int) (fun _ _ => rfl)) (qe_var (pv 9)) (fun _ _ => rfl)) (qe_ix (ix_A hu) snd_ix (qe_var (pv 6)) (qe_var (pv 9)) (fun _ _ => rfl)) rfl)))))) (fun s1 H1 cl1 fp1 px1 fx1 => (qe_tup (qa_cons (qe_var (pv 5)) (qa_cons (qe_ix (ix_A hu) snd_ix (qe_var (pv 6)) (qe_var (pv 9)) (fun _ _ => rfl)) qa_nil))))) rfl) (qss_one (qs_ret qe_bl)) qss_nil)))
    (qss_cons (qs_set (i := 12) nd rfl (.inl rfl) (qe_make G_Wave___init__ (hr.mono (by omega)) rfl hx (qa_cons (qe_var (pv 2)) qa_nil)))
    (qss_cons (qs_asg (qe_if (qt_cmp (op_neD hr.units) snd_ne (qe_var (pv 4)) (qe_lst qa_nil) rfl) (qe_tup (qa_cons (qe_call G__law_roll (hr.mono (by omega)) rfl hx (qa_cons (qe_var (pv 1)) (qa_cons (qe_cb (pe_callB call_lenA rfl F.b_len boot_len (qa_cons (qe_var (pv 4)) qa_nil)) snd_len) qa_nil))) (qa_cons (qe_call G__law_roll (hr.mono (by omega)) rfl hx (qa_cons (qe_var (pv 1)) (qa_cons (qe_cb (pe_callB call_lenA rfl F.b_len boot_len (qa_cons (qe_var (pv 2)) qa_nil)) snd_len) qa_nil))) qa_nil))) (qe_tup (qa_cons qe_int (qa_cons qe_int qa_nil)))) (qg_tup rfl rfl (qgs_cons (qg_name nd rfl (.inl rfl)) (qgs_cons (qg_name nd rfl (.inl rfl)) qgs_nil))))
    (qss_cons (qs_for hp rfl (qi_enu rfl rfl F.b_enumerate (qa_cons (qe_var (pv 4)) qa_nil)) (qg_tup rfl rfl (qgs_cons (qg_name nd rfl (.inr rfl)) (qgs_cons (qg_name nd rfl (.inr rfl)) qgs_nil))) (qss_cons (qs_set (i := 15) nd rfl (.inr rfl) (qe_cb (pe_callTy (call_dictB rfl) rfl F.b_dict boot_dict (qa_cons (qe_lc (own := [("k", 9)]) (fl_of rfl rfl tk) rfl rfl nd (qi_rng1 rfl F.b_range (qa_cons (qe_cb (pe_callB call_lenA rfl F.b_len boot_len (qa_cons (qe_var (pv 6)) qa_nil)) snd_len) qa_nil)) (blkOk_by (show blkC N_law (defScope (top 14)) _ _ = true from by decide +kernel)) (fun s1 H1 cl1 fp1 px1 fx1 => (qt_name nd rfl (by first | exact .inl rfl | exact .inr rfl))) (fun s1 H1 cl1 fp1 px1 fx1 => qy_nil) (fun s1 H1 cl1 fp1 px1 fx1 => (qe_tup (qa_cons (qe_ix (ix_A hu) snd_ix (qe_ix (ix_A hu) snd_ix (qe_var (pv 2)) (qe_var (pv 9)) (fun _ _ => rfl)) qe_int (fun _ _ => rfl)) (qa_cons (qe_ix (ix_A hu) snd_ix (qe_var (pv 6)) (qe_var (pv 9)) (fun _ _ => rfl)) qa_nil))))) qa_nil)) snd_dictB))
    (qss_cons (qs_set (i := 10) nd rfl (.inr rfl) (qe_ix (ix_A hu) snd_ix (qe_ix (ix_A hu) snd_ix (qe_var (pv 2)) (qe_var (pv 14)) (fun _ _ => rfl)) qe_int (fun _ _ => rfl)))
    (qss_cons (qs_asg (qe_if (qt_cmp (op_eqD hr.units) snd_eq (qe_var (pv 5)) (qe_var (pv 13)) rfl) (qe_bin op_sub snd_sub (qe_bin op_sub snd_sub (qe_bin op_shl snd_shl qe_int (qe_ix (ix_A hu) snd_ix (qe_ix (ix_A hu) snd_ix (qe_var (pv 2)) (qe_var (pv 14)) (fun _ _ => rfl)) qe_int (fun _ _ => rfl))) qe_int) (qe_ix (ix_A hu) snd_ix (qe_var (pv 15)) (qe_var (pv 10)) (fun _ _ => rfl))) (qe_ix (ix_A hu) snd_ix (qe_var (pv 15)) (qe_var (pv 10)) (fun _ _ => rfl))) (qg_sub hu (qe_var (pv 15)) (qe_var (pv 10)) (fun _ => rfl)))
    (qss_one (qs_expr (qe_meth G_Wave_add (hr.mono (by omega)) hx (qe_var (pv 12)) (qa_cons (qe_var (pv 15)) qa_nil))))))))
    (qss_cons (qs_if (qt_pw (qw_or (qt_cmp (op_neD hr.units) snd_ne (qe_meth G_Wave_first_unlike (hr.mono (by omega)) hx (qe_var (pv 3)) (qa_cons (qe_var (pv 12)) qa_nil)) (qe_if (qt_cmp (op_neD hr.units) snd_ne (qe_var (pv 4)) (qe_lst qa_nil) rfl) (qe_tup (qa_cons (qe_var (pv 13)) (qa_cons (qe_ix (ix_A hu) snd_ix (qe_ix (ix_A hu) snd_ix (qe_var (pv 2)) (qe_var (pv 14)) (fun _ _ => rfl)) qe_int (fun _ _ => rfl)) qa_nil))) qe_non) rfl) (qw_or1 (qt_cmp op_notA snd_isnot (qe_meth G_Wave_first_unlike (hr.mono (by omega)) hx (qe_var (pv 3)) (qa_cons (qe_var (pv 3)) qa_nil)) qe_non rfl)))) (qss_one (qs_ret qe_bl)) qss_nil)
    (qss_cons (qs_set (i := 15) nd rfl (.inr rfl) (qe_cb (pe_callTy (call_dictB rfl) rfl F.b_dict boot_dict (qa_cons (qe_lc (own := [("name", 10), ("width", 11)]) (fl_of rfl rfl tk) rfl rfl nd (qi_seq rfl (qe_var (pv 2))) (blkOk_by (show blkC N_law (defScope (top 14)) _ _ = true from by decide +kernel)) (fun s1 H1 cl1 fp1 px1 fx1 => (qt_tup rfl (qt_cons nd rfl (by first | exact .inl rfl | exact .inr rfl) (qt_cons nd rfl (by first | exact .inl rfl | exact .inr rfl) qt_nil)))) (fun s1 H1 cl1 fp1 px1 fx1 => qy_nil) (fun s1 H1 cl1 fp1 px1 fx1 => (qe_tup (qa_cons (qe_var (pv 10)) (qa_cons qe_int qa_nil))))) qa_nil)) snd_dictB))
    (qss_cons (qs_asg (qe_ix (ix_A hu) snd_ix (qe_var (pv 2)) (qe_call G__law_roll (hr.mono (by omega)) rfl hx (qa_cons (qe_var (pv 1)) (qa_cons (qe_cb (pe_callB call_lenA rfl F.b_len boot_len (qa_cons (qe_var (pv 2)) qa_nil)) snd_len) qa_nil))) (fun _ _ => rfl)) (qg_tup rfl rfl (qgs_cons (qg_name nd rfl (.inr rfl)) (qgs_cons (qg_name nd rfl (.inr rfl)) qgs_nil))))
    (qss_lams (i := 16) (ls := [⟨_, _, _, _⟩, ⟨_, _, _, _⟩, ⟨_, _, _, _⟩, ⟨_, _, _, _⟩]) rfl TB hcd hmT huT nd rfl rfl (fa_cons ⟨LamX.lamS_by (show LamX.lamSB (defScope (top 14)) _ = true from by decide +kernel), rfl⟩ (fa_cons ⟨LamX.lamS_by (show LamX.lamSB (defScope (top 14)) _ = true from by decide +kernel), rfl⟩ (fa_cons ⟨LamX.lamS_by (show LamX.lamSB (defScope (top 14)) _ = true from by decide +kernel), rfl⟩ (fa_cons ⟨LamX.lamS_by (show LamX.lamSB (defScope (top 14)) _ = true from by decide +kernel), rfl⟩ fa_nil)))) (by decide) rfl (fun pl pn sub2 => (qss_oneK (qs_ifK (qt_pwK (qw_orK (qt_cmpK (op_neD hr.units) snd_ne (qe_lamcomp2 (k := 1) (i := 18) rfl hT sub2 rfl nd rfl (.inl rfl) rfl (blkOk_by (show blkC N_law (defScope (top 14)) _ _ = true from by decide +kernel)) (fun _ _ _ _ _ => rfl) (fun _ _ => .inl rfl) (fun _ _ _ _ _ => pg_name nd rfl (.inl rfl)) (hr.mono (by omega)) (by decide +kernel) (.cons (LamX.lamS_by (show LamX.lamSB (defScope (top 14)) _ = true from by decide +kernel)) (fun _ _ _ _ _ => rfl) (fun A2 outer2 s2 H2 E2 f2 c2 hr => by
        have hu := (show _ < cLine from hr.units)
        have hu : _ + 1 < cLine := Nat.lt_of_le_of_lt (Nat.add_le_add_left (show 1 ≤ 64 by decide) _) hu
        exact (qe_meth G_Wave_add (hr.mono (by omega)) passesL (qe_var (pv 3)) (qa_cons qe_emp qa_nil))) (.cons (LamX.lamS_by (show LamX.lamSB (defScope (top 14)) _ = true from by decide +kernel)) (fun _ _ _ _ _ => rfl) (fun A2 outer2 s2 H2 E2 f2 c2 hr => by
        have hu := (show _ < cLine from hr.units)
        have hu : _ + 1 < cLine := Nat.lt_of_le_of_lt (Nat.add_le_add_left (show 1 ≤ 64 by decide) _) hu
        exact (qe_meth G_Wave_add (hr.mono (by omega)) passesL (qe_var (pv 3)) (qa_cons (qe_cb (pe_callTy (call_dictB rfl) rfl F.b_dict boot_dict (qa_cons (qe_bin op_addA snd_add (qe_li rfl rfl F.b_list boot_list (qe_var (pv 15))) (qe_lst (qa_cons (qe_tup (qa_cons (qe_var (pv 10)) (qa_cons (qe_bin op_shl snd_shl qe_int (qe_var (pv 11))) qa_nil))) qa_nil))) qa_nil)) snd_dictB) qa_nil))) (.cons (LamX.lamS_by (show LamX.lamSB (defScope (top 14)) _ = true from by decide +kernel)) (fun _ _ _ _ _ => rfl) (fun A2 outer2 s2 H2 E2 f2 c2 hr => by
        have hu := (show _ < cLine from hr.units)
        have hu : _ + 1 < cLine := Nat.lt_of_le_of_lt (Nat.add_le_add_left (show 1 ≤ 64 by decide) _) hu
        exact (qe_meth G_Wave_add (hr.mono (by omega)) passesL (qe_var (pv 3)) (qa_cons (qe_cb (pe_callTy (call_dictB rfl) rfl F.b_dict boot_dict (qa_cons (qe_bin op_addA snd_add (qe_li rfl rfl F.b_list boot_list (qe_var (pv 15))) (qe_lst (qa_cons (qe_tup (qa_cons (qe_var (pv 10)) (qa_cons (qe_un un_neg snd_neg qe_int) qa_nil))) qa_nil))) qa_nil)) snd_dictB) qa_nil))) (.cons (LamX.lamS_by (show LamX.lamSB (defScope (top 14)) _ = true from by decide +kernel)) (fun _ _ _ _ _ => rfl) (fun A2 outer2 s2 H2 E2 f2 c2 hr => by
        have hu := (show _ < cLine from hr.units)
        have hu : _ + 1 < cLine := Nat.lt_of_le_of_lt (Nat.add_le_add_left (show 1 ≤ 64 by decide) _) hu
        exact (qe_meth G_Wave_changes (hr.mono (by omega)) passesL (qe_var (pv 3)) (qa_cons qe_str qa_nil))) .nil))))) (qe_lst qa_nil) rfl) (qw_or1 (qt_cmp (op_neD hr.units) snd_ne (qe_attr F.a_rows (qe_var (pv 3)) rfl) (qe_var (pv 4)) rfl)))) (qss_one (qs_ret qe_bl)) qss_nil))))))))))))))))))
    (qss_cons (qs_set (i := 17) nd rfl (.inl rfl) (qe_lst (qa_cons qe_str (qa_cons qe_str (qa_cons qe_str (qa_cons qe_str (qa_cons qe_str (qa_cons qe_str (qa_cons qe_str (qa_cons qe_str (qa_cons qe_str (qa_cons qe_str (qa_cons qe_str (qa_cons qe_str (qa_cons qe_str (qa_cons qe_str (qa_cons qe_str (qa_cons qe_str (qa_cons qe_str (qa_cons qe_str qa_nil))))))))))))))))))))
    (qss_cons (qs_if (qt_cmp (op_neD hr.units) snd_ne (qe_lc (own := [("text", 19)]) (fl_of rfl rfl tk) rfl rfl nd (qi_seq rfl (qe_var (pv 17))) (blkOk_by (show blkC N_law (defScope (top 14)) _ _ = true from by decide +kernel)) (fun s1 H1 cl1 fp1 px1 fx1 => (qt_name nd rfl (by first | exact .inl rfl | exact .inr rfl))) (fun s1 H1 cl1 fp1 px1 fx1 => (pts_one (qt_cmp (op_neD hr.units) snd_ne (qe_told (k := 3) hT rfl TB hcd hmT huT (hr.mono (by omega)) (lamS_blk (D := defScope (top 14)) rfl (show LamX.lamSB _ _ = true from by decide +kernel)) (fun A2 outer2 s2 H2 E2 f2 c2 hr => by
      have hu := (show _ < cLine from hr.units)
      have hu : _ + 1 < cLine := Nat.lt_of_le_of_lt (Nat.add_le_add_left (show 1 ≤ 64 by decide) _) hu
      exact (qe_call G_read_wave (hr.mono (by omega)) rfl passesL (qa_cons (qe_var (pv 19)) qa_nil)))) qe_str rfl))) (fun s1 H1 cl1 fp1 px1 fx1 => (qe_var (pv 19)))) (qe_lst qa_nil) rfl) (qss_one (qs_ret qe_bl)) qss_nil)
    (qss_one (qs_ret (qe_and (qe_cmp (op_eqD hr.units) snd_eq (qe_attr F.a_rows (qe_call G_read_wave (hr.mono (by omega)) rfl hx (qa_cons qe_str qa_nil)) rfl) (qe_lst (qa_cons (qe_tup (qa_cons qe_int qa_nil)) (qa_cons (qe_tup (qa_cons qe_int qa_nil)) (qa_cons (qe_tup (qa_cons qe_int qa_nil)) (qa_cons (qe_tup (qa_cons qe_int qa_nil)) (qa_cons (qe_tup (qa_cons qe_int qa_nil)) qa_nil)))))) rfl) (qe_and (qe_cmp (op_eqD hr.units) snd_eq (qe_call G_head_of (hr.mono (by omega)) rfl hx (qa_cons qe_str qa_nil)) (qe_tup (qa_cons qe_str (qa_cons qe_int qa_nil))) rfl) (qe_and (qe_cmp (op_eqD hr.units) snd_eq (qe_call G_number_of_text (hr.mono (by omega)) rfl hx (qa_cons qe_str qa_nil)) qe_int rfl) (qe_one (qe_cmp (op_eqD hr.units) snd_eq (qe_told (k := 1) hT rfl TB hcd hmT huT (hr.mono (by omega)) (LamX.lamS_by (show LamX.lamSB (defScope (top 14)) _ = true from by decide +kernel)) (fun A2 outer2 s2 H2 E2 f2 c2 hr => by
      have hu := (show _ < cLine from hr.units)
      have hu : _ + 1 < cLine := Nat.lt_of_le_of_lt (Nat.add_le_add_left (show 1 ≤ 64 by decide) _) hu
      exact (qe_call G_number_of_text (hr.mono (by omega)) rfl passesL (qa_cons qe_str qa_nil)))) qe_str rfl))))))))))
theorem s_law : FnScope N_law ["script"] (defScope (top 14)) := ⟨rfl, rfl, rfl, by decide +kernel, rfl, by decide +kernel, by decide +kernel⟩
end K18

set_option Elab.async false
set_option linter.all false
set_option maxRecDepth 100000
set_option maxHeartbeats 1000000
namespace K18
open PySem PySem.Spec PyProof.Rows L2 Y
def dG (x : Str) (i : Nat) (dfl : List He.Dv := []) : He.DefD := ⟨(x, none), x, x, defArgs (top i), defBody (top i), defScope (top i), dfl, []⟩
def dM (c x q : Str) (i j : Nat) (dfl : List He.Dv := []) : He.DefD := ⟨(c, some x), x, q, defArgs (inClass (top i) j), defBody (inClass (top i) j), defScope (inClass (top i) j), dfl, []⟩
def fn : List He.DefD := [dM "Wave" "__init__" "Wave.__init__" 5 0,
  dM "Wave" "add" "Wave.add" 5 1,
  dM "Wave" "wave_text" "Wave.wave_text" 5 2,
  dM "Wave" "changes" "Wave.changes" 5 3,
  dM "Wave" "first_unlike" "Wave.first_unlike" 5 4,
  dG "number_of_text" 8,
  dG "head_of" 7,
  dG "read_wave" 6,
  dG "_law_dice" 10,
  dG "_law_roll" 11,
  dG "_law_rounds" 12,
  dG "_law_told" 13,
  dG "law" 14]
def fa : List He.Fa := [.glo "number_of_text", .glo "head_of", .glo "read_wave", .glo "_law_dice", .glo "_law_roll", .glo "_law_rounds", .glo "_law_told", .glo "law", .glo "Wave", .cls "Wave", .mkr "Wave", .meth "Wave" "add", .meth "Wave" "wave_text", .meth "Wave" "changes", .meth "Wave" "first_unlike", .noat "Wave" "rows", .noat "Wave" "widths", .free "abs", .free "any", .free "dict", .free "enumerate", .free "int", .free "len", .free "list", .free "range", .free "str", .free "tuple", .free "zip", .glo "RunError", .exc "RunError", .exm "RunError" "RunError" true, .keep "_law_told"]
def exl (K : PySem.W.Frag) : List Bool := [glB K "LETTERS_OF_NAMES" K_LETTERS_OF_NAMES, !decide ((He.cT K ("number_of_text", none)).2 = (He.cT K ("head_of", none)).2), !decide ((He.cT K ("number_of_text", none)).2 = (He.cT K ("law", none)).2), !decide ((He.cT K ("head_of", none)).2 = (He.cT K ("law", none)).2)]
abbrev Tl (K : PySem.W.Frag) : List (PySem.Addr × PySem.Str) := [((He.cT K ("number_of_text", none)).2, (("number_of_text.<locals>." : PySem.Str) ++ ("<genexpr>" : PySem.Str))), ((He.cT K ("head_of", none)).2, (("head_of.<locals>." : PySem.Str) ++ ("<genexpr>" : PySem.Str))), ((He.cT K ("law", none)).2, (("law.<locals>." : PySem.Str) ++ ("<lambda>" : PySem.Str)))]
def ex (K : PySem.W.Frag) : Bool := (exl K).all id
abbrev RR : PySem.W.OpenRow := PySem.W.OpenLaw.row PySem.Challenge.rw_chipstack_k18_waves_as_texts
abbrev hk : PySem.W.Hook := He.hookX 6 fa fn [] [("number_of_text", none), ("head_of", none), ("law", none)] ex
def ob (s : PySem.W.SharedT) : He.AlX := He.obsX 6 fa fn [] [("number_of_text", none), ("head_of", none), ("law", none)] ex (HandSHeadRun.getT s)
theorem ob_eq (s : PySem.W.SharedT) : ob s = hk.obs s.abs := He.obsX_eq (HandSHeadRun.getT_eq s)
def names : List PySem.Str := ["ChipError", "RunError", "LETTERS_OF_NAMES", "Wave", "read_wave", "head_of", "number_of_text", "_law_dice", "_law_roll", "_law_rounds", "_law_told"]
set_option maxHeartbeats 0 in
theorem run (w : World) : HandSHeadRun.RunEq RR (PySem.W.view RR.prog [14]) hk ob 3000 names w := by
  intro os
  kernel_rfl
theorem facts {w : World} {K : PySem.W.Frag} {h : Heap} {mg : Str → Option Value} {f : Addr} (X : K.In h) (G : h.Ns mainGlobals mg) (hfa : mg ("law" : Str) = some (.ref f)) (cc : He.SaysX fa fn [] [("number_of_text", none), ("head_of", none), ("law", none)] ex w h K)
    (p1 : ∀ ns : List Int, ns.length ≤ 63 → (∀ z ∈ ns, Builtin.Int.intBits z ≤ 1048576) → ∃ S', f_law [.fro (ns.map .int)] S0 = .ok (.bl true) S')
    (p2 : ∀ ns : List Int, ns.length ≤ 63 → (∀ z ∈ ns, Builtin.Int.intBits z ≤ 1048576) → ∃ S', f_law [.adr 0] (S1 (ns.map .int)) = .ok (.bl true) S') :
    LamX.LawAtS PySem.Challenge.rw_chipstack_k18_waves_as_texts w K (L2.CX PySem.Challenge.rw_chipstack_k18_waves_as_texts.prog w) 6 63 "script" mg f h := by
  have D := cc.t.d
  obtain ⟨fd_0, F_0⟩ := D.def_ 0 rfl
  obtain ⟨fd_1, F_1⟩ := D.def_ 1 rfl
  obtain ⟨fd_2, F_2⟩ := D.def_ 2 rfl
  obtain ⟨fd_3, F_3⟩ := D.def_ 3 rfl
  obtain ⟨fd_4, F_4⟩ := D.def_ 4 rfl
  obtain ⟨fd_5, F_5⟩ := D.def_ 5 rfl
  obtain ⟨fd_6, F_6⟩ := D.def_ 6 rfl
  obtain ⟨fd_7, F_7⟩ := D.def_ 7 rfl
  obtain ⟨fd_8, F_8⟩ := D.def_ 8 rfl
  obtain ⟨fd_9, F_9⟩ := D.def_ 9 rfl
  obtain ⟨fd_10, F_10⟩ := D.def_ 10 rfl
  obtain ⟨fd_11, F_11⟩ := D.def_ 11 rfl
  obtain ⟨fd_12, F_12⟩ := D.def_ 12 rfl
  have e := hfa.symm.trans (He.glo_ok X G (D.fact 7 rfl))
  cases e
  have base_facts : ∀ T : List (Addr × Str), Fx K mg (Ct.mk K (fun q => He.ga K q) T) := fun T => ⟨trivial,
    ⟨(fun q hq => by
      simp only [List.mem_cons, List.not_mem_nil, or_false] at hq
      rcases hq with rfl
      · exact (He.cls_ok (D.fact 9 rfl))
      ), (fun q hq => by
      simp only [List.mem_cons, List.not_mem_nil, or_false] at hq
      rcases hq with rfl
      · exact (He.noat_ok (D.fact 15 rfl))
      )⟩,
    ⟨(fun q hq => by
      simp only [List.mem_cons, List.not_mem_nil, or_false] at hq
      rcases hq with rfl
      · exact (He.cls_ok (D.fact 9 rfl))
      ), (fun q hq => by
      simp only [List.mem_cons, List.not_mem_nil, or_false] at hq
      rcases hq with rfl
      · exact (He.noat_ok (D.fact 16 rfl))
      )⟩,
    He.free_ok X G (D.fact 17 rfl),
    He.free_ok X G (D.fact 18 rfl),
    He.free_ok X G (D.fact 19 rfl),
    He.free_ok X G (D.fact 20 rfl),
    He.free_ok X G (D.fact 21 rfl),
    He.free_ok X G (D.fact 22 rfl),
    He.free_ok X G (D.fact 23 rfl),
    He.free_ok X G (D.fact 24 rfl),
    He.free_ok X G (D.fact 25 rfl),
    He.free_ok X G (D.fact 26 rfl),
    He.free_ok X G (D.fact 27 rfl),
    glB_ok (c := Ct.mk K (fun q => He.ga K q) T) X G (all_at cc.more 0 rfl),
    exo_of (c := Ct.mk K (fun q => He.ga K q) T) X G rfl (D.fact 28 rfl) (D.fact 29 rfl)⟩
  refine ⟨fd_12, [He.cT K ("number_of_text", none), He.cT K ("head_of", none), He.cT K ("law", none)], spOf (Ct.mk K (fun q => He.ga K q) (Tl K)) 1 f_law, fun p hp => ?_, fun p hp => ?_, fun p hp => ?_, ?_, ?_, fun base KB GB TB => ?_⟩
  · simp only [List.mem_cons, List.not_mem_nil, or_false] at hp
    rcases hp with rfl | rfl | rfl
    · exact cc.empty _ (by simp)
    · exact cc.empty _ (by simp)
    · exact cc.empty _ (by simp)
  · simp only [List.mem_cons, List.not_mem_nil, or_false] at hp
    rcases hp with rfl | rfl | rfl
    · exact cc.out _ (by simp)
    · exact cc.out _ (by simp)
    · exact cc.out _ (by simp)
  · simp only [List.mem_cons, List.not_mem_nil, or_false] at hp
    rcases hp with rfl | rfl | rfl
    · exact PySem.W.codeHd_of_K X (cc.hd _ (by simp))
    · exact PySem.W.codeHd_of_K X (cc.hd _ (by simp))
    · exact PySem.W.codeHd_of_K X (cc.hd _ (by simp))
  · exact fun s u => FunD.bindsA (ps := ["script"]) F_12 (fun _ _ _ _ _ _ us hl => match us, hl with | [_], _ => rfl) s [u] rfl
  · intro H a ns hl hb hT hS
    refine law_start (tabs_starts fun p hp => ?_) hS (p1 ns hl hb) (p2 ns hl hb)
    have hp : p ∈ Tl K := hp
    unfold Tl at hp
    simp only [List.mem_cons, List.not_mem_nil, or_false] at hp
    rcases hp with rfl | rfl | rfl
    · exact hT _ (by simp)
    · exact hT _ (by simp)
    · exact hT _ (by simp)
  · have FX := base_facts (Tl K)
    have G_Wave___init__ : Gk PySem.Challenge.rw_chipstack_k18_waves_as_texts.prog w K mg base (Ct.mk K (fun q => He.ga K q) (Tl K)) 1 "Wave" 2 [] f_Wave___init__ := gk_of F_0 rfl (fn_run F_0 s_Wave___init__ (fun cdv A outer s H E hr => k_Wave___init__ FX  hr)) (He.glo_ok X G (D.fact 8 rfl)) (He.mkr_ok (D.fact 10 rfl)) (F_0.bindsN fun _ _ _ _ _ _ us hl => match us, hl with | [_, _], _ => rfl)
    have G_Wave_add : Gm' PySem.Challenge.rw_chipstack_k18_waves_as_texts.prog w K mg base (Ct.mk K (fun q => He.ga K q) (Tl K)) 1 "Wave" "add" 2 [] f_Wave_add := gm_of F_1 rfl (fn_run F_1 s_Wave_add (fun cdv A outer s H E hr => k_Wave_add FX  hr)) (He.cls_ok (D.fact 9 rfl)) (He.meth_ok (D.fact 11 rfl)) (F_1.bindsN fun _ _ _ _ _ _ us hl => match us, hl with | [_, _], _ => rfl)
    have G_Wave_wave_text : Gm' PySem.Challenge.rw_chipstack_k18_waves_as_texts.prog w K mg base (Ct.mk K (fun q => He.ga K q) (Tl K)) 1 "Wave" "wave_text" 1 [] f_Wave_wave_text := gm_of F_2 rfl (fn_run F_2 s_Wave_wave_text (fun cdv A outer s H E hr => k_Wave_wave_text FX  hr)) (He.cls_ok (D.fact 9 rfl)) (He.meth_ok (D.fact 12 rfl)) (F_2.bindsN fun _ _ _ _ _ _ us hl => match us, hl with | [_], _ => rfl)
    have G_Wave_changes : Gm' PySem.Challenge.rw_chipstack_k18_waves_as_texts.prog w K mg base (Ct.mk K (fun q => He.ga K q) (Tl K)) 1 "Wave" "changes" 2 [] f_Wave_changes := gm_of F_3 rfl (fn_run F_3 s_Wave_changes (fun cdv A outer s H E hr => k_Wave_changes FX  hr)) (He.cls_ok (D.fact 9 rfl)) (He.meth_ok (D.fact 13 rfl)) (F_3.bindsN fun _ _ _ _ _ _ us hl => match us, hl with | [_, _], _ => rfl)
    have G_Wave_first_unlike : Gm' PySem.Challenge.rw_chipstack_k18_waves_as_texts.prog w K mg base (Ct.mk K (fun q => He.ga K q) (Tl K)) 1 "Wave" "first_unlike" 2 [] f_Wave_first_unlike := gm_of F_4 rfl (fn_run F_4 s_Wave_first_unlike (fun cdv A outer s H E hr => k_Wave_first_unlike FX  hr)) (He.cls_ok (D.fact 9 rfl)) (He.meth_ok (D.fact 14 rfl)) (F_4.bindsN fun _ _ _ _ _ _ us hl => match us, hl with | [_, _], _ => rfl)
    have TB0 := TB (He.cT K ("number_of_text", none)) (by simp)
    have G_number_of_text : Gfn PySem.Challenge.rw_chipstack_k18_waves_as_texts.prog w K mg base (Ct.mk K (fun q => He.ga K q) (Tl K)) 1 "number_of_text" 1 [] f_number_of_text := gfn_of F_5 rfl (fn_runL (p := ("number_of_text", none)) F_5 s_number_of_text (fun A outer s H E cdv hcd hr => k_number_of_text FX   TB0 hcd List.mem_cons_self (fun p hp he => by
      have hp : p ∈ Tl K := hp
      unfold Tl at hp
      simp only [List.mem_cons, List.not_mem_nil, or_false] at hp
      rcases hp with rfl | rfl | rfl
      · rfl
      · exact absurd he.symm (ne_dec (all_at cc.more 1 rfl))
      · exact absurd he.symm (ne_dec (all_at cc.more 2 rfl))
      ) hr)) (He.glo_ok X G (D.fact 0 rfl)) (F_5.bindsN fun _ _ _ _ _ _ us hl => match us, hl with | [_], _ => rfl)
    have TB1 := TB (He.cT K ("head_of", none)) (by simp)
    have G_head_of : Gfn PySem.Challenge.rw_chipstack_k18_waves_as_texts.prog w K mg base (Ct.mk K (fun q => He.ga K q) (Tl K)) 2 "head_of" 1 [] f_head_of := gfn_of F_6 rfl (fn_runL (p := ("head_of", none)) F_6 s_head_of (fun A outer s H E cdv hcd hr => k_head_of FX G_number_of_text  TB1 hcd (List.mem_cons_of_mem _ List.mem_cons_self) (fun p hp he => by
      have hp : p ∈ Tl K := hp
      unfold Tl at hp
      simp only [List.mem_cons, List.not_mem_nil, or_false] at hp
      rcases hp with rfl | rfl | rfl
      · exact absurd he (ne_dec (all_at cc.more 1 rfl))
      · rfl
      · exact absurd he.symm (ne_dec (all_at cc.more 3 rfl))
      ) hr)) (He.glo_ok X G (D.fact 1 rfl)) (F_6.bindsN fun _ _ _ _ _ _ us hl => match us, hl with | [_], _ => rfl)
    have G_read_wave : Gfn PySem.Challenge.rw_chipstack_k18_waves_as_texts.prog w K mg base (Ct.mk K (fun q => He.ga K q) (Tl K)) 3 "read_wave" 1 [] f_read_wave := gfn_of F_7 rfl (fn_run F_7 s_read_wave (fun cdv A outer s H E hr => k_read_wave FX G_Wave___init__ G_head_of G_number_of_text G_Wave_add hr)) (He.glo_ok X G (D.fact 2 rfl)) (F_7.bindsN fun _ _ _ _ _ _ us hl => match us, hl with | [_], _ => rfl)
    have G__law_dice : Gfn PySem.Challenge.rw_chipstack_k18_waves_as_texts.prog w K mg base (Ct.mk K (fun q => He.ga K q) (Tl K)) 1 "_law_dice" 1 [] f__law_dice := gfn_of F_8 rfl (fn_run F_8 s__law_dice (fun cdv A outer s H E hr => k__law_dice FX  hr)) (He.glo_ok X G (D.fact 3 rfl)) (F_8.bindsN fun _ _ _ _ _ _ us hl => match us, hl with | [_], _ => rfl)
    have G__law_roll : Gfn PySem.Challenge.rw_chipstack_k18_waves_as_texts.prog w K mg base (Ct.mk K (fun q => He.ga K q) (Tl K)) 1 "_law_roll" 2 [] f__law_roll := gfn_of F_9 rfl (fn_run F_9 s__law_roll (fun cdv A outer s H E hr => k__law_roll FX  hr)) (He.glo_ok X G (D.fact 4 rfl)) (F_9.bindsN fun _ _ _ _ _ _ us hl => match us, hl with | [_, _], _ => rfl)
    have G__law_rounds : Gfn PySem.Challenge.rw_chipstack_k18_waves_as_texts.prog w K mg base (Ct.mk K (fun q => He.ga K q) (Tl K)) 2 "_law_rounds" 2 [] f__law_rounds := gfn_of F_10 rfl (fn_run F_10 s__law_rounds (fun cdv A outer s H E hr => k__law_rounds FX G__law_dice hr)) (He.glo_ok X G (D.fact 5 rfl)) (F_10.bindsN fun _ _ _ _ _ _ us hl => match us, hl with | [_, _], _ => rfl)
    have hT : Told PySem.Challenge.rw_chipstack_k18_waves_as_texts.prog w K mg base (Ct.mk K (fun q => He.ga K q) (Tl K)) "_law_told" subT qsT clT := told1_of (Ng := ["what"]) (a := "what") F_11 (He.glo_ok X G (D.fact 6 rfl)) (F_11.bindsN fun _ _ _ _ _ _ us hl => match us, hl with | [_], _ => rfl) ⟨rfl, rfl, rfl, by decide +kernel, rfl, by decide +kernel, by decide +kernel⟩ rfl (.inl rfl) (by decide) (by decide) rfl (He.glo_ok X G (D.fact 28 rfl)) (by decide) (fun _ => rfl) (fun q hq p hp => by
      simp only [qsT, clT, List.mem_cons, List.not_mem_nil, or_false] at hq hp
      rcases hq with rfl
      · rcases hp with rfl
        · exact He.exm_ok (D.fact 30 rfl)
      )
    have TB2 := TB (He.cT K ("law", none)) (by simp)
    exact fn_runL F_12 s_law (fun A outer s H E cdv hcd hr => k_law FX G__law_rounds G_Wave_add G_Wave_changes G__law_roll G_Wave___init__ G_Wave_wave_text G_read_wave G_Wave_first_unlike G_head_of G_number_of_text hT TB2 hcd (List.mem_cons_of_mem _ (List.mem_cons_of_mem _ List.mem_cons_self)) (fun p hp he => by
      have hp : p ∈ Tl K := hp
      unfold Tl at hp
      simp only [List.mem_cons, List.not_mem_nil, or_false] at hp
      rcases hp with rfl | rfl | rfl
      · exact absurd he (ne_dec (all_at cc.more 2 rfl))
      · exact absurd he (ne_dec (all_at cc.more 3 rfl))
      · rfl
      ) hr)
open PySem PySem.W PySem.Calls PyProof.Rows in
theorem done (p1 : ∀ ns : List Int, ns.length ≤ 63 → (∀ z ∈ ns, Builtin.Int.intBits z ≤ 1048576) → ∃ S', f_law [.fro (ns.map .int)] S0 = .ok (.bl true) S')
    (p2 : ∀ ns : List Int, ns.length ≤ 63 → (∀ z ∈ ns, Builtin.Int.intBits z ≤ 1048576) → ∃ S', f_law [.adr 0] (S1 (ns.map .int)) = .ok (.bl true) S') : PySem.Challenge.rw_chipstack_k18_waves_as_texts.Holds := by
  w_on; o_law
  refine HandSHeadRun.head_any (r := OpenLaw.row PySem.Challenge.rw_chipstack_k18_waves_as_texts) (q := view (OpenLaw.row PySem.Challenge.rw_chipstack_k18_waves_as_texts).prog [14]) (H := hk) (ob := ob) (M := 3000) (loose := names) (d := HandSHeadRun.topDef (OpenLaw.row PySem.Challenge.rw_chipstack_k18_waves_as_texts).prog 14) (kwd := []) ob_eq
    (by kernel_rfl) (fun s => by kernel_rfl) run (by kernel_rfl) (by kernel_rfl) (by kernel_rfl) (by rfl) (by first | assumption | decide +kernel) (by decide +kernel) ⟨rfl, rfl, rfl, rfl, rfl, by decide +kernel⟩ ?hw ?hc
  case hw => w_witness2
  case hc =>
    refine LamX.walk_ofTsE (l := PySem.Challenge.rw_chipstack_k18_waves_as_texts) (n := 63) (k := 6) (x := "script") (CX := fun w => L2.CX PySem.Challenge.rw_chipstack_k18_waves_as_texts.prog w) rfl (by decide) (by kernel_rfl) ⟨rfl, by decide, by decide⟩ ?F (fun _ _ _ _ _ z => by
      obtain ⟨_, _, _, _, _, _, _, _, _, _, _, _, y⟩ := z
      exact y.elim)
    intro w mg fa h Y G hmg0
    obtain ⟨K, KX, c⟩ := Y
    have hmg : mg ("law" : PySem.Str) = some (.ref fa) := by
      have e : (HandSHeadRun.topDef (OpenLaw.row PySem.Challenge.rw_chipstack_k18_waves_as_texts).prog 14).name = ("law" : PySem.Str) := by kernel_rfl
      rw [← e]
      exact hmg0
    exact ⟨K, KX, facts KX G hmg c p1 p2⟩
end K18

set_option Elab.async false
set_option linter.all false
set_option maxRecDepth 100000
set_option maxHeartbeats 4000000
namespace K18
open PySem PySem.Spec PyProof.Rows L2 Y TL
def Sgn (l : List Nat) : Prop := ∀ c ∈ l, c < 0x110000
theorem strOk_of {x : Str} (h : Sgn (tl x)) : PyData.strOk x = true := by
  unfold PyData.strOk
  rw [Array.all_eq_true_iff_forall_mem]
  intro c hc
  exact decide_eq_true (h c (Array.mem_toList_iff.mpr hc))
theorem eqT {a b : Str} {S : Sr} (ha : Sgn (tl a)) (hb : Sgn (tl b)) : dEq (.str a) (.str b) S = .ok (.bl (decide (a = b))) S := ev_eqS (strOk_of ha) (strOk_of hb)
theorem neT {a b : Str} {S : Sr} (ha : Sgn (tl a)) (hb : Sgn (tl b)) : dNe (.str a) (.str b) S = .ok (.bl (!decide (a = b))) S := ev_neS (strOk_of ha) (strOk_of hb)
theorem notInS_eq (a : Str) (n : Nat) : notInS a n = !decide (n ∈ tl a) := by
  have h := PySem.StrLaws.found_one a n
  unfold notInS
  rw [← h, Bool.not_not]
def digB (c : Nat) : Bool := decide (48 ≤ c) && decide (c ≤ 57)
theorem dig_mem (n : Nat) : decide (n ∈ tl ("0123456789" : Str)) = digB n := by
  have e : tl ("0123456789" : Str) = [48, 49, 50, 51, 52, 53, 54, 55, 56, 57] := by decide +kernel
  rw [e]
  unfold digB
  rw [← Bool.decide_and]
  apply decide_eq_decide.mpr
  simp only [List.mem_cons, List.not_mem_nil, or_false]
  omega
theorem any_not {l : List Nat} {p : Nat → Bool} : (l.any fun n => !p n) = !l.all p := by
  induction l with
  | nil => rfl
  | cons a l ih => rw [List.any_cons, List.all_cons, ih, Bool.not_and]
theorem anyDig {x : Str} : (tl x).any (notInS ("0123456789" : Str)) = !(tl x).all digB := by
  rw [← any_not]
  congr 1
  funext n
  rw [notInS_eq, dig_mem]
theorem sgn_of {l : List Nat} (h : (l.all fun c => decide (c < 0x110000)) = true) : Sgn l := fun c hc => of_decide_eq_true (List.all_eq_true.mp h c hc)
theorem sgn_nil : Sgn [] := fun c h => nomatch h
abbrev sg (l : List Nat) : Str := ⟨l.toArray⟩
abbrev strL (l : List Nat) : D := .str (sg l)
theorem tl_sg (l : List Nat) : tl (sg l) = l := rfl
theorem sg_tl (x : Str) : sg (tl x) = x := mk_tl x
theorem sg_len (l : List Nat) : (sg l).length = l.length := by rw [len_tl]
theorem mapO_strs {f : D → Option PyData} (h : ∀ i : Str, f (.str i) = some (.str i)) : ∀ l : List (List Nat), mapO f (l.map strL) = some (l.map fun x => PyData.str (sg x))
  | [] => rfl
  | i :: l => by
    have ih := mapO_strs h l
    rw [List.map_cons, mapO, h, ih]
    rfl
theorem py_strs {S : Sr} {k i : Nat} {l : List (List Nat)} (h : S.f i = some (.lst (l.map strL))) : toPy S (k + 1) (.adr i) = some (.list (l.map fun x => PyData.str (sg x))) := by
  show (match S.f i with
    | some (.lst l) => (mapO (toPy S k) l).map PyData.list
    | _ => none) = _
  rw [h]
  show (mapO (toPy S k) (l.map strL)).map PyData.list = _
  rw [mapO_strs fun i => py_str]
  rfl
theorem lay_strs : ∀ l : List (List Nat), (∀ x ∈ l, Sgn x) → PyData.canLayAll0 (l.map fun x => PyData.str (sg x)) = true ∧ PyData.depthAll (l.map fun x => PyData.str (sg x)) = 0
  | [], _ => ⟨rfl, rfl⟩
  | i :: l, h => by
    obtain ⟨h1, h2⟩ := lay_strs l fun x hx => h x (List.mem_cons_of_mem _ hx)
    refine ⟨?_, ?_⟩
    · show (PyData.strOk (sg i) && PyData.canLayAll0 (l.map fun x => PyData.str (sg x))) = true
      rw [h1, strOk_of (x := sg i) (h i List.mem_cons_self)]
      rfl
    · show max 0 (PyData.depthAll (l.map fun x => PyData.str (sg x))) = 0
      rw [h2]
      rfl
theorem shaped_strs {l : List (List Nat)} (h : ∀ x ∈ l, Sgn x) : SeqAt.shaped (.list (l.map fun x => PyData.str (sg x))) = true := by
  obtain ⟨h1, h2⟩ := lay_strs l h
  unfold SeqAt.shaped
  have e1 : PyData.canLay0 (.list (l.map fun x => PyData.str (sg x))) = true := h1
  have e2 : PyData.depth (.list (l.map fun x => PyData.str (sg x))) = 1 := by
    show PyData.depthAll (l.map fun x => PyData.str (sg x)) + 1 = 1
    rw [h2]
  rw [e1, e2]
  rfl
theorem ne_nilS {S : Sr} {i j : Nat} {l : List (List Nat)} (h : S.f i = some (.lst (l.map strL))) (h2 : S.f j = some (.lst [])) (hs : ∀ x ∈ l, Sgn x) : dNe (.adr i) (.adr j) S = .ok (.bl (!l.isEmpty)) S := by
  rw [ev_neP (py_strs h) (py_strs (l := []) h2) (shaped_strs hs) (shaped_strs (l := []) fun x hx => nomatch hx)]
  cases l with
  | nil => rfl
  | cons a l =>
    have e : PyData.eqv (.list ((a :: l).map fun x => PyData.str (sg x))) (.list (([] : List (List Nat)).map fun x => PyData.str (sg x))) = false := by
      rw [PyData.eqv.eq_def]
      rfl
    rw [e]
    rfl
abbrev wd (s : String) : List Nat := tl (Str.ofString s)
theorem sg_inj {a b : List Nat} : sg a = sg b ↔ a = b := ⟨fun h => by have := congrArg tl h; exact this, fun h => by rw [h]⟩
theorem strL_wd (s : String) : strL (wd s) = .str (Str.ofString s) := by show D.str (sg (tl _)) = _; rw [sg_tl]
theorem digs {a : List Nat} (h : a.all digB = true) : NumText.AllDigits a := fun c hc => by
  have := List.all_eq_true.mp h c hc
  unfold digB at this
  simpa using this
theorem split_strs {x : Str} {parts : List (List Nat)} (h : spl [10] 0 [] (tl x) = parts) : (Txt.split x ("\n" : Str)).map D.str = parts.map strL := by
  have e : tl ("\n" : Str) = [10] := by decide +kernel
  have h1 := split_spl x ("\n" : Str) (by rw [e]; simp) (kind_ok (by decide +kernel))
  rw [e, h] at h1
  rw [← h1, List.map_map]
  congr 1
theorem powS (k : Nat) (hk : k ≤ 8) : powB 1 (k : Int) = true := by
  unfold powB
  exact decide_eq_true ⟨by omega, by omega, by decide⟩
theorem sg_app (a b : List Nat) : sg a ++ sg b = sg (a ++ b) := ext_tl (by rw [tl_append, tl_sg, tl_sg, tl_sg])
theorem sg_str (s : String) : Str.ofString s = sg (wd s) := (sg_tl _).symm
def nmI (n : Int) : List Nat := numL n.toNat
theorem toStr_int {n : Int} (h : 0 ≤ n) : Str.ofString (toString n) = sg (nmI n) := by
  refine ext_tl ?_
  have e : ((n.toNat : Nat) : Int) = n := Int.toNat_of_nonneg h
  rw [tl_sg, nmI, ← tl_num, e]
theorem log_ok {n : Int} (h : 0 ≤ n) (h2 : n < 100000000) : n.natAbs.log2 < 1920 := by
  have h3 : n.natAbs < 2 ^ 27 := by omega
  have h4 := Nat.log2_lt (n := n.natAbs) (k := 27)
  by_cases z : n.natAbs = 0
  · rw [z]; decide
  · have := (h4 z).mpr h3
    omega
theorem nmI_len {n : Int} (h2 : n < 1000) : (nmI n).length ≤ 3 := numL_len (k := 3) (by omega) (by omega)
theorem joinL_nil : ∀ l : List (List Nat), TL.joinL [] l = l.flatten
  | [] => rfl
  | [a] => by simp [TL.joinL]
  | a :: b :: r => by
    show a ++ ([] ++ TL.joinL [] (b :: r)) = _
    rw [joinL_nil (b :: r)]
    rfl
theorem map_tl_sg (l : List (List Nat)) : (l.map sg).map tl = l := by
  rw [List.map_map]
  exact List.map_id l
theorem strs_of_map (l : List (List Nat)) : strsOf (l.map strL) = some (l.map sg) := by
  have e := strs_of (l.map sg)
  rw [List.map_map] at e
  exact e
theorem mulB_lit {a b : Int} (h : -(2 ^ 64) < b ∧ b < 2 ^ 64) : mulB a b = true := by
  unfold mulB
  rw [Bool.or_eq_true]
  exact .inr (decide_eq_true h)
theorem at3 {a b c : D} : atI [a, b, c] 0 = some a ∧ atI [a, b, c] 1 = some b ∧ atI [a, b, c] 2 = some c := ⟨rfl, rfl, rfl⟩
theorem ixN3 : ixN 3 0 = some 0 ∧ ixN 3 1 = some 1 ∧ ixN 3 2 = some 2 := ⟨rfl, rfl, rfl⟩
theorem e_roll {S : Sr} {i : Nat} {a b c many : Int} (h : S.f i = some (.lst [.int a, .int b, .int c])) (h1 : 0 < many) (h2 : many ≤ 100000000) :
    ∃ r a' b' c', 0 ≤ r ∧ r < many ∧ f__law_roll [.adr i, .int many] S = .ok (.int r) (S.put i (.lst [.int a', .int b', .int c'])) := by
  have g1 : many < 1073741824 := by omega
  have g2 : ¬ 100000000 < many := by omega
  by_cases p1 : c = 2
  · refine ⟨a % many, a / many, b, c, Int.emod_nonneg _ (by omega), Int.emod_lt_of_pos _ h1, ?_⟩
    simp (decide := true) [f__law_roll, mFun, b__law_roll, mSeq, mPass, mBrk, mCnt, mDrop, mRet, mRetN, mIfS, mRaise, mSet, mAsg, mPar, mPar3, mAug, mFld, mFldAug, gNm, gSub', gFld, gNl, gCn, gTp, setA, putFD, mVar, mC, mB, mU, mTB, mAnd, mOr, mNot, mIf, mAndV, mOrV, mNotV, mChain, mNil, mCons, mTup, mLst, mSl, oNo, oE, mCB, fAbs, fMax2, fMin2, fInt, lenD, fLen, fTuple, fList, itemsD, fIsi, tyD, mAttr, mCall, mMeth, mMake, mBM, tyF, SM.bind, SM.pure, toRS, toRSA, toRST, Y.sb, List.lookup, put_f, put_n, alloc_f, alloc_n, put_put, alloc_put, okI, okB, orF, dSub, dFdiv, dMod, dPow, dShl, dShr, dAnd, dOr, dXor, dNeg, dLt, dLe, dGt, dGe, dIs, dIx, ixSeq, Y.putAt, putSeq, h, at3, ixN3, ev_eqI, p1, h1, g1]
  · by_cases p2 : c = 1 ∧ 0 < a
    · refine ⟨a % many, a / many, b, c, Int.emod_nonneg _ (by omega), Int.emod_lt_of_pos _ h1, ?_⟩
      simp (decide := true) [f__law_roll, mFun, b__law_roll, mSeq, mPass, mBrk, mCnt, mDrop, mRet, mRetN, mIfS, mRaise, mSet, mAsg, mPar, mPar3, mAug, mFld, mFldAug, gNm, gSub', gFld, gNl, gCn, gTp, setA, putFD, mVar, mC, mB, mU, mTB, mAnd, mOr, mNot, mIf, mAndV, mOrV, mNotV, mChain, mNil, mCons, mTup, mLst, mSl, oNo, oE, mCB, fAbs, fMax2, fMin2, fInt, lenD, fLen, fTuple, fList, itemsD, fIsi, tyD, mAttr, mCall, mMeth, mMake, mBM, tyF, SM.bind, SM.pure, toRS, toRSA, toRST, Y.sb, List.lookup, put_f, put_n, alloc_f, alloc_n, put_put, alloc_put, okI, okB, orF, dSub, dFdiv, dMod, dPow, dShl, dShr, dAnd, dOr, dXor, dNeg, dLt, dLe, dGt, dGe, dIs, dIx, ixSeq, Y.putAt, putSeq, h, at3, ixN3, ev_eqI, p1, p2.1, p2.2, h1, g1]
    · refine ⟨(a * 48271 + b * 69621 + 11) % 2147483647 / 7 % many, (a * 48271 + b * 69621 + 11) % 2147483647, b + 1, 0, Int.emod_nonneg _ (by omega), Int.emod_lt_of_pos _ h1, ?_⟩
      by_cases p3 : c = 1
      · have p4 : ¬ 0 < a := fun z => p2 ⟨p3, z⟩
        simp (decide := true) [f__law_roll, mFun, b__law_roll, mSeq, mPass, mBrk, mCnt, mDrop, mRet, mRetN, mIfS, mRaise, mSet, mAsg, mPar, mPar3, mAug, mFld, mFldAug, gNm, gSub', gFld, gNl, gCn, gTp, setA, putFD, mVar, mC, mB, mU, mTB, mAnd, mOr, mNot, mIf, mAndV, mOrV, mNotV, mChain, mNil, mCons, mTup, mLst, mSl, oNo, oE, mCB, fAbs, fMax2, fMin2, fInt, lenD, fLen, fTuple, fList, itemsD, fIsi, tyD, mAttr, mCall, mMeth, mMake, mBM, tyF, SM.bind, SM.pure, toRS, toRSA, toRST, Y.sb, List.lookup, put_f, put_n, alloc_f, alloc_n, put_put, alloc_put, okI, okB, orF, dSub, dFdiv, dMod, dPow, dShl, dShr, dAnd, dOr, dXor, dNeg, dLt, dLe, dGt, dGe, dIs, dIx, ixSeq, Y.putAt, putSeq, h, at3, ixN3, ev_eqI, p1, p3, p4, h1, g1, g2, dMulS, dMul, dAdd, mulB_lit]
      · simp (decide := true) [f__law_roll, mFun, b__law_roll, mSeq, mPass, mBrk, mCnt, mDrop, mRet, mRetN, mIfS, mRaise, mSet, mAsg, mPar, mPar3, mAug, mFld, mFldAug, gNm, gSub', gFld, gNl, gCn, gTp, setA, putFD, mVar, mC, mB, mU, mTB, mAnd, mOr, mNot, mIf, mAndV, mOrV, mNotV, mChain, mNil, mCons, mTup, mLst, mSl, oNo, oE, mCB, fAbs, fMax2, fMin2, fInt, lenD, fLen, fTuple, fList, itemsD, fIsi, tyD, mAttr, mCall, mMeth, mMake, mBM, tyF, SM.bind, SM.pure, toRS, toRSA, toRST, Y.sb, List.lookup, put_f, put_n, alloc_f, alloc_n, put_put, alloc_put, okI, okB, orF, dSub, dFdiv, dMod, dPow, dShl, dShr, dAnd, dOr, dXor, dNeg, dLt, dLe, dGt, dGe, dIs, dIx, ixSeq, Y.putAt, putSeq, h, at3, ixN3, ev_eqI, p1, p3, h1, g1, g2, dMulS, dMul, dAdd, mulB_lit]

def DiceAt (S : Sr) (i : Nat) : Prop := ∃ a b c : Int, S.f i = some (.lst [.int a, .int b, .int c])
/-- all but these stay -/
def Fr (l : List Nat) (S S' : Sr) : Prop := S.n ≤ S'.n ∧ ∀ j, j < S.n → j ∉ l → S'.f j = S.f j
theorem Fr.refl {l : List Nat} {S : Sr} : Fr l S S := ⟨Nat.le_refl _, fun _ _ _ => rfl⟩
theorem Fr.trans {l : List Nat} {S S1 S2 : Sr} (a : Fr l S S1) (b : Fr l S1 S2) : Fr l S S2 := ⟨Nat.le_trans a.1 b.1, fun j hj h => (b.2 j (Nat.lt_of_lt_of_le hj a.1) h).trans (a.2 j hj h)⟩
theorem Fr.put {l : List Nat} {S : Sr} {i : Nat} {x : MO} (h : i ∈ l) : Fr l S (S.put i x) := ⟨Nat.le_refl _, fun j _ hj => if_neg (fun e : j = i => hj (by rw [e]; exact h))⟩
theorem Fr.alloc {l : List Nat} {S : Sr} {x : MO} : Fr l S (S.alloc x) := ⟨Nat.le_succ _, fun j hj _ => if_neg (Nat.ne_of_lt hj)⟩
theorem Xt.fr {l : List Nat} {S S' : Sr} (h : Xt S S') : Fr l S S' := ⟨h.le, fun j hj _ => h.eq j hj⟩
theorem Fr.xt {S S' : Sr} (h : Fr [] S S') : Xt S S' := ⟨h.1, fun j hj => h.2 j hj List.not_mem_nil⟩
theorem roll_at {S : Sr} {i : Nat} {many : Int} (h : DiceAt S i) (h1 : 0 < many) (h2 : many ≤ 100000000) : ∃ r x, 0 ≤ r ∧ r < many ∧ f__law_roll [.adr i, .int many] S = .ok (.int r) (S.put i x) ∧ DiceAt (S.put i x) i := by
  obtain ⟨a, b, c, h⟩ := h
  obtain ⟨r, a', b', c', r0, r1, e⟩ := e_roll h h1 h2
  exact ⟨r, _, r0, r1, e, a', b', c', if_pos rfl⟩
theorem dice_alloc {S : Sr} {i : Nat} {x : MO} (h : DiceAt S i) (hi : i < S.n) : DiceAt (S.alloc x) i := by
  obtain ⟨a, b, c, h⟩ := h
  exact ⟨a, b, c, (if_neg (Nat.ne_of_lt hi)).trans h⟩
theorem Fr.weak {l l' : List Nat} {S S' : Sr} (h : Fr l S S') (hl : ∀ j, j ∈ l → j ∈ l') : Fr l' S S' := ⟨h.1, fun j hj hn => h.2 j hj fun hm => hn (hl j hm)⟩
theorem Fr.at {l : List Nat} {S S' : Sr} {j : Nat} {x : MO} (h : Fr l S S') (hj : j < S.n) (hn : j ∉ l) (e : S.f j = some x) : S'.f j = some x := (h.2 j hj hn).trans e
theorem Fr.dice {l : List Nat} {S S' : Sr} {j : Nat} (h : Fr l S S') (hj : j < S.n) (hn : j ∉ l) (e : DiceAt S j) : DiceAt S' j := by
  obtain ⟨a, b, c, e⟩ := e
  exact ⟨a, b, c, h.at hj hn e⟩
theorem Fr.putNew {l : List Nat} {S S' : Sr} {q : Nat} {x : MO} (h : Fr l S S') (hq : S.n ≤ q) : Fr l S (S'.put q x) := ⟨h.1, fun j hj hn => (if_neg (by omega)).trans (h.2 j hj hn)⟩
section
variable {S : Sr} {i : Nat}
theorem dice_put {q : Nat} {x : MO} (h : DiceAt S i) (hq : i ≠ q) : DiceAt (S.put q x) i := by
  obtain ⟨a, b, c, h⟩ := h
  exact ⟨a, b, c, (if_neg hq).trans h⟩
end
theorem ne_refl {S : Sr} {x : D} {a : PyData} (h : toPy S 9 x = some a) (hs : SeqAt.shaped a = true) : dNe x x S = .ok (.bl false) S := by
  have hp : a.plain = true := PyData.plain_of_canLay0 a (SeqAt.canLay_of_shaped hs)
  rw [ev_neP h h hs hs, SeqAt.eqv_refl_plain a hp]
  rfl
theorem eq_refl' {S : Sr} {x : D} {a : PyData} (h : toPy S 9 x = some a) (hs : SeqAt.shaped a = true) : dEq x x S = .ok (.bl true) S := by
  have hp : a.plain = true := PyData.plain_of_canLay0 a (SeqAt.canLay_of_shaped hs)
  rw [ev_eqP h h hs hs, SeqAt.eqv_refl_plain a hp]
section
variable {S : Sr}
theorem e_dice (z : Int) : ∃ a b c : Int, f__law_dice [.int z] S = .ok (.adr S.n) (S.alloc (.lst [.int a, .int b, .int c])) := by
  have sz : 3 ≤ sizeLine := by rw [sizeLine_eq]; omega
  have pw : powB 10 18 = true := by decide
  by_cases h0 : -10 < z
  · by_cases h1 : z < 10
    · refine ⟨if z < 0 then -z else z, 0, 2, ?_⟩
      simp (maxSteps := 4000000) (decide := true) [f__law_dice, mFun, b__law_dice, mSeq, mPass, mBrk, mCnt, mDrop, mRet, mRetN, mIfS, mRaise, mSet, mAsg, mPar, mPar3, mAug, mFld, mFldAug, gNm, gSub', gFld, gNl, gCn, gTp, setA, putFD, mVar, mC, mB, mU, mTB, mAnd, mOr, mNot, mIf, mAndV, mOrV, mNotV, mChain, mNil, mCons, mTup, mLst, mSl, oNo, oE, mCB, fAbs, fMax2, fMin2, fInt, lenD, fLen, fTuple, fList, itemsD, fIsi, tyD, mAttr, mCall, mMeth, mMake, mBM, tyF, SM.bind, SM.pure, toRS, toRSA, toRST, Y.sb, List.lookup, put_f, put_n, alloc_f, alloc_n, put_put, alloc_put, okI, okB, orF, dSub, dFdiv, dMod, dPow, dShl, dShr, dAnd, dOr, dXor, dNeg, dLt, dLe, dGt, dGe, dIs, h0, h1, sz]
    · refine ⟨z, 1 + z % 1009, if 10 ^ 18 ≤ z then 1 else 0, ?_⟩
      simp (maxSteps := 4000000) (decide := true) [f__law_dice, mFun, b__law_dice, mSeq, mPass, mBrk, mCnt, mDrop, mRet, mRetN, mIfS, mRaise, mSet, mAsg, mPar, mPar3, mAug, mFld, mFldAug, gNm, gSub', gFld, gNl, gCn, gTp, setA, putFD, mVar, mC, mB, mU, mTB, mAnd, mOr, mNot, mIf, mAndV, mOrV, mNotV, mChain, mNil, mCons, mTup, mLst, mSl, oNo, oE, mCB, fAbs, fMax2, fMin2, fInt, lenD, fLen, fTuple, fList, itemsD, fIsi, tyD, mAttr, mCall, mMeth, mMake, mBM, tyF, SM.bind, SM.pure, toRS, toRSA, toRST, Y.sb, List.lookup, put_f, put_n, alloc_f, alloc_n, put_put, alloc_put, okI, okB, orF, dSub, dFdiv, dMod, dPow, dShl, dShr, dAnd, dOr, dXor, dNeg, dLt, dLe, dGt, dGe, dIs, h0, h1, sz, pw, dAdd]
  · refine ⟨z, 1 + z % 1009, if 10 ^ 18 ≤ z then 1 else 0, ?_⟩
    simp (maxSteps := 4000000) (decide := true) [f__law_dice, mFun, b__law_dice, mSeq, mPass, mBrk, mCnt, mDrop, mRet, mRetN, mIfS, mRaise, mSet, mAsg, mPar, mPar3, mAug, mFld, mFldAug, gNm, gSub', gFld, gNl, gCn, gTp, setA, putFD, mVar, mC, mB, mU, mTB, mAnd, mOr, mNot, mIf, mAndV, mOrV, mNotV, mChain, mNil, mCons, mTup, mLst, mSl, oNo, oE, mCB, fAbs, fMax2, fMin2, fInt, lenD, fLen, fTuple, fList, itemsD, fIsi, tyD, mAttr, mCall, mMeth, mMake, mBM, tyF, SM.bind, SM.pure, toRS, toRSA, toRST, Y.sb, List.lookup, put_f, put_n, alloc_f, alloc_n, put_put, alloc_put, okI, okB, orF, dSub, dFdiv, dMod, dPow, dShl, dShr, dAnd, dOr, dXor, dNeg, dLt, dLe, dGt, dGe, dIs, h0, sz, pw, dAdd]
theorem lc_one {sr : Src} {t : Tg} {mt : MT} {me : ME} {g0 g : Gm} {D0 : Nat} {S S1 : Sr} {d y : D} (h0 : sr.nxt 0 S = some (some d)) (h1 : t.put d g0 = some g) (h2 : mt g S = .ok true S) (h3 : me g S = .ok y S1) (h4 : S1.f D0 = some (.lst [])) (h5 : sr.nxt 1 (S1.put D0 (.lst [y])) = some none) :
    lcG sr t mt me g0 D0 1 0 S = .ok () (S1.put D0 (.lst [y])) := by
  rw [lc_nx h0 h1 h2 h3 h4 (by rw [sizeLine_eq]; decide)]
  exact lc_end h5
/-- the comprehension over one cell at q -/
theorem e_cells {g : Gm} {q : Nat} {z : Int} (hq : S.f q = some (.lst [.int z])) (hl : q < S.n) :
    Tells (mLc (mSrc (mVar 2)) (.nm 3) mYes (mCall f__law_dice 1 [] (mCons (mVar 3) mNil)) [3] [g.getD 0 none, g.getD 1 none, some (.adr q), none] S) fun r S' => r = .adr S.n ∧ S'.f S.n = some (.lst [.adr (S.n + 1)]) ∧ DiceAt S' (S.n + 1) ∧ S'.n = S.n + 2 := by
  obtain ⟨a, b, c, e⟩ := e_dice (S := S.alloc (.lst [])) z
  have hn : q ≠ S.n := Nat.ne_of_lt hl
  have hn2 : q ≠ S.n + 1 := by omega
  have l := lc_one (sr := sqa q 1) (t := .nm 3) (mt := mYes) (me := mCall f__law_dice 1 [] (mCons (mVar 3) mNil)) (g0 := wipeD [g.getD 0 none, g.getD 1 none, some (.adr q), none] [3]) (g := [g.getD 0 none, g.getD 1 none, some (.adr q), some (.int z)]) (D0 := S.n) (S := S.alloc (.lst [])) (d := .int z) (y := .adr (S.n + 1)) (S1 := (S.alloc (.lst [])).alloc (.lst [.int a, .int b, .int c]))
    (by simp [sqa, alloc_f, hn, hq]) (by rfl) (by rfl) (by
      simp [mCall, mCons, mNil, mVar, SM.bind, SM.pure, e, alloc_n]) (by simp [alloc_f, alloc_n]) (by simp [sqa, alloc_f, alloc_n, put_f, hn, hn2, hq])
  have e2 : mLc (mSrc (mVar 2)) (.nm 3) mYes (mCall f__law_dice 1 [] (mCons (mVar 3) mNil)) [3] [g.getD 0 none, g.getD 1 none, some (.adr q), none] S = .ok (D.adr S.n) (((S.alloc (.lst [])).alloc (.lst [.int a, .int b, .int c])).put S.n (.lst [.adr (S.n + 1)])) := by
    have es : mSrc (mVar 2) [g.getD 0 none, g.getD 1 none, some (.adr q), none] S = .ok (sqa q 1) S := by
      simp [mSrc, mSrcD, mVar, SM.bind, hq]
    exact mLc_ok es l
  rw [e2]
  have h1 : S.n + 1 ≠ S.n := Nat.succ_ne_self _
  exact ⟨rfl, if_pos rfl, ⟨a, b, c, by simp [put_f, alloc_f, alloc_n]⟩, rfl⟩
theorem e_rounds {script : D} {ns : List Int} (hs : slD script none (some 1) S = .ok (.adr S.n) (S.alloc (.lst ((ns.take 1).map D.int)))) :
    Tells (f__law_rounds [script, .int 1] S) fun r S' => ∃ a i, r = .adr a ∧ S'.f a = some (.lst [.adr i]) ∧ DiceAt S' i ∧ i < S'.n ∧ a < S'.n ∧ a ≠ i ∧ S.n ≤ S'.n := by
  have t1 : S.n + 1 ≠ S.n := Nat.succ_ne_self _
  have ee : dEq (.adr S.n) (.adr (S.n + 1)) ((S.alloc (.lst ((ns.take 1).map D.int))).alloc (.lst [])) = .ok (.bl (ns.take 1).isEmpty) ((S.alloc (.lst ((ns.take 1).map D.int))).alloc (.lst [])) := eq_empty (by simp [alloc_f, alloc_n]) (by simp [alloc_f, alloc_n])
  have sz : 1 ≤ sizeLine := by rw [sizeLine_eq]; omega
  cases ns with
  | nil =>
    have ee : dEq (.adr S.n) (.adr (S.n + 1)) ((S.alloc (.lst [])).alloc (.lst [])) = .ok (.bl true) ((S.alloc (.lst [])).alloc (.lst [])) := ee
    have hs : slD script none (some 1) S = .ok (.adr S.n) (S.alloc (.lst [])) := hs
    have ec := (e_cells (S := ((S.alloc (.lst [])).alloc (.lst [])).alloc (.lst [.int 0])) (g := [some script, some (.int 1)]) (q := S.n + 2) (z := 0) (by simp [alloc_f, alloc_n]) (by simp [alloc_n])).get
    obtain ⟨r, S', e, rfl, h1, h2, h3⟩ := ec
    simp (maxSteps := 4000000) (decide := true) [Tells, f__law_rounds, mFun, b__law_rounds, mSeq, mSet, mSl, oNo, oE, mVar, mC, SM.bind, SM.pure, toRS, toRST, mIfS, mTB, mB, mLst, mCons, mNil, mPass, mRet, alloc_n, hs, ee, sz] at e ⊢
    rw [e]
    refine ⟨_, rfl, _, h1, h2, ?_, ?_, ?_, ?_⟩
    all_goals (simp only [alloc_n] at h3 ⊢; omega)
  | cons z t =>
    have ee : dEq (.adr S.n) (.adr (S.n + 1)) ((S.alloc (.lst [.int z])).alloc (.lst [])) = .ok (.bl false) ((S.alloc (.lst [.int z])).alloc (.lst [])) := ee
    have hs : slD script none (some 1) S = .ok (.adr S.n) (S.alloc (.lst [.int z])) := hs
    have ec := (e_cells (S := (S.alloc (.lst [.int z])).alloc (.lst [])) (g := [some script, some (.int 1)]) (q := S.n) (z := z) (by simp [alloc_f, alloc_n]) (by simp only [alloc_n]; omega)).get
    obtain ⟨r, S', e, rfl, h1, h2, h3⟩ := ec
    simp (maxSteps := 4000000) (decide := true) [Tells, f__law_rounds, mFun, b__law_rounds, mSeq, mSet, mSl, oNo, oE, mVar, mC, SM.bind, SM.pure, toRS, toRST, mIfS, mTB, mB, mLst, mCons, mNil, mPass, mRet, alloc_n, hs, ee, sz] at e ⊢
    rw [e]
    refine ⟨_, rfl, _, h1, h2, ?_, ?_, ?_, ?_⟩
    all_goals (simp only [alloc_n] at h3 ⊢; omega)
end

section
variable {S S' : Sr}
theorem addT {a b : List Nat} {S : Sr} (h : a.length + b.length ≤ 100000) : dAdd (strL a) (strL b) S = .ok (strL (a ++ b)) S := by
  have : (sg a).length + (sg b).length ≤ sizeLine := by rw [sg_len, sg_len, sizeLine_eq]; omega
  have e := sg_app a b
  simp [dAdd, orF, okI, addS, this, e]
theorem str_num {n : Nat} : Str.ofString (toString ((n : Nat) : Int)) = sg (numL n) := by
  refine ext_tl ?_
  rw [tl_sg]
  exact tl_num n
theorem fStr_n {n : Nat} {S : Sr} (h : n < 100000) : fStr [.int (n : Int)] S = .ok (strL (numL n)) S := by
  have l : ((n : Nat) : Int).natAbs.log2 < 1920 := log_ok (by omega) (by omega)
  show (if ((n : Nat) : Int).natAbs.log2 < 1920 then R.ok (D.str (Str.ofString (toString ((n : Nat) : Int)))) S else .bad) = _
  rw [if_pos l, str_num]
theorem fStr_i {n : Int} {S : Sr} (h0 : 0 ≤ n) (h : n < 100000) : fStr [.int n] S = .ok (strL (nmI n)) S := by
  have e : ((n.toNat : Nat) : Int) = n := Int.toNat_of_nonneg h0
  have := fStr_n (n := n.toNat) (S := S) (by omega)
  rw [e] at this
  exact this
theorem mapO_map {α β γ : Type} {f : β → Option γ} {g : α → β} {h : α → γ} (e : ∀ a, f (g a) = some (h a)) : ∀ l : List α, mapO f (l.map g) = some (l.map h)
  | [] => rfl
  | a :: l => by
    rw [List.map_cons, mapO, mapO_map e l, e]
    rfl
end
theorem ne_strs {S : Sr} {a b : Nat} {l : List (List Nat)} (h : S.f a = some (.lst (l.map strL))) (h2 : S.f b = some (.lst (l.map strL))) (hs : ∀ r ∈ l, Sgn r) : dNe (.adr a) (.adr b) S = .ok (.bl false) S := by
  have hp := PyData.plain_of_canLay0 _ (SeqAt.canLay_of_shaped (shaped_strs hs))
  rw [ev_neP (py_strs h) (py_strs h2) (shaped_strs hs) (shaped_strs hs), SeqAt.eqv_refl_plain _ hp]
  rfl
theorem eq_nilS {S : Sr} {i j : Nat} {l : List (List Nat)} (h : S.f i = some (.lst (l.map strL))) (h2 : S.f j = some (.lst [])) (hs : ∀ x ∈ l, Sgn x) : dEq (.adr i) (.adr j) S = .ok (.bl l.isEmpty) S := by
  rw [ev_eqP (py_strs h) (py_strs (l := []) h2) (shaped_strs hs) (shaped_strs (l := []) fun x hx => nomatch hx)]
  cases l with
  | nil => rfl
  | cons a l =>
    have e : PyData.eqv (.list ((a :: l).map fun x => PyData.str (sg x))) (.list (([] : List (List Nat)).map fun x => PyData.str (sg x))) = false := by
      rw [PyData.eqv.eq_def]
      rfl
    rw [e]
    rfl
theorem cut_init {l : List D} {x : D} : Y.cutD (l ++ [x]) none (some (-1)) = l := by
  have e : HT.sIx (l ++ [x]).length (l ++ [x]).length (some (-1)) = l.length := by
    show (if (-1 : Int) < 0 then ((-1 : Int) + ((l ++ [x]).length : Int)).toNat else min (-1 : Int).toNat (l ++ [x]).length) = _
    rw [if_pos (by decide), List.length_append, List.length_singleton]
    omega
  have e0 : HT.sIx (l ++ [x]).length 0 none = 0 := rfl
  unfold Y.cutD
  rw [e, e0]
  simp
section
variable {a b : MT} {g : Gm} {S S1 S2 : Sr} {v : Bool}
theorem or_f (h1 : a g S = .ok false S1) (h2 : b g S1 = .ok v S2) : mOr a b g S = .ok v S2 := by
  unfold mOr SM.bind
  rw [h1]
  exact h2
theorem tb_of {e : ME} (h : e g S = .ok (.bl v) S1) : mTB e g S = .ok v S1 := by
  unfold mTB SM.bind
  rw [h]
end
section
variable {S S' : Sr}
theorem ifs_t {tt : MT} {u v : MS} {g : Gm} (h : tt g S = .ok true S') : mIfS tt u v g S = u g S' := by
  unfold mIfS toRST
  rw [h]
  rfl
theorem ifs_f {tt : MT} {u v : MS} {g : Gm} (h : tt g S = .ok false S') : mIfS tt u v g S = v g S' := by
  unfold mIfS toRST
  rw [h]
  rfl
theorem rng_of {a : MA} {g : Gm} {S : Sr} {j : Int} {n : Nat} (h : a g S = .ok [.int j] S) (hj : j = (n : Int)) (hn : n ≤ 1000) : mRng1 a g S = .ok (sqr 0 1 n) S := by
  have c1 : -(2 ^ 62) ≤ j ∧ j < 2 ^ 62 := by
    rw [hj]
    exact ⟨Int.le_trans (by decide) (Int.natCast_nonneg n), Int.lt_of_le_of_lt (b := 1000) (by omega) (by decide)⟩
  have c2 : j.toNat = n := by rw [hj]; exact Int.toNat_natCast n
  unfold mRng1 SM.bind
  rw [h]
  dsimp only
  rw [if_pos c1, c2]
theorem shl_n {k : Nat} (hk : k ≤ 8) {S : Sr} : dShl (.int 1) (.int (k : Int)) S = .ok (.int ((2 ^ k : Nat) : Int)) S := by
  have pw := powS k hk
  have e : (((2 ^ k : Nat) : Int)) = 2 ^ k := by push_cast; rfl
  rw [e]
  simp [dShl, okI, pw]
theorem ne_refl2 {S : Sr} {x y : D} {a : PyData} (h : toPy S 9 x = some a) (h2 : toPy S 9 y = some a) (hs : SeqAt.shaped a = true) : dNe x y S = .ok (.bl false) S := by
  have hp : a.plain = true := PyData.plain_of_canLay0 a (SeqAt.canLay_of_shaped hs)
  rw [ev_neP h h2 hs hs, SeqAt.eqv_refl_plain a hp]
  rfl
end
theorem cut1 (ns : List Int) : Y.cutD (ns.map D.int) none (some 1) = (ns.take 1).map D.int := by
  cases ns with
  | nil => rfl
  | cons a l =>
    have e : HT.sIx ((a :: l).map D.int).length ((a :: l).map D.int).length (some 1) = 1 := by
      simp [HT.sIx]
      try omega
    have e0 : HT.sIx ((a :: l).map D.int).length 0 none = 0 := rfl
    unfold Y.cutD
    rw [e, e0]
    simp
end K18

set_option Elab.async false
set_option linter.all false
set_option maxRecDepth 100000
set_option maxHeartbeats 4000000
namespace K18
open PySem PySem.Spec PyProof.Rows L2 Y TL
def numT (t : List Nat) : Option Int := if 0 < t.length ∧ t.length < 11 ∧ t.all digB = true ∧ ¬ (t.headD 0 = 48 ∧ 1 < t.length) then some ((NumText.digitsVal t : Nat) : Int) else none
theorem one_sg {c d : Nat} : ((⟨#[c]⟩ : Str) = ⟨#[d]⟩) ↔ c = d := by
  constructor
  · intro h
    have := congrArg tl h
    exact (List.cons.inj this).1
  · rintro rfl
    rfl
theorem ix0 {c : Nat} {r : List Nat} {S : Sr} (hz : (sg (c :: r)).length ≤ sizeLine) : dIx (strL (c :: r)) (.int 0) S = .ok (.str ⟨#[c]⟩) S := by
  have a0 : atI (c :: r) 0 = some c := by
    unfold atI
    rw [ixN_nat (by omega) (by rw [List.length_cons]; omega)]
    rfl
  have ec : (sg (c :: r)).cps.toList = c :: r := rfl
  have z1 : (sg (c :: r)).length ≤ sizeLine := hz
  simp [dIx, orF, ixSeq, ixTxt, itemsD, ec, a0, z1]
theorem or_t {a b : MT} {g : Gm} {S S1 : Sr} (h1 : a g S = .ok true S1) : mOr a b g S = .ok true S1 := by
  unfold mOr SM.bind
  rw [h1]
  rfl
theorem and_t {a b : MT} {g : Gm} {S S1 S2 : Sr} {v : Bool} (h1 : a g S = .ok true S1) (h2 : b g S1 = .ok v S2) : mAnd a b g S = .ok v S2 := by
  unfold mAnd SM.bind
  rw [h1]
  exact h2
theorem and_f {a b : MT} {g : Gm} {S S1 : Sr} (h1 : a g S = .ok false S1) : mAnd a b g S = .ok false S1 := by
  unfold mAnd SM.bind
  rw [h1]
  rfl
theorem e_len0 {t : List Nat} {g : Gm} {S : Sr} {i : Nat} (hg : g[i]? = some (some (strL t))) (hl : t.length ≤ 1000) : mCB fLen (mCons (mVar i) mNil) g S = .ok (.int (t.length : Nat)) S := by
  have z1 : (sg t).length ≤ sizeLine := by rw [sg_len, sizeLine_eq]; omega
  have e : fLen [strL t] S = .ok (.int (t.length : Nat)) S := by
    show (match (if (sg t).length ≤ sizeLine then some (sg t).length else none) with
      | some n => R.ok (D.int (n : Int)) S
      | none => .bad) = _
    rw [if_pos z1, sg_len]
  simp only [mCB, mCons, mNil, mVar, SM.bind, SM.pure, hg, e]
theorem t_len {t : List Nat} {g : Gm} {S : Sr} (hg : g[0]? = some (some (strL t))) (hl : t.length ≤ 1000) : mNot (mTB (mChain dLt dLt (mC (.int 0)) (mCB fLen (mCons (mVar 0) mNil)) (mC (.int 11)))) g S = .ok (!(decide (0 < t.length) && decide (t.length < 11))) S := by
  have e := e_len0 (S := S) hg hl
  have c1 : decide ((0 : Int) < ((t.length : Nat) : Int)) = decide (0 < t.length) := decide_eq_decide.mpr (by omega)
  have c2 : decide (((t.length : Nat) : Int) < (11 : Int)) = decide (t.length < 11) := decide_eq_decide.mpr (by omega)
  simp only [mNot, mTB, mChain, mC, SM.bind, SM.pure, e, dLt, okB, c1, c2]
  cases decide (0 < t.length) <;> rfl
theorem e_num {t : List Nat} {S : Sr} (hs : Sgn t) (hl : t.length ≤ 1000) : f_number_of_text [strL t] S = match numT t with
    | some n => .ok (.int n) S
    | none => .exc "RunError" S := by
  have z1 : (sg t).length ≤ sizeLine := by rw [sg_len, sizeLine_eq]; omega
  let g : Gm := [some (strL t), none]
  have em : mTB (mAnyS (notInS "0123456789") (mVar 0)) g S = .ok (!t.all digB) S := by
    refine tb_of ?_
    have := anyDig (x := sg t)
    rw [tl_sg] at this
    rw [← this]
    rfl
  have t0 := t_len (S := S) (g := g) rfl hl
  have eg : ([strL t].map some ++ List.replicate (2 - [strL t].length) none : Gm) = g := rfl
  unfold f_number_of_text mFun
  rw [eg]
  unfold b_number_of_text
  have raise : ∀ v : MT, v g S = .ok true S → mSeq (mIfS v (mRaise "RunError") mPass) (mRet (mCB fInt (mCons (mVar 0) mNil))) g S = .ex "RunError" S := fun v h => sq_ex (by rw [ifs_t h]; rfl)
  by_cases a1 : 0 < t.length ∧ t.length < 11
  · rw [decide_eq_true a1.1, decide_eq_true a1.2] at t0
    cases a2 : t.all digB with
    | false =>
      rw [a2] at em
      have a6 : numT t = none := by
        unfold numT
        rw [if_neg fun q => by rw [a2] at q; exact Bool.false_ne_true q.2.2.1]
      rw [raise _ (or_f t0 (or_t em)), a6]
    | true =>
      rw [a2] at em
      cases t with
      | nil => simp at a1
      | cons c r =>
        have i0 := ix0 (c := c) (r := r) (S := S) z1
        have o0 : Sgn (tl (⟨#[c]⟩ : Str)) := fun x hx => hs x (by
          have : x ∈ [c] := hx
          rw [List.mem_singleton.mp this]
          exact List.mem_cons_self)
        have o1 : Sgn (tl ("0" : Str)) := sgn_of (by decide +kernel)
        have z0 : ("0" : Str) = ⟨#[48]⟩ := by decide +kernel
        have e0 : dEq (.str ⟨#[c]⟩) (.str "0") S = .ok (.bl (decide (c = 48))) S := by
          rw [eqT o0 o1, z0]
          congr 2
          exact decide_eq_decide.mpr one_sg
        have it : intText? (sg (c :: r)) = some ((NumText.digitsVal (c :: r) : Nat) : Int) := intText_digits (x := sg (c :: r)) (digs a2) (by simp) (by rw [sg_len]; omega)
        have l6 : (sg (c :: r)).length ≤ 640 := by rw [sg_len]; omega
        have ta : mTB (mB dEq (mB dIx (mVar 0) (mC (.int 0))) (mC (.str "0"))) g S = .ok (decide (c = 48)) S := by
          refine tb_of ?_
          have hg : g[0]? = some (some (strL (c :: r))) := rfl
          simp only [mB, mVar, mC, SM.bind, SM.pure, hg, i0, e0]
        have tb : mTB (mB dGt (mCB fLen (mCons (mVar 0) mNil)) (mC (.int 1))) g S = .ok (decide (1 < (c :: r).length)) S := by
          refine tb_of ?_
          have e := e_len0 (S := S) (g := g) (i := 0) rfl hl
          have c2 : decide ((1 : Int) < (((c :: r).length : Nat) : Int)) = decide (1 < (c :: r).length) := decide_eq_decide.mpr (by omega)
          simp only [mB, mC, SM.bind, SM.pure, e, dGt, okB, c2]
        have fin : ∀ v : MT, v g S = .ok false S → mSeq (mIfS v (mRaise "RunError") mPass) (mRet (mCB fInt (mCons (mVar 0) mNil))) g S = .rt (.int ((NumText.digitsVal (c :: r) : Nat) : Int)) S := fun v h => by
          rw [sq_nx (by rw [ifs_f h]; rfl)]
          have hg : g[0]? = some (some (strL (c :: r))) := rfl
          simp only [mRet, mCB, mCons, mNil, mVar, SM.bind, SM.pure, hg, fInt, it, l6, if_true, toRS]
        by_cases a3 : c = 48
        · rw [decide_eq_true a3] at ta
          by_cases a4 : 1 < (c :: r).length
          · rw [decide_eq_true a4] at tb
            have a6 : numT (c :: r) = none := by
              unfold numT
              rw [if_neg fun q => q.2.2.2 ⟨a3, a4⟩]
            rw [raise _ (or_f t0 (or_f em (and_t ta tb))), a6]
          · rw [decide_eq_false a4] at tb
            have a6 : numT (c :: r) = some ((NumText.digitsVal (c :: r) : Nat) : Int) := by
              unfold numT
              rw [if_pos ⟨a1.1, a1.2, a2, fun q => a4 q.2⟩]
            rw [fin _ (or_f t0 (or_f em (and_t ta tb))), a6]
        · rw [decide_eq_false a3] at ta
          have a6 : numT (c :: r) = some ((NumText.digitsVal (c :: r) : Nat) : Int) := by
            unfold numT
            rw [if_pos ⟨a1.1, a1.2, a2, fun q => a3 q.1⟩]
          rw [fin _ (or_f t0 (or_f em (and_f ta))), a6]
  · have a6 : numT t = none := by
      unfold numT
      rw [if_neg fun q => a1 ⟨q.1, q.2.1⟩]
    have : (decide (0 < t.length) && decide (t.length < 11)) = false := by
      rw [← Bool.decide_and]
      exact decide_eq_false a1
    rw [this] at t0
    rw [raise _ (or_t t0), a6]
/-! ### the head lines -/
def cutT (s : Nat) (l : List Nat) : List Nat × List Nat × List Nat := match par [s] [] l with
  | some p => (p.1, [s], p.2)
  | none => (l, [], [])
theorem part_cut {s : Nat} {y : Str} (hy : tl y = [s]) (l : List Nat) : Txt.partition (sg l) y = (sg (cutT s l).1, sg (cutT s l).2.1, sg (cutT s l).2.2) := by
  have ey : y = sg [s] := by rw [← hy, sg_tl]
  rw [partition_par (sg l) y (by rw [hy]; simp), hy, tl_sg]
  unfold cutT
  cases par [s] [] l with
  | none => rfl
  | some p =>
    rw [ey]
def alnB (c : Nat) : Bool := (decide (97 ≤ c) && decide (c ≤ 122)) || digB c
theorem aln_mem (n : Nat) : decide (n ∈ tl ("abcdefghijklmnopqrstuvwxyz0123456789" : Str)) = alnB n := by
  have e : tl ("abcdefghijklmnopqrstuvwxyz0123456789" : Str) = [97, 98, 99, 100, 101, 102, 103, 104, 105, 106, 107, 108, 109, 110, 111, 112, 113, 114, 115, 116, 117, 118, 119, 120, 121, 122, 48, 49, 50, 51, 52, 53, 54, 55, 56, 57] := by decide +kernel
  rw [e]
  unfold alnB digB
  rw [← Bool.decide_and, ← Bool.decide_and, ← Bool.decide_or]
  apply decide_eq_decide.mpr
  simp only [List.mem_cons, List.not_mem_nil, or_false]
  omega
theorem anyAln {x : Str} : (tl x).any (notInS ("abcdefghijklmnopqrstuvwxyz0123456789" : Str)) = !(tl x).all alnB := by
  rw [← any_not]
  congr 1
  funext n
  rw [notInS_eq, aln_mem]
def headT (l : List Nat) : Option (List Nat × Int) := if (cutT 32 l).1 = [] ∨ (cutT 32 l).1.all alnB = false then none else match numT (cutT 32 l).2.2 with
  | some n => if 1 ≤ n ∧ n ≤ 32 then some ((cutT 32 l).1, n) else none
  | none => none
theorem par_len : ∀ (l acc : List Nat) {s : Nat} {p : List Nat × List Nat}, par [s] acc l = some p → (∀ c ∈ p.1, c ∈ acc ∨ c ∈ l) ∧ (∀ c ∈ p.2, c ∈ l) ∧ p.1.length + p.2.length ≤ acc.length + l.length
  | [], acc, s, p, e => by cases e
  | c :: r, acc, s, p, e => by
    unfold par at e
    split at e
    · cases e
      refine ⟨fun d hd => .inl hd, fun d hd => List.mem_of_mem_drop hd, ?_⟩
      have := List.length_drop (i := [s].length) (l := c :: r)
      dsimp only at this ⊢
      omega
    · obtain ⟨h1, h2, h3⟩ := par_len r (acc ++ [c]) e
      refine ⟨fun d hd => ?_, fun d hd => List.mem_cons_of_mem _ (h2 d hd), by simp at h3 ⊢; omega⟩
      rcases h1 d hd with h | h
      · rcases List.mem_append.mp h with h | h
        · exact .inl h
        · rw [List.mem_singleton.mp h]
          exact .inr List.mem_cons_self
      · exact .inr (List.mem_cons_of_mem _ h)
theorem cut_ok {s : Nat} {l : List Nat} (hs : Sgn l) (hl : l.length ≤ 1000) : (Sgn (cutT s l).1 ∧ (cutT s l).1.length ≤ 1000) ∧ Sgn (cutT s l).2.2 ∧ (cutT s l).2.2.length ≤ 1000 := by
  unfold cutT
  cases e : par [s] [] l with
  | none => exact ⟨⟨hs, hl⟩, sgn_nil, Nat.zero_le _⟩
  | some p =>
    obtain ⟨h1, h2, h3⟩ := par_len l [] e
    rw [List.length_nil] at h3
    exact ⟨⟨fun c hc => (h1 c hc).elim (fun z => nomatch z) (hs c), by dsimp only; omega⟩, fun c hc => hs c (h2 c hc), by dsimp only; omega⟩
theorem e_head {l : List Nat} {S : Sr} (hs : Sgn l) (hl : l.length ≤ 1000) : f_head_of [strL l] S = match headT l with
    | some (n, w) => .ok (.tup [strL n, .int w]) S
    | none => .exc "RunError" S := by
  obtain ⟨⟨c1, c2⟩, c3, c4⟩ := cut_ok (s := 32) hs hl
  have z1 : (sg l).length ≤ sizeLine := by rw [sg_len, sizeLine_eq]; omega
  have z2 : (sg (cutT 32 l).1).length ≤ sizeLine := by rw [sg_len, sizeLine_eq]; omega
  have sz2 : 2 ≤ sizeLine := by rw [sizeLine_eq]; omega
  have el2 : ((" " : Str).length == 0) = false := by decide +kernel
  have ep := part_cut (s := 32) (y := (" " : Str)) (by decide +kernel) l
  have en := e_num (S := S) c3 c4
  have em : ∀ g : Gm, g[1]? = some (some (strL (cutT 32 l).1)) → mAnyS (notInS "abcdefghijklmnopqrstuvwxyz0123456789") (mVar 1) g S = .ok (.bl (!(cutT 32 l).1.all alnB)) S := fun g hg => by
    have := anyAln (x := sg (cutT 32 l).1)
    rw [tl_sg] at this
    rw [← this]
    unfold mAnyS mVar SM.bind
    rw [hg]
  have em1 := em [some (strL l), some (strL (cutT 32 l).1), some (strL (cutT 32 l).2.1), some (strL (cutT 32 l).2.2), none] rfl
  have e0 : dEq (strL (cutT 32 l).1) (.str "") S = .ok (.bl (decide ((cutT 32 l).1 = []))) S := by
    have ez : ("" : Str) = sg [] := by decide +kernel
    rw [ez, eqT c1 sgn_nil]
    congr 2
    exact decide_eq_decide.mpr sg_inj
  unfold headT
  by_cases a1 : (cutT 32 l).1 = []
  · have e0' := e0
    rw [a1] at e0'
    simp (decide := true) [f_head_of, mFun, b_head_of, mSeq, mPass, mBrk, mCnt, mDrop, mRet, mRetN, mIfS, mRaise, mSet, mAsg, mPar, mPar3, mAug, mFld, mFldAug, gNm, gSub', gFld, gNl, gCn, gTp, setA, putFD, mVar, mC, mB, mU, mTB, mAnd, mOr, mNot, mIf, mAndV, mOrV, mNotV, mChain, mNil, mCons, mTup, mLst, mSl, oNo, oE, mCB, fAbs, fMax2, fMin2, fInt, lenD, fLen, fTuple, fList, itemsD, fIsi, tyD, mAttr, mCall, mMeth, mMake, mBM, tyF, SM.bind, SM.pure, toRS, toRSA, toRST, Y.sb, List.lookup, put_f, put_n, alloc_f, alloc_n, put_put, alloc_put, okI, okB, orF, dSub, dFdiv, dMod, dPow, dShl, dShr, dAnd, dOr, dXor, dNeg, dLt, dLe, dGt, dGe, dIs, fPart, z1, el2, ep, e0', a1]
  · cases a2 : (cutT 32 l).1.all alnB with
    | false =>
      rw [a2] at em1
      simp (decide := true) [f_head_of, mFun, b_head_of, mSeq, mPass, mBrk, mCnt, mDrop, mRet, mRetN, mIfS, mRaise, mSet, mAsg, mPar, mPar3, mAug, mFld, mFldAug, gNm, gSub', gFld, gNl, gCn, gTp, setA, putFD, mVar, mC, mB, mU, mTB, mAnd, mOr, mNot, mIf, mAndV, mOrV, mNotV, mChain, mNil, mCons, mTup, mLst, mSl, oNo, oE, mCB, fAbs, fMax2, fMin2, fInt, lenD, fLen, fTuple, fList, itemsD, fIsi, tyD, mAttr, mCall, mMeth, mMake, mBM, tyF, SM.bind, SM.pure, toRS, toRSA, toRST, Y.sb, List.lookup, put_f, put_n, alloc_f, alloc_n, put_put, alloc_put, okI, okB, orF, dSub, dFdiv, dMod, dPow, dShl, dShr, dAnd, dOr, dXor, dNeg, dLt, dLe, dGt, dGe, dIs, fPart, z1, el2, ep, e0, a1, em1]
    | true =>
      rw [a2] at em1
      cases hn : numT (cutT 32 l).2.2 with
      | none =>
        rw [hn] at en
        simp (decide := true) [f_head_of, mFun, b_head_of, mSeq, mPass, mBrk, mCnt, mDrop, mRet, mRetN, mIfS, mRaise, mSet, mAsg, mPar, mPar3, mAug, mFld, mFldAug, gNm, gSub', gFld, gNl, gCn, gTp, setA, putFD, mVar, mC, mB, mU, mTB, mAnd, mOr, mNot, mIf, mAndV, mOrV, mNotV, mChain, mNil, mCons, mTup, mLst, mSl, oNo, oE, mCB, fAbs, fMax2, fMin2, fInt, lenD, fLen, fTuple, fList, itemsD, fIsi, tyD, mAttr, mCall, mMeth, mMake, mBM, tyF, SM.bind, SM.pure, toRS, toRSA, toRST, Y.sb, List.lookup, put_f, put_n, alloc_f, alloc_n, put_put, alloc_put, okI, okB, orF, dSub, dFdiv, dMod, dPow, dShl, dShr, dAnd, dOr, dXor, dNeg, dLt, dLe, dGt, dGe, dIs, fPart, z1, el2, ep, e0, a1, em1, en]
      | some n =>
        rw [hn] at en
        have en : f_number_of_text [strL (cutT 32 l).2.2] S = .ok (.int n) S := en
        by_cases b1 : 1 ≤ n
        · by_cases b2 : n ≤ 32
          · simp (decide := true) [f_head_of, mFun, b_head_of, mSeq, mPass, mBrk, mCnt, mDrop, mRet, mRetN, mIfS, mRaise, mSet, mAsg, mPar, mPar3, mAug, mFld, mFldAug, gNm, gSub', gFld, gNl, gCn, gTp, setA, putFD, mVar, mC, mB, mU, mTB, mAnd, mOr, mNot, mIf, mAndV, mOrV, mNotV, mChain, mNil, mCons, mTup, mLst, mSl, oNo, oE, mCB, fAbs, fMax2, fMin2, fInt, lenD, fLen, fTuple, fList, itemsD, fIsi, tyD, mAttr, mCall, mMeth, mMake, mBM, tyF, SM.bind, SM.pure, toRS, toRSA, toRST, Y.sb, List.lookup, put_f, put_n, alloc_f, alloc_n, put_put, alloc_put, okI, okB, orF, dSub, dFdiv, dMod, dPow, dShl, dShr, dAnd, dOr, dXor, dNeg, dLt, dLe, dGt, dGe, dIs, fPart, z1, el2, ep, e0, a1, em1, en, b1, b2, sz2]
          · simp (decide := true) [f_head_of, mFun, b_head_of, mSeq, mPass, mBrk, mCnt, mDrop, mRet, mRetN, mIfS, mRaise, mSet, mAsg, mPar, mPar3, mAug, mFld, mFldAug, gNm, gSub', gFld, gNl, gCn, gTp, setA, putFD, mVar, mC, mB, mU, mTB, mAnd, mOr, mNot, mIf, mAndV, mOrV, mNotV, mChain, mNil, mCons, mTup, mLst, mSl, oNo, oE, mCB, fAbs, fMax2, fMin2, fInt, lenD, fLen, fTuple, fList, itemsD, fIsi, tyD, mAttr, mCall, mMeth, mMake, mBM, tyF, SM.bind, SM.pure, toRS, toRSA, toRST, Y.sb, List.lookup, put_f, put_n, alloc_f, alloc_n, put_put, alloc_put, okI, okB, orF, dSub, dFdiv, dMod, dPow, dShl, dShr, dAnd, dOr, dXor, dNeg, dLt, dLe, dGt, dGe, dIs, fPart, z1, el2, ep, e0, a1, em1, en, b1, b2, sz2]
        · simp (decide := true) [f_head_of, mFun, b_head_of, mSeq, mPass, mBrk, mCnt, mDrop, mRet, mRetN, mIfS, mRaise, mSet, mAsg, mPar, mPar3, mAug, mFld, mFldAug, gNm, gSub', gFld, gNl, gCn, gTp, setA, putFD, mVar, mC, mB, mU, mTB, mAnd, mOr, mNot, mIf, mAndV, mOrV, mNotV, mChain, mNil, mCons, mTup, mLst, mSl, oNo, oE, mCB, fAbs, fMax2, fMin2, fInt, lenD, fLen, fTuple, fList, itemsD, fIsi, tyD, mAttr, mCall, mMeth, mMake, mBM, tyF, SM.bind, SM.pure, toRS, toRSA, toRST, Y.sb, List.lookup, put_f, put_n, alloc_f, alloc_n, put_put, alloc_put, okI, okB, orF, dSub, dFdiv, dMod, dPow, dShl, dShr, dAnd, dOr, dXor, dNeg, dLt, dLe, dGt, dGe, dIs, fPart, z1, el2, ep, e0, a1, em1, en, b1, sz2]
end K18

set_option Elab.async false
set_option linter.all false
set_option maxRecDepth 100000
set_option maxHeartbeats 4000000
namespace K18
open PySem PySem.Spec PyProof.Rows L2 Y TL
def plD (pl : List (List Nat × Int)) : List (Key × D) := pl.map fun q => (Sum.inr (sg q.1), D.int q.2)
def look (pl : List (List Nat × Int)) (a : List Nat) : Option Int := (pl.find? fun q => decide (q.1 = a)).map (·.2)
theorem look_D (pl : List (List Nat × Int)) (a : List Nat) : lookD (plD pl) (Sum.inr (sg a)) = (look pl a).map D.int := by
  induction pl with
  | nil => rfl
  | cons q pl ih =>
    have e : plD (q :: pl) = (Sum.inr (sg q.1), D.int q.2) :: plD pl := rfl
    rw [e, look_cons]
    unfold look
    by_cases h : q.1 = a
    · rw [if_pos (by rw [h]), List.find?_cons_of_pos (by simp [h])]
      rfl
    · rw [if_neg (fun z => h (sg_inj.mp (Sum.inr.inj z))), List.find?_cons_of_neg (by simp [h]), ih]
      rfl
theorem in_pl {S : Sr} {p : Nat} {pl : List (List Nat × Int)} {a : List Nat} (h : S.f p = some (.dic (plD pl))) : dIn false (strL a) (.adr p) S = .ok (.bl (look pl a).isSome) S := by
  have e := look_D pl a
  simp [dIn, orF, inSeq, inTxt, inDic, itemsD, dicAt, h, keyD, e]
theorem ix_pl {S : Sr} {p : Nat} {pl : List (List Nat × Int)} {a : List Nat} {n : Int} (h : S.f p = some (.dic (plD pl))) (hn : look pl a = some n) : dIx (.adr p) (strL a) S = .ok (.int n) S := by
  have e := look_D pl a
  rw [hn] at e
  simp [dIx, orF, ixSeq, ixTxt, ixDic, itemsD, dicAt, h, keyD, e]
theorem nin_pl {S : Sr} {p : Nat} {pl : List (List Nat × Int)} {a : List Nat} (h : S.f p = some (.dic (plD pl))) : dIn true (strL a) (.adr p) S = .ok (.bl (!(look pl a).isSome)) S := by
  have e := look_D pl a
  simp [dIn, orF, inSeq, inTxt, inDic, itemsD, dicAt, h, keyD, e]
/-! ### waves -/
abbrev widD (q : List Nat × Int) : D := .tup [strL q.1, .int q.2]
abbrev valD (r : List Int) : D := .gtp (r.map .int)
structure WaveAt (S : Sr) (iw ir : Nat) (W : List (List Nat × Int)) (rows : List (List Int)) : Prop where
  w : S.f iw = some (.ins "Wave" [("widths", .gtp (W.map widD)), ("rows", .adr ir)])
  r : S.f ir = some (.lst (rows.map valD))
  lt : iw < S.n ∧ ir < S.n ∧ iw ≠ ir
theorem WaveAt.mv {S S' : Sr} {iw ir : Nat} {W : List (List Nat × Int)} {rows : List (List Int)} {l : List Nat} (a : WaveAt S iw ir W rows) (f : Fr l S S') (h1 : iw ∉ l) (h2 : ir ∉ l) : WaveAt S' iw ir W rows := ⟨f.at a.lt.1 h1 a.w, f.at a.lt.2.1 h2 a.r, Nat.lt_of_lt_of_le a.lt.1 f.1, Nat.lt_of_lt_of_le a.lt.2.1 f.1, a.lt.2.2⟩
theorem WaveAt.xt {S S' : Sr} {iw ir : Nat} {W : List (List Nat × Int)} {rows : List (List Int)} (a : WaveAt S iw ir W rows) (x : Xt S S') : WaveAt S' iw ir W rows := a.mv (l := []) (Xt.fr x) (by simp) (by simp)
/-- a new wave -/
theorem e_init {S : Sr} {iL : Nat} {W : List (List Nat × Int)} (h : S.f iL = some (.lst (W.map widD))) (hl : iL < S.n) : ∃ S', f_Wave___init__ [.adr S.n, .adr iL] (S.alloc (.ins "Wave" [])) = .ok .non S' ∧ WaveAt S' S.n (S.n + 1) W [] ∧ Xt S S' := by
  have h' : (S.alloc (.ins "Wave" [])).f iL = some (.lst (W.map widD)) := at_old h hl
  have n1 : ¬ iL = S.n := Nat.ne_of_lt hl
  have z0 : 0 ≤ sizeLine := Nat.zero_le _
  let S1 : Sr := ((S.alloc (.ins "Wave" [])).put S.n (.ins "Wave" [("widths", .gtp (W.map widD))]))
  let S2 : Sr := S1.alloc (.lst (([] : List (List Int)).map valD))
  let S3 : Sr := S2.put S.n (.ins "Wave" [("widths", .gtp (W.map widD)), ("rows", .adr (S.n + 1))])
  refine ⟨S3, ?_, ⟨at_put, at_put_ne (i := S.n + 1) (S := S2) (at_new (S := S1)) (Nat.succ_ne_self _), show S.n < S.n + 1 + 1 by omega, show S.n + 1 < S.n + 1 + 1 by omega, by omega⟩, ?_⟩
  · simp (decide := true) [f_Wave___init__, mFun, b_Wave___init__, mSeq, mPass, mBrk, mCnt, mDrop, mRet, mRetN, mIfS, mRaise, mSet, mAsg, mPar, mPar3, mAug, mFld, mFldAug, gNm, gSub', gFld, gNl, gCn, gTp, setA, putFD, mVar, mC, mB, mU, mTB, mAnd, mOr, mNot, mIf, mAndV, mOrV, mNotV, mChain, mNil, mCons, mTup, mLst, mSl, oNo, oE, mCB, fAbs, fMax2, fMin2, fInt, lenD, fLen, fTuple, fList, itemsD, fIsi, tyD, mAttr, mCall, mMeth, mMake, mBM, tyF, SM.bind, SM.pure, toRS, toRSA, toRST, Y.sb, List.lookup, put_f, put_n, alloc_f, alloc_n, put_put, alloc_put, okI, okB, orF, dSub, dFdiv, dMod, dPow, dShl, dShr, dAnd, dOr, dXor, dNeg, dLt, dLe, dGt, dGe, dIs, fTupG, h', h, n1, z0, S3, S2, S1]
  · exact ((Xt.alloc.put (Nat.le_refl _)).alloc').put (Nat.le_refl _)
def addR : List (List Nat × Int) → List (List Nat × Int) → Option (List Int)
  | [], _ => some []
  | q :: r, pl => match look pl q.1 with
    | none => none
    | some v => if 0 ≤ v ∧ v < 2 ^ q.2.toNat then (addR r pl).map (v :: ·) else none
section
variable {S : Sr} {iw ir it R0 : Nat} {W : List (List Nat × Int)} {rows : List (List Int)} {pl : List (List Nat × Int)}
theorem add_loop (ht : S.f it = some (.dic (plD pl))) (hi : it < S.n) (hw : ∀ q ∈ W, Sgn q.1 ∧ 0 ≤ q.2 ∧ q.2 ≤ 100) (hn : W.length ≤ 1000) : ∀ (r idx : Nat) (acc : List Int) (x3 x4 : Option D), idx + r = W.length → acc.length ≤ idx →
    (match addR (W.drop idx) pl with
    | some vs => ∃ y3 y4, forG (sqn (W.map widD)) (mStep (gTp 2 (gCn (gNm 3) (gCn (gNm 4) gNl))) b_Wave_add_L16) r idx [some (.adr iw), some (.adr it), some (.adr S.n), x3, x4] ((S.alloc (.lst [])).put S.n (.lst (acc.map .int))) = .nx [some (.adr iw), some (.adr it), some (.adr S.n), y3, y4] ((S.alloc (.lst [])).put S.n (.lst ((acc ++ vs).map .int)))
    | none => ∃ a', forG (sqn (W.map widD)) (mStep (gTp 2 (gCn (gNm 3) (gCn (gNm 4) gNl))) b_Wave_add_L16) r idx [some (.adr iw), some (.adr it), some (.adr S.n), x3, x4] ((S.alloc (.lst [])).put S.n (.lst (acc.map .int))) = .ex "RunError" ((S.alloc (.lst [])).put S.n (.lst a')))
  | 0, idx, acc, x3, x4, h, _ => by
    rw [List.drop_eq_nil_of_le (by omega)]
    refine ⟨x3, x4, ?_⟩
    rw [List.append_nil]
    refine fo_end ?_
    show some (W.map widD)[idx]? = _
    rw [List.getElem?_eq_none (by rw [List.length_map]; omega)]
  | r + 1, idx, acc, x3, x4, h, hz => by
    have hl : idx < W.length := by omega
    obtain ⟨s1, s2, s3⟩ := hw _ (List.getElem_mem hl)
    have en : (sqn (W.map widD)).nxt idx ((S.alloc (.lst [])).put S.n (.lst (acc.map .int))) = some (some (widD W[idx])) := by
      show some (W.map widD)[idx]? = _
      rw [List.getElem?_map, List.getElem?_eq_getElem hl]
      rfl
    rw [List.drop_eq_getElem_cons hl]
    have ht' : ((S.alloc (.lst [])).put S.n (.lst (acc.map .int))).f it = some (.dic (plD pl)) := at_put_ne (at_old ht hi) (Nat.ne_of_lt hi)
    have h0 : ((S.alloc (.lst [])).put S.n (.lst (acc.map .int))).f S.n = some (.lst (acc.map .int)) := at_put
    have st : ∀ g : Gm, g = [some (.adr iw), some (.adr it), some (.adr S.n), x3, x4] → mStep (gTp 2 (gCn (gNm 3) (gCn (gNm 4) gNl))) b_Wave_add_L16 (widD W[idx]) g ((S.alloc (.lst [])).put S.n (.lst (acc.map .int))) = b_Wave_add_L16 [some (.adr iw), some (.adr it), some (.adr S.n), some (strL W[idx].1), some (.int W[idx].2)] ((S.alloc (.lst [])).put S.n (.lst (acc.map .int))) := fun g hg => by
      subst hg
      simp (decide := true) [mStep, mSeq, mPass, mBrk, mCnt, mDrop, mRet, mRetN, mIfS, mRaise, mSet, mAsg, mPar, mPar3, mAug, mFld, mFldAug, gNm, gSub', gFld, gNl, gCn, gTp, setA, putFD, mVar, mC, mB, mU, mTB, mAnd, mOr, mNot, mIf, mAndV, mOrV, mNotV, mChain, mNil, mCons, mTup, mLst, mSl, oNo, oE, mCB, fAbs, fMax2, fMin2, fInt, lenD, fLen, fTuple, fList, itemsD, fIsi, tyD, mAttr, mCall, mMeth, mMake, mBM, tyF, SM.bind, SM.pure, toRS, toRSA, toRST, Y.sb, List.lookup, put_f, put_n, alloc_f, alloc_n, put_put, alloc_put, okI, okB, orF, dSub, dFdiv, dMod, dPow, dShl, dShr, dAnd, dOr, dXor, dNeg, dLt, dLe, dGt, dGe, dIs]
    have st := st _ rfl
    have nn := nin_pl (a := W[idx].1) ht'
    have pw : powB 1 W[idx].2 = true := by
      unfold powB
      exact decide_eq_true ⟨s2, by omega, by decide⟩
    let g : Gm := [some (.adr iw), some (.adr it), some (.adr S.n), some (strL W[idx].1), some (.int W[idx].2)]
    have g1 : g[1]? = some (some (.adr it)) := rfl
    have g2 : g[2]? = some (some (.adr S.n)) := rfl
    have g3 : g[3]? = some (some (strL W[idx].1)) := rfl
    have g4 : g[4]? = some (some (.int W[idx].2)) := rfl
    have ta : mTB (mB (dIn true) (mVar 3) (mVar 1)) g ((S.alloc (.lst [])).put S.n (.lst (acc.map .int))) = .ok (!(look pl W[idx].1).isSome) ((S.alloc (.lst [])).put S.n (.lst (acc.map .int))) := by
      refine tb_of ?_
      simp only [mB, mVar, SM.bind, g1, g3, nn]
    unfold addR
    cases hk : look pl W[idx].1 with
    | none =>
      rw [hk] at ta
      refine ⟨acc.map .int, fo_ex en (st.trans ?_)⟩
      unfold b_Wave_add_L16
      refine sq_ex ?_
      show mIfS _ _ _ g _ = _
      rw [ifs_t (or_t ta)]
      rfl
    | some v =>
      rw [hk] at ta
      have ix := ix_pl ht' hk
      have tb : mNot (mTB (mChain dLe dLt (mC (.int 0)) (mB dIx (mVar 1) (mVar 3)) (mB dShl (mC (.int 1)) (mVar 4)))) g ((S.alloc (.lst [])).put S.n (.lst (acc.map .int))) = .ok (!(decide (0 ≤ v) && decide (v < 2 ^ W[idx].2.toNat))) ((S.alloc (.lst [])).put S.n (.lst (acc.map .int))) := by
        have sh : dShl (.int 1) (.int W[idx].2) ((S.alloc (.lst [])).put S.n (.lst (acc.map .int))) = .ok (.int (2 ^ W[idx].2.toNat)) ((S.alloc (.lst [])).put S.n (.lst (acc.map .int))) := by
          simp [dShl, okI, pw]
        simp only [mNot, mTB, mChain, mB, mVar, mC, SM.bind, SM.pure, g1, g3, g4, ix, sh, dLe, dLt, okB]
        cases decide (0 ≤ v) <;> rfl
      dsimp only
      by_cases hv : 0 ≤ v ∧ v < 2 ^ W[idx].2.toNat
      · rw [if_pos hv]
        rw [decide_eq_true hv.1, decide_eq_true hv.2] at tb
        have sz : (acc.map D.int).length < sizeLine := by rw [List.length_map, sizeLine_eq]; omega
        have ap : fApp (.adr S.n) [.int v] ((S.alloc (.lst [])).put S.n (.lst (acc.map .int))) = .ok .non ((S.alloc (.lst [])).put S.n (.lst ((acc ++ [v]).map .int))) := by
          unfold fApp
          simp only [h0]
          rw [if_pos sz, put_put, List.map_append]
          rfl
        have body : b_Wave_add_L16 g ((S.alloc (.lst [])).put S.n (.lst (acc.map .int))) = .nx g ((S.alloc (.lst [])).put S.n (.lst ((acc ++ [v]).map .int))) := by
          unfold b_Wave_add_L16
          rw [sq_nx (by rw [ifs_f (or_f ta tb)]; rfl)]
          simp (decide := true) only [mDrop, mBM, mB, mVar, mCons, mNil, SM.bind, SM.pure, g1, g2, g3, tyF, h0, ix, ap, if_true, toRS]
        have ih := add_loop ht hi hw hn r (idx + 1) (acc ++ [v]) (some (strL W[idx].1)) (some (.int W[idx].2)) (by omega) (by rw [List.length_append, List.length_singleton]; omega)
        cases hA : addR (W.drop (idx + 1)) pl with
        | none =>
          rw [hA] at ih
          obtain ⟨a', e⟩ := ih
          exact ⟨a', (fo_nx en (st.trans body)).trans e⟩
        | some vs =>
          rw [hA] at ih
          obtain ⟨y3, y4, e⟩ := ih
          refine ⟨y3, y4, (fo_nx en (st.trans body)).trans ?_⟩
          rw [e, List.append_assoc]
          rfl
      · rw [if_neg hv]
        have : (decide (0 ≤ v) && decide (v < 2 ^ W[idx].2.toNat)) = false := by
          rw [← Bool.decide_and]
          exact decide_eq_false hv
        rw [this] at tb
        refine ⟨acc.map .int, fo_ex en (st.trans ?_)⟩
        unfold b_Wave_add_L16
        refine sq_ex ?_
        show mIfS _ _ _ g _ = _
        rw [ifs_t (or_f ta tb)]
        rfl
theorem e_add (a : WaveAt S iw ir W rows) (ht : S.f it = some (.dic (plD pl))) (hi : it < S.n) (hw : ∀ q ∈ W, Sgn q.1 ∧ 0 ≤ q.2 ∧ q.2 ≤ 100) (hn : W.length ≤ 1000) (hr : rows.length ≤ 1000000) :
    match addR W pl with
    | some row => ∃ S', f_Wave_add [.adr iw, .adr it] S = .ok .non S' ∧ WaveAt S' iw ir W (rows ++ [row]) ∧ Fr [ir] S S'
    | none => ∃ S', f_Wave_add [.adr iw, .adr it] S = .exc "RunError" S' ∧ Xt S S' := by
  obtain ⟨w, r, lt⟩ := a
  have z0 : 0 ≤ sizeLine := Nat.zero_le _
  have L := add_loop (iw := iw) ht hi hw hn W.length 0 [] none none (Nat.zero_add _) (Nat.le_refl _)
  rw [List.drop_zero] at L
  have S0 : (S.alloc (.lst [])).put S.n (.lst (([] : List Int).map .int)) = S.alloc (.lst []) := put_same at_new
  rw [S0] at L
  unfold f_Wave_add mFun
  have eg : ([D.adr iw, D.adr it].map some ++ List.replicate (5 - [D.adr iw, D.adr it].length) none : Gm) = [some (.adr iw), some (.adr it), none, none, none] := rfl
  rw [eg]
  unfold b_Wave_add
  have e1 : mSet 2 (mLst mNil) [some (.adr iw), some (.adr it), none, none, none] S = .nx [some (.adr iw), some (.adr it), some (.adr S.n), none, none] (S.alloc (.lst [])) := by
    simp (decide := true) [mSeq, mPass, mBrk, mCnt, mDrop, mRet, mRetN, mIfS, mRaise, mSet, mAsg, mPar, mPar3, mAug, mFld, mFldAug, gNm, gSub', gFld, gNl, gCn, gTp, setA, putFD, mVar, mC, mB, mU, mTB, mAnd, mOr, mNot, mIf, mAndV, mOrV, mNotV, mChain, mNil, mCons, mTup, mLst, mSl, oNo, oE, mCB, fAbs, fMax2, fMin2, fInt, lenD, fLen, fTuple, fList, itemsD, fIsi, tyD, mAttr, mCall, mMeth, mMake, mBM, tyF, SM.bind, SM.pure, toRS, toRSA, toRST, Y.sb, List.lookup, put_f, put_n, alloc_f, alloc_n, put_put, alloc_put, okI, okB, orF, dSub, dFdiv, dMod, dPow, dShl, dShr, dAnd, dOr, dXor, dNeg, dLt, dLe, dGt, dGe, dIs, z0]
  rw [sq_nx e1]
  have nw : ¬ iw = S.n := Nat.ne_of_lt lt.1
  have es : mSrc (mAttr ["Wave"] "widths" (mVar 0)) [some (.adr iw), some (.adr it), some (.adr S.n), none, none] (S.alloc (.lst [])) = .ok (sqn (W.map widD)) (S.alloc (.lst [])) := by
    simp (decide := true) [mSrc, mSrcD, mSeq, mPass, mBrk, mCnt, mDrop, mRet, mRetN, mIfS, mRaise, mSet, mAsg, mPar, mPar3, mAug, mFld, mFldAug, gNm, gSub', gFld, gNl, gCn, gTp, setA, putFD, mVar, mC, mB, mU, mTB, mAnd, mOr, mNot, mIf, mAndV, mOrV, mNotV, mChain, mNil, mCons, mTup, mLst, mSl, oNo, oE, mCB, fAbs, fMax2, fMin2, fInt, lenD, fLen, fTuple, fList, itemsD, fIsi, tyD, mAttr, mCall, mMeth, mMake, mBM, tyF, SM.bind, SM.pure, toRS, toRSA, toRST, Y.sb, List.lookup, put_f, put_n, alloc_f, alloc_n, put_put, alloc_put, okI, okB, orF, dSub, dFdiv, dMod, dPow, dShl, dShr, dAnd, dOr, dXor, dNeg, dLt, dLe, dGt, dGe, dIs, w, nw]
  have esn : (sqn (W.map widD)).n = W.length := by show (W.map widD).length = _; rw [List.length_map]
  cases hA : addR W pl with
  | none =>
    rw [hA] at L
    obtain ⟨a', e⟩ := L
    have xt : Xt S ((S.alloc (.lst [])).put S.n (.lst a')) := Xt.alloc.put (Nat.le_refl _)
    refine ⟨_, ?_, xt⟩
    rw [sq_ex ((mFor_of es).trans (by rw [esn]; exact e))]
  | some row =>
    rw [hA] at L
    obtain ⟨y3, y4, e⟩ := L
    rw [sq_nx ((mFor_of es).trans (by rw [esn]; exact e)), List.nil_append]
    let S1 : Sr := (S.alloc (.lst [])).put S.n (.lst (row.map .int))
    have x1 : Xt S S1 := Xt.alloc.put (Nat.le_refl _)
    have w1 := x1.at_ w lt.1
    have r1 := x1.at_ r lt.2.1
    have h1 : S1.f S.n = some (.lst (row.map .int)) := at_put
    have sz : (rows.map valD).length < sizeLine := by rw [List.length_map, sizeLine_eq]; omega
    have ap : fApp (.adr ir) [valD row] S1 = .ok .non (S1.put ir (.lst ((rows ++ [row]).map valD))) := by
      unfold fApp
      simp only [r1]
      rw [if_pos sz, List.map_append]
      rfl
    have et : fTupG [.adr S.n] S1 = .ok (valD row) S1 := by
      unfold fTupG
      simp only [h1]
    refine ⟨S1.put ir (.lst ((rows ++ [row]).map valD)), ?_, ⟨at_put_ne w1 lt.2.2, at_put, Nat.lt_of_lt_of_le lt.1 x1.le, Nat.lt_of_lt_of_le lt.2.1 x1.le, lt.2.2⟩, (Xt.fr x1).trans (Fr.put (by simp))⟩
    have fin : mDrop (mBM "list" fApp (mAttr ["Wave"] "rows" (mVar 0)) (mCons (mCB fTupG (mCons (mVar 2) mNil)) mNil)) [some (.adr iw), some (.adr it), some (.adr S.n), y3, y4] S1 = .nx [some (.adr iw), some (.adr it), some (.adr S.n), y3, y4] (S1.put ir (.lst ((rows ++ [row]).map valD))) := by
      have at1 : mAttr ["Wave"] "rows" (mVar 0) [some (.adr iw), some (.adr it), some (.adr S.n), y3, y4] S1 = .ok (.adr ir) S1 := by
        simp (decide := true) [mSeq, mPass, mBrk, mCnt, mDrop, mRet, mRetN, mIfS, mRaise, mSet, mAsg, mPar, mPar3, mAug, mFld, mFldAug, gNm, gSub', gFld, gNl, gCn, gTp, setA, putFD, mVar, mC, mB, mU, mTB, mAnd, mOr, mNot, mIf, mAndV, mOrV, mNotV, mChain, mNil, mCons, mTup, mLst, mSl, oNo, oE, mCB, fAbs, fMax2, fMin2, fInt, lenD, fLen, fTuple, fList, itemsD, fIsi, tyD, mAttr, mCall, mMeth, mMake, mBM, tyF, SM.bind, SM.pure, toRS, toRSA, toRST, Y.sb, List.lookup, put_f, put_n, alloc_f, alloc_n, put_put, alloc_put, okI, okB, orF, dSub, dFdiv, dMod, dPow, dShl, dShr, dAnd, dOr, dXor, dNeg, dLt, dLe, dGt, dGe, dIs, w1]
      simp (decide := true) only [mDrop, mBM, at1, mCB, mCons, mNil, mVar, SM.bind, SM.pure, List.getElem?_cons_succ, List.getElem?_cons_zero, tyF, r1, et, ap, if_true, toRS]
    rw [fin]
end
end K18

set_option Elab.async false
set_option linter.all false
set_option maxRecDepth 100000
set_option maxHeartbeats 4000000
namespace K18
open PySem PySem.Spec PyProof.Rows L2 Y TL
theorem ixG {l : List D} {S : Sr} {k : Int} {d : D} (h : 0 ≤ k) (e : l[k.toNat]? = some d) : dIx (.gtp l) (.int k) S = .ok d S := by
  have a := atI_of h e
  simp [dIx, orF, ixSeq, itemsD, a]
theorem ixV {r : List Int} {S : Sr} {k : Nat} (h : k < r.length) : dIx (valD r) (.int (k : Int)) S = .ok (.int r[k]) S := ixG (by omega) (by
  rw [Int.toNat_natCast, List.getElem?_map, List.getElem?_eq_getElem h]
  rfl)
/-! ### the text of a wave -/
def chg (bf : Option (List Int)) (row : List Int) (k : Nat) : Bool := match bf with
  | none => true
  | some b => decide (b.getD k 0 ≠ row.getD k 0)
def partL (W : List (List Nat × Int)) (row : List Int) (k : Nat) : List Nat := (W.getD k ([], 0)).1 ++ [61] ++ nmI (row.getD k 0)
def partsF (W : List (List Nat × Int)) (bf : Option (List Int)) (row : List Int) (ks : List Nat) : List (List Nat) := (ks.filter (chg bf row)).map (partL W row)
def partsL (W : List (List Nat × Int)) (bf : Option (List Int)) (row : List Int) : List (List Nat) := partsF W bf row (List.range W.length)
def beatL (b : Nat) (ps : List (List Nat)) : List Nat := TL.joinL [32] (([35] ++ numL b) :: ps)
def blL (W : List (List Nat × Int)) (n : Nat) : Nat → Option (List Int) → List (List Int) → List (List Nat)
  | _, _, [] => []
  | b, bf, row :: r => (if partsL W bf row ≠ [] ∨ b + 1 = n then [beatL b (partsL W bf row)] else []) ++ blL W n (b + 1) (some row) r
def hdL (q : List Nat × Int) : List Nat := q.1 ++ [32] ++ nmI q.2
def waveL (W : List (List Nat × Int)) (rows : List (List Int)) : List (List Nat) := W.map hdL ++ [[]] ++ blL W rows.length 0 none rows
def waveT (W : List (List Nat × Int)) (rows : List (List Int)) : List Nat := ((waveL W rows).map (· ++ [10])).flatten
/-- widths and rows that are drawn -/
def WOk (W : List (List Nat × Int)) : Prop := W.length ≤ 10 ∧ ∀ q ∈ W, Sgn q.1 ∧ q.1.length ≤ 10 ∧ 0 ≤ q.2 ∧ q.2 ≤ 32
def RowsOk (W : List (List Nat × Int)) (rows : List (List Int)) : Prop := rows.length ≤ 100 ∧ ∀ r ∈ rows, r.length = W.length ∧ ∀ v ∈ r, 0 ≤ v ∧ v < 99999999
theorem fmt_n {a : ME} {g : Gm} {S S' : Sr} {n : Int} (h : a g S = .ok (.int n) S') (h0 : 0 ≤ n) (h1 : n < 100000000) : mFmt a g S = .ok (strL (nmI n)) S' := by
  have l := log_ok h0 h1
  have e := toStr_int h0
  unfold mFmt SM.bind
  rw [h]
  dsimp only
  rw [if_pos l]
  show R.ok (D.str (Str.ofString (toString n))) S' = _
  rw [e]
theorem fmt_s {a : ME} {g : Gm} {S S' : Sr} {l : List Nat} (h : a g S = .ok (strL l) S') (h1 : l.length ≤ 1000) : mFmt a g S = .ok (strL l) S' := by
  have z : (sg l).length ≤ sizeLine := by rw [sg_len, sizeLine_eq]; omega
  unfold mFmt SM.bind
  rw [h]
  dsimp only
  rw [if_pos z]
theorem js_nil {acc : List Nat} {g : Gm} {S : Sr} : mJs [] (sg acc) g S = .ok (strL acc) S := rfl
theorem js_cons {a : ME} {r : List ME} {acc l : List Nat} {g : Gm} {S S' : Sr} (h : a g S = .ok (strL l) S') (hz : acc.length + l.length ≤ 1000) : mJs (a :: r) (sg acc) g S = mJs r (sg (acc ++ l)) g S' := by
  have z : (sg acc ++ sg l).length ≤ sizeLine := by rw [sg_app, sg_len, List.length_append, sizeLine_eq]; omega
  show SM.bind (a g) _ S = _
  unfold SM.bind
  rw [h]
  dsimp only
  rw [if_pos z, sg_app]
theorem nm_len {n : Int} (h1 : n < 100000000) : (nmI n).length ≤ 8 := numL_len (k := 8) (by omega) (by omega)
theorem mC_strL {s : String} {g : Gm} {S : Sr} : (mC (.str s) : ME) g S = .ok (strL (wd s)) S := by
  rw [strL_wd]
  rfl
section
variable {W : List (List Nat × Int)} {rows : List (List Int)} {bf : Option (List Int)} {row : List Int} {S : Sr} {iw ir F P b : Nat}
def bfD : Option (List Int) → D
  | none => .non
  | some r => valD r
abbrev gT (iw F : Nat) (bf : Option (List Int)) (b : Int) (row : List Int) (P : Nat) (x6 x7 x8 x9 : Option D) : Gm := [some (.adr iw), some (.adr F), some (bfD bf), some (.int b), some (valD row), some (.adr P), x6, x7, x8, x9]
theorem parts_loop (hW : WOk W) (hr : row.length = W.length ∧ ∀ v ∈ row, 0 ≤ v ∧ v < 99999999) (hb : ∀ r, bf = some r → r.length = W.length) : ∀ (r idx : Nat) (acc : List (List Nat)) (S : Sr) (x6 x7 x8 x9 : Option D), idx + r = W.length → acc.length ≤ idx → S.f P = some (.lst (acc.map strL)) →
    ∃ y6 y7 y8, forG (sqe (sqn (W.map widD))) (mStep (gTp 2 (gCn (gNm 6) (gCn (gTp 2 (gCn (gNm 7) (gCn (gNm 8) gNl))) gNl))) b_Wave_wave_text_L26) r idx (gT iw F bf (b : Int) row P x6 x7 x8 x9) S = .nx (gT iw F bf (b : Int) row P y6 y7 y8 x9) (S.put P (.lst ((acc ++ partsF W bf row ((List.range W.length).drop idx)).map strL)))
  | 0, idx, acc, S, x6, x7, x8, x9, h, _, fP => by
    rw [List.drop_eq_nil_of_le (by rw [List.length_range]; omega)]
    refine ⟨x6, x7, x8, ?_⟩
    show forG _ _ 0 idx _ S = .nx _ (S.put P (.lst ((acc ++ []).map strL)))
    rw [List.append_nil, put_same fP]
    refine fo_end ?_
    show (match (some (W.map widD)[idx]? : Option (Option D)) with
      | some (some d) => some (some (D.tup [.int (idx : Int), d]))
      | some none => some none
      | none => none) = _
    rw [List.getElem?_eq_none (by rw [List.length_map]; omega)]
  | r + 1, idx, acc, S, x6, x7, x8, x9, h, hz, fP => by
    have hl : idx < W.length := by omega
    have hlr : idx < row.length := by omega
    obtain ⟨s1, s2, s3, s4⟩ := hW.2 _ (List.getElem_mem hl)
    have wl := hW.1
    have rv := hr.2 _ (List.getElem_mem hlr)
    have en : (sqe (sqn (W.map widD))).nxt idx S = some (some (.tup [.int (idx : Int), widD W[idx]])) := by
      show (match (some (W.map widD)[idx]? : Option (Option D)) with
        | some (some d) => some (some (D.tup [.int (idx : Int), d]))
        | some none => some none
        | none => none) = _
      rw [List.getElem?_map, List.getElem?_eq_getElem hl]
      rfl
    have dr : (List.range W.length).drop idx = idx :: (List.range W.length).drop (idx + 1) := by
      rw [List.drop_eq_getElem_cons (by rw [List.length_range]; exact hl), List.getElem_range]
    let g : Gm := gT iw F bf (b : Int) row P (some (.int (idx : Nat))) (some (strL W[idx].1)) (some (.int W[idx].2)) x9
    have st : mStep (gTp 2 (gCn (gNm 6) (gCn (gTp 2 (gCn (gNm 7) (gCn (gNm 8) gNl))) gNl))) b_Wave_wave_text_L26 (.tup [.int (idx : Int), widD W[idx]]) (gT iw F bf (b : Int) row P x6 x7 x8 x9) S = b_Wave_wave_text_L26 g S := by
      simp (decide := true) [mStep, mSeq, mPass, mBrk, mCnt, mDrop, mRet, mRetN, mIfS, mRaise, mSet, mAsg, mPar, mPar3, mAug, mFld, mFldAug, gNm, gSub', gFld, gNl, gCn, gTp, setA, putFD, mVar, mC, mB, mU, mTB, mAnd, mOr, mNot, mIf, mAndV, mOrV, mNotV, mChain, mNil, mCons, mTup, mLst, mSl, oNo, oE, mCB, fAbs, fMax2, fMin2, fInt, lenD, fLen, fTuple, fList, itemsD, fIsi, tyD, mAttr, mCall, mMeth, mMake, mBM, tyF, SM.bind, SM.pure, toRS, toRSA, toRST, Y.sb, List.lookup, put_f, put_n, alloc_f, alloc_n, put_put, alloc_put, okI, okB, orF, dSub, dFdiv, dMod, dPow, dShl, dShr, dAnd, dOr, dXor, dNeg, dLt, dLe, dGt, dGe, dIs, g]
    have g2 : g[2]? = some (some (bfD bf)) := rfl
    have g4 : g[4]? = some (some (valD row)) := rfl
    have g5 : g[5]? = some (some (.adr P)) := rfl
    have g6 : g[6]? = some (some (.int (idx : Int))) := rfl
    have g7 : g[7]? = some (some (strL W[idx].1)) := rfl
    have iv := ixV (S := S) hlr
    have ev : mB dIx (mVar 4) (mVar 6) g S = .ok (.int row[idx]) S := by simp only [mB, mVar, SM.bind, g4, g6, iv]
    have et : mOr (mTB (mB (dIs false) (mVar 2) (mC .non))) (mTB (mB dNe (mB dIx (mVar 2) (mVar 6)) (mB dIx (mVar 4) (mVar 6)))) g S = .ok (chg bf row idx) S := by
      cases bf with
      | none =>
        refine or_t (tb_of ?_)
        have g2' : g[2]? = some (some .non) := g2
        simp only [mB, mVar, mC, SM.bind, SM.pure, g2']
        rfl
      | some br =>
        have hbl : idx < br.length := by rw [hb br rfl]; exact hl
        have ib := ixV (S := S) hbl
        have g2' : g[2]? = some (some (valD br)) := g2
        have ta : mTB (mB (dIs false) (mVar 2) (mC .non)) g S = .ok false S := by
          refine tb_of ?_
          simp only [mB, mVar, mC, SM.bind, SM.pure, g2']
          rfl
        refine or_f ta (tb_of ?_)
        have e1 : mB dIx (mVar 2) (mVar 6) g S = .ok (.int br[idx]) S := by simp only [mB, mVar, SM.bind, g2', g6, ib]
        show SM.bind (mB dIx (mVar 2) (mVar 6) g) (fun x => SM.bind (mB dIx (mVar 4) (mVar 6) g) (fun y => dNe x y)) S = _
        unfold SM.bind
        rw [e1]
        dsimp only
        rw [ev]
        dsimp only
        rw [ev_neI]
        show R.ok (D.bl _) S = .ok (.bl (decide (br.getD idx 0 ≠ row.getD idx 0))) S
        rw [List.getD_eq_getElem?_getD, List.getD_eq_getElem?_getD, List.getElem?_eq_getElem hbl, List.getElem?_eq_getElem hlr]
        simp
    have pl : partL W row idx = W[idx].1 ++ [61] ++ nmI row[idx] := by
      unfold partL
      rw [List.getD_eq_getElem?_getD, List.getD_eq_getElem?_getD, List.getElem?_eq_getElem hl, List.getElem?_eq_getElem hlr]
      rfl
    have nl := nm_len (n := row[idx]) (by omega)
    have ejs : mJs [(mFmt (mVar 7)), (mC (.str "=")), (mFmt (mB dIx (mVar 4) (mVar 6)))] PySem.Str.empty g S = .ok (strL (partL W row idx)) S := by
      have f1 : mFmt (mVar 7) g S = .ok (strL W[idx].1) S := fmt_s (by simp only [mVar, g7]) (by omega)
      have f2 : mFmt (mB dIx (mVar 4) (mVar 6)) g S = .ok (strL (nmI row[idx])) S := fmt_n ev rv.1 (by omega)
      have w1 : wd "=" = [61] := by decide +kernel
      have e0 : PySem.Str.empty = sg [] := rfl
      rw [e0, js_cons f1 (by simp; omega), js_cons (mC_strL (s := "=")) (by rw [w1]; simp; omega), js_cons f2 (by rw [w1]; simp; omega), js_nil, w1, pl]
      rfl
    unfold partsF
    rw [dr, List.filter_cons]
    cases hc : chg bf row idx with
    | false =>
      rw [hc] at et
      obtain ⟨y6, y7, y8, e⟩ := parts_loop hW hr hb r (idx + 1) acc S (some (.int (idx : Nat))) (some (strL W[idx].1)) (some (.int W[idx].2)) x9 (by omega) (by omega) fP
      refine ⟨y6, y7, y8, (fo_nx en (st.trans ?_)).trans e⟩
      unfold b_Wave_wave_text_L26
      rw [ifs_f et]
      rfl
    | true =>
      rw [hc] at et
      have sz : (acc.map strL).length < sizeLine := by rw [List.length_map, sizeLine_eq]; omega
      have ap : fApp (.adr P) [strL (partL W row idx)] S = .ok .non (S.put P (.lst ((acc ++ [partL W row idx]).map strL))) := by
        unfold fApp
        simp only [fP]
        rw [if_pos sz, List.map_append]
        rfl
      obtain ⟨y6, y7, y8, e⟩ := parts_loop hW hr hb r (idx + 1) (acc ++ [partL W row idx]) (S.put P (.lst ((acc ++ [partL W row idx]).map strL))) (some (.int (idx : Nat))) (some (strL W[idx].1)) (some (.int W[idx].2)) x9 (by omega) (by rw [List.length_append, List.length_singleton]; omega) at_put
      have body : b_Wave_wave_text_L26 g S = .nx g (S.put P (.lst ((acc ++ [partL W row idx]).map strL))) := by
        unfold b_Wave_wave_text_L26
        rw [ifs_t et]
        have g5' : mVar 5 g S = .ok (.adr P) S := by simp only [mVar, g5]
        have ty : tyF "list" (.adr P) S = true := by simp (decide := true) [tyF, fP]
        show toRS (mBM "list" fApp (mVar 5) (mCons (mJs [(mFmt (mVar 7)), (mC (.str "=")), (mFmt (mB dIx (mVar 4) (mVar 6)))] PySem.Str.empty) mNil) g S) (fun _ S => RS.nx g S) = _
        simp only [mBM, mCons, mNil, SM.bind, SM.pure, g5', ty, if_true, ejs, ap, toRS]
      refine ⟨y6, y7, y8, (fo_nx en (st.trans body)).trans ?_⟩
      rw [e, put_put, List.append_assoc]
      rfl
end
end K18

set_option Elab.async false
set_option linter.all false
set_option maxRecDepth 100000
set_option maxHeartbeats 4000000
namespace K18
open PySem PySem.Spec PyProof.Rows L2 Y TL
theorem sum_le {l : List (List Nat)} {B : Nat} (h : ∀ x ∈ l, x.length ≤ B) : ((l.map sg).map (·.length)).sum ≤ l.length * B := by
  induction l with
  | nil => exact Nat.zero_le _
  | cons a l ih =>
    have h1 := ih fun x hx => h x (List.mem_cons_of_mem _ hx)
    have h2 := h a List.mem_cons_self
    rw [List.map_cons, List.map_cons, List.sum_cons, List.length_cons, sg_len, Nat.succ_mul]
    omega
theorem sgn_app {a b : List Nat} (h1 : Sgn a) (h2 : Sgn b) : Sgn (a ++ b) := fun c hc => (List.mem_append.mp hc).elim (h1 c) (h2 c)
theorem num_sgn (n : Int) : Sgn (nmI n) := fun c hc => by
  have := numL_digits n.toNat c hc
  omega
theorem numL_sgn (n : Nat) : Sgn (numL n) := fun c hc => by
  have := numL_digits n c hc
  omega
/-- join of a list of texts -/
theorem join_adr {a : List Nat} {ls : List (List Nat)} {S : Sr} {j B : Nat} (h : S.f j = some (.lst (ls.map strL))) (hB : ∀ x ∈ ls, x.length ≤ B) (hz : ls.length * (B + a.length) ≤ 1000000) : fJoin (strL a) [.adr j] S = .ok (strL (TL.joinL a ls)) S := by
  have e : Txt.join (sg a) (ls.map sg) = sg (TL.joinL a ls) := by
    refine ext_tl ?_
    rw [join_eq, tl_join, map_tl_sg, tl_sg]
  have s1 := sum_le hB
  have sz : ((ls.map sg).map (·.length)).sum + (ls.map sg).length * (sg a).length ≤ 16777216 := by
    rw [sg_len, List.length_map]
    have : ls.length * (B + a.length) = ls.length * B + ls.length * a.length := Nat.mul_add _ _ _
    omega
  have esm := strs_of_map ls
  simp only [fJoin, Y.joinL, h, esm, e, sz, if_true]
theorem cat_adr {a b : List D} {S : Sr} {i j : Nat} (h : S.f i = some (.lst a)) (h2 : S.f j = some (.lst b)) (hz : a.length + b.length ≤ 100000) : dAdd (.adr i) (.adr j) S = .ok (.adr S.n) (S.alloc (.lst (a ++ b))) := by
  have z : a.length + b.length ≤ sizeLine := by rw [sizeLine_eq]; omega
  simp [dAdd, orF, okI, addS, catL, h, h2, z]
section
variable {W : List (List Nat × Int)} {rows : List (List Int)} {bf : Option (List Int)} {row : List Int} {S S0 : Sr} {iw ir F P b : Nat}
theorem parts_ok (hW : WOk W) (hr : row.length = W.length ∧ ∀ v ∈ row, 0 ≤ v ∧ v < 99999999) : (partsL W bf row).length ≤ 10 ∧ ∀ x ∈ partsL W bf row, Sgn x ∧ x.length ≤ 20 := by
  unfold partsL partsF
  refine ⟨?_, fun x hx => ?_⟩
  · rw [List.length_map]
    have := List.length_filter_le (chg bf row) (List.range W.length)
    rw [List.length_range] at this
    have := hW.1
    omega
  · obtain ⟨k, hk, rfl⟩ := List.mem_map.mp hx
    have hk := (List.mem_filter.mp hk).1
    have hl : k < W.length := List.mem_range.mp hk
    have hlr : k < row.length := by omega
    obtain ⟨s1, s2, s3, s4⟩ := hW.2 _ (List.getElem_mem hl)
    have rv := hr.2 _ (List.getElem_mem hlr)
    have nl := nm_len (n := row[k]) (by omega)
    unfold partL
    rw [List.getD_eq_getElem?_getD, List.getD_eq_getElem?_getD, List.getElem?_eq_getElem hl, List.getElem?_eq_getElem hlr]
    refine ⟨sgn_app (sgn_app s1 (sgn_of (by decide))) (num_sgn _), ?_⟩
    rw [List.length_append, List.length_append]
    show W[k].1.length + 1 + (nmI row[k]).length ≤ 20
    omega
theorem beat_step (hW : WOk W) (hr : row.length = W.length ∧ ∀ v ∈ row, 0 ≤ v ∧ v < 99999999) (hb : ∀ r, bf = some r → r.length = W.length) (a : WaveAt S iw ir W rows) (hn : rows.length ≤ 100) (hF : F < S.n) (n1 : F ≠ iw ∧ F ≠ ir) {acc : List (List Nat)} (fF : S.f F = some (.lst (acc.map strL))) (hz : acc.length ≤ 1000) (hbb : b ≤ 1000) {x3 x4 x5 x6 x7 x8 x9 : Option D} :
    ∃ S' y5 y6 y7 y8, mStep (gTp 2 (gCn (gNm 3) (gCn (gNm 4) gNl))) b_Wave_wave_text_L24 (.tup [.int (b : Int), valD row]) [some (.adr iw), some (.adr F), some (bfD bf), x3, x4, x5, x6, x7, x8, x9] S = .nx [some (.adr iw), some (.adr F), some (bfD (some row)), some (.int (b : Int)), some (valD row), y5, y6, y7, y8, x9] S' ∧ Fr [F] S S' ∧ S'.f F = some (.lst ((acc ++ (if partsL W bf row ≠ [] ∨ b + 1 = rows.length then [beatL b (partsL W bf row)] else [])).map strL)) := by
  have z0 : 0 ≤ sizeLine := Nat.zero_le _
  have sz1 : 1 ≤ sizeLine := by rw [sizeLine_eq]; omega
  obtain ⟨w, r, lt⟩ := a
  let P := S.n
  let S1 : Sr := S.alloc (.lst (([] : List (List Nat)).map strL))
  have st : mStep (gTp 2 (gCn (gNm 3) (gCn (gNm 4) gNl))) b_Wave_wave_text_L24 (.tup [.int (b : Int), valD row]) [some (.adr iw), some (.adr F), some (bfD bf), x3, x4, x5, x6, x7, x8, x9] S = b_Wave_wave_text_L24 [some (.adr iw), some (.adr F), some (bfD bf), some (.int (b : Int)), some (valD row), x5, x6, x7, x8, x9] S := by
    simp (decide := true) [mStep, mSeq, mPass, mBrk, mCnt, mDrop, mRet, mRetN, mIfS, mRaise, mSet, mAsg, mPar, mPar3, mAug, mFld, mFldAug, gNm, gSub', gFld, gNl, gCn, gTp, setA, putFD, mVar, mC, mB, mU, mTB, mAnd, mOr, mNot, mIf, mAndV, mOrV, mNotV, mChain, mNil, mCons, mTup, mLst, mSl, oNo, oE, mCB, fAbs, fMax2, fMin2, fInt, lenD, fLen, fTuple, fList, itemsD, fIsi, tyD, mAttr, mCall, mMeth, mMake, mBM, tyF, SM.bind, SM.pure, toRS, toRSA, toRST, Y.sb, List.lookup, put_f, put_n, alloc_f, alloc_n, put_put, alloc_put, okI, okB, orF, dSub, dFdiv, dMod, dPow, dShl, dShr, dAnd, dOr, dXor, dNeg, dLt, dLe, dGt, dGe, dIs]
  have e1 : mSet 5 (mLst mNil) [some (.adr iw), some (.adr F), some (bfD bf), some (.int (b : Int)), some (valD row), x5, x6, x7, x8, x9] S = .nx (gT iw F bf (b : Int) row P x6 x7 x8 x9) S1 := by
    simp (decide := true) [mSeq, mPass, mBrk, mCnt, mDrop, mRet, mRetN, mIfS, mRaise, mSet, mAsg, mPar, mPar3, mAug, mFld, mFldAug, gNm, gSub', gFld, gNl, gCn, gTp, setA, putFD, mVar, mC, mB, mU, mTB, mAnd, mOr, mNot, mIf, mAndV, mOrV, mNotV, mChain, mNil, mCons, mTup, mLst, mSl, oNo, oE, mCB, fAbs, fMax2, fMin2, fInt, lenD, fLen, fTuple, fList, itemsD, fIsi, tyD, mAttr, mCall, mMeth, mMake, mBM, tyF, SM.bind, SM.pure, toRS, toRSA, toRST, Y.sb, List.lookup, put_f, put_n, alloc_f, alloc_n, put_put, alloc_put, okI, okB, orF, dSub, dFdiv, dMod, dPow, dShl, dShr, dAnd, dOr, dXor, dNeg, dLt, dLe, dGt, dGe, dIs, z0, S1, P, gT]
  obtain ⟨y6, y7, y8, e2⟩ := parts_loop (iw := iw) (F := F) (b := b) (P := P) (x9 := x9) hW hr hb W.length 0 [] S1 x6 x7 x8 (Nat.zero_add _) (Nat.le_refl _) at_new
  rw [List.drop_zero, List.nil_append] at e2
  have nw : ¬ iw = S.n := Nat.ne_of_lt lt.1
  have es : mEnu (mCons (mAttr ["Wave"] "widths" (mVar 0)) mNil) (gT iw F bf (b : Int) row P x6 x7 x8 x9) S1 = .ok (sqe (sqn (W.map widD))) S1 := by
    simp (decide := true) [mEnu, mSrcD, mSeq, mPass, mBrk, mCnt, mDrop, mRet, mRetN, mIfS, mRaise, mSet, mAsg, mPar, mPar3, mAug, mFld, mFldAug, gNm, gSub', gFld, gNl, gCn, gTp, setA, putFD, mVar, mC, mB, mU, mTB, mAnd, mOr, mNot, mIf, mAndV, mOrV, mNotV, mChain, mNil, mCons, mTup, mLst, mSl, oNo, oE, mCB, fAbs, fMax2, fMin2, fInt, lenD, fLen, fTuple, fList, itemsD, fIsi, tyD, mAttr, mCall, mMeth, mMake, mBM, tyF, SM.bind, SM.pure, toRS, toRSA, toRST, Y.sb, List.lookup, put_f, put_n, alloc_f, alloc_n, put_put, alloc_put, okI, okB, orF, dSub, dFdiv, dMod, dPow, dShl, dShr, dAnd, dOr, dXor, dNeg, dLt, dLe, dGt, dGe, dIs, w, nw, S1]
  have esn : (sqe (sqn (W.map widD))).n = W.length := by show (W.map widD).length = _; rw [List.length_map]
  obtain ⟨po1, po2⟩ := parts_ok (bf := bf) hW hr
  let S2 : Sr := S1.put P (.lst ((partsL W bf row).map strL))
  have e3 : mFor (mEnu (mCons (mAttr ["Wave"] "widths" (mVar 0)) mNil)) (gTp 2 (gCn (gNm 6) (gCn (gTp 2 (gCn (gNm 7) (gCn (gNm 8) gNl))) gNl))) b_Wave_wave_text_L26 (gT iw F bf (b : Int) row P x6 x7 x8 x9) S1 = .nx (gT iw F bf (b : Int) row P y6 y7 y8 x9) S2 := by
    refine (mFor_of es).trans ?_
    rw [esn]
    exact e2
  let g : Gm := gT iw F bf (b : Int) row P y6 y7 y8 x9
  have x2 : Xt S S2 := Xt.alloc.put (Nat.le_refl _)
  have p2 : S2.f P = some (.lst ((partsL W bf row).map strL)) := at_put
  have l2 : P < S2.n := Nat.lt_succ_self _
  let S3 : Sr := S2.alloc (.lst [])
  have x3' : Xt S S3 := x2.alloc'
  have p3 : S3.f P = some (.lst ((partsL W bf row).map strL)) := at_old p2 l2
  have nn := ne_nilS (i := P) (j := S2.n) (S := S3) p3 at_new fun x hx => (po2 x hx).1
  have g5 : g[5]? = some (some (.adr P)) := rfl
  have g3 : g[3]? = some (some (.int (b : Int))) := rfl
  have g0 : g[0]? = some (some (.adr iw)) := rfl
  have g1 : g[1]? = some (some (.adr F)) := rfl
  have ta : mTB (mB dNe (mVar 5) (mLst mNil)) g S2 = .ok (!(partsL W bf row).isEmpty) S3 := by
    refine tb_of ?_
    have el : mLst mNil g S2 = .ok (.adr S2.n) S3 := by simp [mLst, mNil, SM.bind, SM.pure, z0, S3]
    simp only [mB, mVar, SM.bind, g5, el, nn]
  have w3 := x3'.at_ w lt.1
  have r3 := x3'.at_ r lt.2.1
  have elen : mCB fLen (mCons (mAttr ["Wave"] "rows" (mVar 0)) mNil) g S3 = .ok (.int (rows.length : Nat)) S3 := by
    have e1 : mAttr ["Wave"] "rows" (mVar 0) g S3 = .ok (.adr ir) S3 := by
      simp (decide := true) [mSeq, mPass, mBrk, mCnt, mDrop, mRet, mRetN, mIfS, mRaise, mSet, mAsg, mPar, mPar3, mAug, mFld, mFldAug, gNm, gSub', gFld, gNl, gCn, gTp, setA, putFD, mVar, mC, mB, mU, mTB, mAnd, mOr, mNot, mIf, mAndV, mOrV, mNotV, mChain, mNil, mCons, mTup, mLst, mSl, oNo, oE, mCB, fAbs, fMax2, fMin2, fInt, lenD, fLen, fTuple, fList, itemsD, fIsi, tyD, mAttr, mCall, mMeth, mMake, mBM, tyF, SM.bind, SM.pure, toRS, toRSA, toRST, Y.sb, List.lookup, put_f, put_n, alloc_f, alloc_n, put_put, alloc_put, okI, okB, orF, dSub, dFdiv, dMod, dPow, dShl, dShr, dAnd, dOr, dXor, dNeg, dLt, dLe, dGt, dGe, dIs, g, gT, w3]
    have e2 : fLen [.adr ir] S3 = .ok (.int (rows.length : Nat)) S3 := by
      simp [fLen, lenD, r3]
    simp only [mCB, mCons, mNil, SM.bind, SM.pure, e1, e2]
  have tb : mTB (mB dEq (mVar 3) (mB dSub (mCB fLen (mCons (mAttr ["Wave"] "rows" (mVar 0)) mNil)) (mC (.int 1)))) g S3 = .ok (decide (b + 1 = rows.length)) S3 := by
    refine tb_of ?_
    have c1 : decide ((b : Int) = ((rows.length : Nat) : Int) - 1) = decide (b + 1 = rows.length) := decide_eq_decide.mpr (by omega)
    simp only [mB, mVar, mC, SM.bind, SM.pure, g3, elen, dSub, okI, if_true, ev_eqI, c1]
  have tt : mOr (mTB (mB dNe (mVar 5) (mLst mNil))) (mTB (mB dEq (mVar 3) (mB dSub (mCB fLen (mCons (mAttr ["Wave"] "rows" (mVar 0)) mNil)) (mC (.int 1))))) g S2 = .ok (decide (partsL W bf row ≠ [] ∨ b + 1 = rows.length)) S3 := by
    cases hp : partsL W bf row with
    | nil =>
      rw [hp] at ta
      have e : decide (([] : List (List Nat)) ≠ [] ∨ b + 1 = rows.length) = decide (b + 1 = rows.length) := decide_eq_decide.mpr (by simp)
      rw [e]
      exact or_f ta tb
    | cons p q =>
      rw [hp] at ta
      have e : decide (p :: q ≠ [] ∨ b + 1 = rows.length) = true := decide_eq_true (.inl (by simp))
      rw [e]
      exact or_t ta
  have f3 : S3.f F = some (.lst (acc.map strL)) := x3'.at_ fF hF
  have fin : ∀ S4, mSet 2 (mVar 4) g S4 = .nx [some (.adr iw), some (.adr F), some (bfD (some row)), some (.int (b : Int)), some (valD row), some (.adr P), y6, y7, y8, x9] S4 := fun S4 => rfl
  by_cases hc : partsL W bf row ≠ [] ∨ b + 1 = rows.length
  · rw [decide_eq_true hc] at tt
    rw [if_pos hc]
    let S4 : Sr := S3.alloc (.lst ([[35] ++ numL b].map strL))
    let S5 : Sr := S4.alloc (.lst ((([35] ++ numL b) :: partsL W bf row).map strL))
    have bl := numL_len (n := b) (k := 4) (by omega) (by omega)
    have ejs : mJs [(mC (.str "#")), (mFmt (mVar 3))] PySem.Str.empty g S3 = .ok (strL ([35] ++ numL b)) S3 := by
      have f1 : mFmt (mVar 3) g S3 = .ok (strL (nmI (b : Int))) S3 := fmt_n (by simp only [mVar, g3]) (by omega) (by omega)
      have w1 : wd "#" = [35] := by decide +kernel
      have e0 : PySem.Str.empty = sg [] := rfl
      have en : nmI (b : Int) = numL b := by unfold nmI; rw [Int.toNat_natCast]
      rw [e0, js_cons (mC_strL (s := "#")) (by rw [w1]; simp), js_cons f1 (by rw [w1, en]; simp; omega), js_nil, w1, en]
      rfl
    have el : mLst (mCons (mJs [(mC (.str "#")), (mFmt (mVar 3))] PySem.Str.empty) mNil) g S3 = .ok (.adr S3.n) S4 := by
      simp (decide := true) only [mLst, mCons, mNil, SM.bind, SM.pure, ejs, List.length_cons, List.length_nil, sz1, if_true]
      rfl
    have p4 : S4.f P = some (.lst ((partsL W bf row).map strL)) := at_old p3 (Nat.lt_succ_of_lt l2)
    have ca : dAdd (.adr S3.n) (.adr P) S4 = .ok (.adr S4.n) S5 := cat_adr at_new p4 (by rw [List.length_map, List.length_map]; simp; omega)
    have j5 : S5.f S4.n = some (.lst ((([35] ++ numL b) :: partsL W bf row).map strL)) := at_new
    have jo : fJoin (strL [32]) [.adr S4.n] S5 = .ok (strL (beatL b (partsL W bf row))) S5 := join_adr (B := 20) j5 (fun x hx => by
      rcases List.mem_cons.mp hx with rfl | hx
      · simp; omega
      · exact (po2 x hx).2) (by simp; omega)
    have x5' : Xt S S5 := (x3'.alloc').alloc'
    have f5 : S5.f F = some (.lst (acc.map strL)) := x5'.at_ fF hF
    have sz : (acc.map strL).length < sizeLine := by rw [List.length_map, sizeLine_eq]; omega
    have ap : fApp (.adr F) [strL (beatL b (partsL W bf row))] S5 = .ok .non (S5.put F (.lst ((acc ++ [beatL b (partsL W bf row)]).map strL))) := by
      unfold fApp
      simp only [f5]
      rw [if_pos sz, List.map_append]
      rfl
    have ty : tyF "list" (.adr F) S3 = true := by simp (decide := true) [tyF, f3]
    have ws : Str.ofString " " = sg [32] := by rw [sg_str]; decide +kernel
    have ty2 : ∀ S, tyF "str" (strL [32]) S = true := fun S => rfl
    have ej : mBM "str" fJoin (mC (.str " ")) (mCons (mB dAdd (mLst (mCons (mJs [(mC (.str "#")), (mFmt (mVar 3))] PySem.Str.empty) mNil)) (mVar 5)) mNil) g S3 = .ok (strL (beatL b (partsL W bf row))) S5 := by
      have eb : mB dAdd (mLst (mCons (mJs [(mC (.str "#")), (mFmt (mVar 3))] PySem.Str.empty) mNil)) (mVar 5) g S3 = .ok (.adr S4.n) S5 := by
        show SM.bind (mLst (mCons (mJs [(mC (.str "#")), (mFmt (mVar 3))] PySem.Str.empty) mNil) g) (fun x => SM.bind (mVar 5 g) (fun y => dAdd x y)) S3 = _
        simp only [SM.bind, el, mVar, g5, ca]
      simp only [mBM, mC, mCons, mNil, SM.bind, SM.pure, ws, ty2, if_true, eb, jo]
    have ed : mDrop (mBM "list" fApp (mVar 1) (mCons (mBM "str" fJoin (mC (.str " ")) (mCons (mB dAdd (mLst (mCons (mJs [(mC (.str "#")), (mFmt (mVar 3))] PySem.Str.empty) mNil)) (mVar 5)) mNil)) mNil)) g S3 = .nx g (S5.put F (.lst ((acc ++ [beatL b (partsL W bf row)]).map strL))) := by
      have g1' : mVar 1 g S3 = .ok (.adr F) S3 := by simp only [mVar, g1]
      show toRS (SM.bind (mVar 1 g) (fun x S1 => if tyF "list" x S1 = true then SM.bind (mCons (mBM "str" fJoin (mC (.str " ")) (mCons (mB dAdd (mLst (mCons (mJs [(mC (.str "#")), (mFmt (mVar 3))] PySem.Str.empty) mNil)) (mVar 5)) mNil)) mNil g) (fApp x) S1 else .bad) S3) (fun _ S => RS.nx g S) = _
      simp only [SM.bind, g1', ty, if_true, mCons, mNil, SM.pure, ej, ap, toRS]
    refine ⟨_, some (.adr P), y6, y7, y8, st.trans ((sq_nx e1).trans ((sq_nx e3).trans ((sq_nx ((ifs_t tt).trans ed)).trans (fin _)))), (Xt.fr x5').trans (Fr.put (by simp)), at_put⟩
  · rw [decide_eq_false hc] at tt
    rw [if_neg hc, List.append_nil]
    refine ⟨S3, some (.adr P), y6, y7, y8, st.trans ((sq_nx e1).trans ((sq_nx e3).trans ((sq_nx (ifs_f tt)).trans (fin _)))), Xt.fr x3', f3⟩
end
end K18

set_option Elab.async false
set_option linter.all false
set_option maxRecDepth 100000
set_option maxHeartbeats 4000000
namespace K18
open PySem PySem.Spec PyProof.Rows L2 Y TL
section
variable {W : List (List Nat × Int)} {rows : List (List Int)} {S S0 : Sr} {iw ir F : Nat}
theorem blL_len : ∀ {n b : Nat} {bf : Option (List Int)} {rs : List (List Int)}, (blL W n b bf rs).length ≤ rs.length
  | n, b, bf, [] => Nat.le_refl _
  | n, b, bf, row :: r => by
    have := blL_len (n := n) (b := b + 1) (bf := some row) (rs := r)
    unfold blL
    rw [List.length_append, List.length_cons]
    split
    · rw [List.length_singleton]; omega
    · rw [List.length_nil]; omega
theorem beats_loop (hW : WOk W) (hR : RowsOk W rows) (a0 : WaveAt S0 iw ir W rows) (hF0 : S0.n ≤ F) : ∀ (r idx : Nat) (acc : List (List Nat)) (S : Sr) (bf : Option (List Int)) (x3 x4 x5 x6 x7 x8 x9 : Option D), idx + r = rows.length → acc.length + r ≤ 1000 → Fr [F] S0 S → F < S.n → S.f F = some (.lst (acc.map strL)) → (∀ b, bf = some b → b.length = W.length) →
    ∃ S' y2 y3 y4 y5 y6 y7 y8, forG (sqe (sqa ir rows.length)) (mStep (gTp 2 (gCn (gNm 3) (gCn (gNm 4) gNl))) b_Wave_wave_text_L24) r idx [some (.adr iw), some (.adr F), some (bfD bf), x3, x4, x5, x6, x7, x8, x9] S = .nx [some (.adr iw), some (.adr F), y2, y3, y4, y5, y6, y7, y8, x9] S' ∧ Fr [F] S0 S' ∧ F < S'.n ∧ S'.f F = some (.lst ((acc ++ blL W rows.length idx bf (rows.drop idx)).map strL))
  | 0, idx, acc, S, bf, x3, x4, x5, x6, x7, x8, x9, h, _, fr, lF, fF, _ => by
    rw [List.drop_eq_nil_of_le (by omega)]
    refine ⟨S, _, x3, x4, x5, x6, x7, x8, fo_end ?_, fr, lF, ?_⟩
    · have a := a0.mv fr (by simp; have := a0.lt; omega) (by simp; have := a0.lt; omega)
      show (match (sqa ir rows.length).nxt idx S with
        | some (some d) => some (some (D.tup [.int (idx : Int), d]))
        | some none => some none
        | none => none) = _
      rw [nx_sqa a.r, List.getElem?_eq_none (by rw [List.length_map]; omega)]
    · show S.f F = some (.lst ((acc ++ []).map strL))
      rw [List.append_nil]
      exact fF
  | r + 1, idx, acc, S, bf, x3, x4, x5, x6, x7, x8, x9, h, hz, fr, lF, fF, hb => by
    have hl : idx < rows.length := by omega
    have lt0 := a0.lt
    have a := a0.mv fr (by simp; omega) (by simp; omega)
    have hr := hR.2 _ (List.getElem_mem hl)
    have en : (sqe (sqa ir rows.length)).nxt idx S = some (some (.tup [.int (idx : Int), valD rows[idx]])) := by
      show (match (sqa ir rows.length).nxt idx S with
        | some (some d) => some (some (D.tup [.int (idx : Int), d]))
        | some none => some none
        | none => none) = _
      rw [nx_sqa a.r, List.getElem?_map, List.getElem?_eq_getElem hl]
      rfl
    obtain ⟨S1, y5, y6, y7, y8, e1, f1, p1⟩ := beat_step (b := idx) (x3 := x3) (x4 := x4) (x5 := x5) (x6 := x6) (x7 := x7) (x8 := x8) (x9 := x9) hW hr hb a hR.1 lF ⟨by omega, by omega⟩ fF (by omega) (by have := hR.1; omega)
    have hlen : (acc ++ (if partsL W bf rows[idx] ≠ [] ∨ idx + 1 = rows.length then [beatL idx (partsL W bf rows[idx])] else [])).length + r ≤ 1000 := by
      rw [List.length_append]
      split
      · rw [List.length_singleton]; omega
      · rw [List.length_nil]; omega
    obtain ⟨S2, z2, z3, z4, z5, z6, z7, z8, e2, f2, l2, p2⟩ := beats_loop hW hR a0 hF0 r (idx + 1) _ S1 (some rows[idx]) (some (.int (idx : Int))) (some (valD rows[idx])) y5 y6 y7 y8 x9 (by omega) hlen (fr.trans f1) (Nat.lt_of_lt_of_le lF f1.1) p1 (fun b hb => by cases hb; exact hr.1)
    refine ⟨S2, z2, z3, z4, z5, z6, z7, z8, (fo_nx en e1).trans e2, f2, l2, ?_⟩
    rw [p2, List.drop_eq_getElem_cons hl, List.append_assoc]
    rfl
/-- the heads -/
theorem heads_loop (hW : WOk W) {D0 : Nat} : ∀ (r idx : Nat) (acc : List (List Nat)) (S : Sr) (x0 x1 x2 x3 x4 x5 x6 x9 : Option D), idx + r = W.length → acc.length ≤ idx → S.f D0 = some (.lst (acc.map strL)) →
    lcG (sqn (W.map widD)) (.tp [7, 8]) mYes (mJs [(mFmt (mVar 7)), (mC (.str " ")), (mFmt (mVar 8))] PySem.Str.empty) [x0, x1, x2, x3, x4, x5, x6, none, none, x9] D0 r idx S = .ok () (S.put D0 (.lst ((acc ++ (W.drop idx).map hdL).map strL)))
  | 0, idx, acc, S, x0, x1, x2, x3, x4, x5, x6, x9, h, _, fD => by
    rw [List.drop_eq_nil_of_le (by omega)]
    show lcG _ _ _ _ _ _ _ _ _ = .ok () (S.put D0 (.lst ((acc ++ []).map strL)))
    rw [List.append_nil, put_same fD]
    refine lc_end ?_
    show some (W.map widD)[idx]? = _
    rw [List.getElem?_eq_none (by rw [List.length_map]; omega)]
  | r + 1, idx, acc, S, x0, x1, x2, x3, x4, x5, x6, x9, h, hz, fD => by
    have hl : idx < W.length := by omega
    obtain ⟨s1, s2, s3, s4⟩ := hW.2 _ (List.getElem_mem hl)
    have wl := hW.1
    have en : (sqn (W.map widD)).nxt idx S = some (some (widD W[idx])) := by
      show some (W.map widD)[idx]? = _
      rw [List.getElem?_map, List.getElem?_eq_getElem hl]
      rfl
    let g : Gm := [x0, x1, x2, x3, x4, x5, x6, some (strL W[idx].1), some (.int W[idx].2), x9]
    have g7 : g[7]? = some (some (strL W[idx].1)) := rfl
    have g8 : g[8]? = some (some (.int W[idx].2)) := rfl
    have nl := nm_len (n := W[idx].2) (by omega)
    have ejs : mJs [(mFmt (mVar 7)), (mC (.str " ")), (mFmt (mVar 8))] PySem.Str.empty g S = .ok (strL (hdL W[idx])) S := by
      have f1 : mFmt (mVar 7) g S = .ok (strL W[idx].1) S := fmt_s (by simp only [mVar, g7]) (by omega)
      have f2 : mFmt (mVar 8) g S = .ok (strL (nmI W[idx].2)) S := fmt_n (by simp only [mVar, g8]) s3 (by omega)
      have w1 : wd " " = [32] := by decide +kernel
      have e0 : PySem.Str.empty = sg [] := rfl
      rw [e0, js_cons f1 (by simp; omega), js_cons (mC_strL (s := " ")) (by rw [w1]; simp; omega), js_cons f2 (by rw [w1]; simp; omega), js_nil, w1]
      rfl
    have e1 := lc_nx (r := r) en (g0 := [x0, x1, x2, x3, x4, x5, x6, none, none, x9]) (t := .tp [7, 8]) (mt := mYes) (g := g) rfl rfl ejs fD (by rw [List.length_map, sizeLine_eq]; omega)
    have ea : acc.map strL ++ [strL (hdL W[idx])] = (acc ++ [hdL W[idx]]).map strL := by rw [List.map_append]; rfl
    rw [ea] at e1
    rw [e1, heads_loop hW r (idx + 1) (acc ++ [hdL W[idx]]) _ x0 x1 x2 x3 x4 x5 x6 x9 (by omega) (by rw [List.length_append, List.length_singleton]; omega) at_put, put_put, List.append_assoc, List.drop_eq_getElem_cons hl]
    rfl
/-- line + newline -/
theorem nl_loop {ls : List (List Nat)} {D0 : Nat} (hj : S0.f F = some (.lst (ls.map strL))) (hl0 : F < S0.n) (hD : S0.n ≤ D0) (hB : ∀ x ∈ ls, x.length ≤ 1000) (hn : ls.length ≤ 1000) : ∀ (r idx : Nat) (acc : List (List Nat)) (S : Sr) (x0 x1 x2 x3 x4 x5 x6 x7 x8 : Option D), idx + r = ls.length → acc.length ≤ idx → Xt S0 S → S.f D0 = some (.lst (acc.map strL)) →
    lcG (sqa F ls.length) (.nm 9) mYes (mB dAdd (mVar 9) (mC (.str "\n"))) [x0, x1, x2, x3, x4, x5, x6, x7, x8, none] D0 r idx S = .ok () (S.put D0 (.lst ((acc ++ (ls.drop idx).map (· ++ [10])).map strL)))
  | 0, idx, acc, S, x0, x1, x2, x3, x4, x5, x6, x7, x8, h, _, xt, fD => by
    rw [List.drop_eq_nil_of_le (by omega)]
    show lcG _ _ _ _ _ _ _ _ _ = .ok () (S.put D0 (.lst ((acc ++ []).map strL)))
    rw [List.append_nil, put_same fD]
    refine lc_end ?_
    rw [nx_sqa (xt.at_ hj hl0), List.getElem?_eq_none (by rw [List.length_map]; omega)]
  | r + 1, idx, acc, S, x0, x1, x2, x3, x4, x5, x6, x7, x8, h, hz, xt, fD => by
    have hl : idx < ls.length := by omega
    have hb := hB _ (List.getElem_mem hl)
    have en : (sqa F ls.length).nxt idx S = some (some (strL ls[idx])) := by
      rw [nx_sqa (xt.at_ hj hl0), List.getElem?_map, List.getElem?_eq_getElem hl]
      rfl
    let g : Gm := [x0, x1, x2, x3, x4, x5, x6, x7, x8, some (strL ls[idx])]
    have g9 : g[9]? = some (some (strL ls[idx])) := rfl
    have w1 : Str.ofString "\n" = sg [10] := by rw [sg_str]; decide +kernel
    have ad : dAdd (strL ls[idx]) (strL [10]) S = .ok (strL (ls[idx] ++ [10])) S := addT (by simp; omega)
    have ee : mB dAdd (mVar 9) (mC (.str "\n")) g S = .ok (strL (ls[idx] ++ [10])) S := by
      simp only [mB, mVar, mC, SM.bind, SM.pure, g9, w1, ad]
    have e1 := lc_nx (r := r) en (g0 := [x0, x1, x2, x3, x4, x5, x6, x7, x8, none]) (t := .nm 9) (mt := mYes) (g := g) rfl rfl ee fD (by rw [List.length_map, sizeLine_eq]; omega)
    have ea : acc.map strL ++ [strL (ls[idx] ++ [10])] = (acc ++ [ls[idx] ++ [10]]).map strL := by rw [List.map_append]; rfl
    rw [ea] at e1
    rw [e1, nl_loop hj hl0 hD hB hn r (idx + 1) (acc ++ [ls[idx] ++ [10]]) _ x0 x1 x2 x3 x4 x5 x6 x7 x8 (by omega) (by rw [List.length_append, List.length_singleton]; omega) (xt.put hD) at_put, put_put, List.append_assoc, List.drop_eq_getElem_cons hl]
    rfl
theorem joinL_len {ls : List (List Nat)} {B : Nat} (h : ∀ x ∈ ls, x.length ≤ B) : (TL.joinL [32] ls).length ≤ ls.length * (B + 1) := by
  induction ls with
  | nil => exact Nat.zero_le _
  | cons a r ih =>
    have h1 := h a List.mem_cons_self
    have h2 := ih fun x hx => h x (List.mem_cons_of_mem _ hx)
    cases r with
    | nil =>
      show a.length ≤ 1 * (B + 1)
      omega
    | cons b r =>
      have e : TL.joinL [32] (a :: b :: r) = a ++ ([32] ++ TL.joinL [32] (b :: r)) := rfl
      rw [e, List.length_append, List.length_append, List.length_singleton, List.length_cons, Nat.succ_mul]
      omega
theorem blL_mem (hW : WOk W) : ∀ {n b : Nat} {bf : Option (List Int)} {rs : List (List Int)}, (∀ r ∈ rs, r.length = W.length ∧ ∀ v ∈ r, 0 ≤ v ∧ v < 99999999) → b + rs.length ≤ 1000 → ∀ x ∈ blL W n b bf rs, x.length ≤ 300
  | n, b, bf, [], _, _, x, hx => nomatch hx
  | n, b, bf, row :: r, hr, hb, x, hx => by
    unfold blL at hx
    rw [List.length_cons] at hb
    rcases List.mem_append.mp hx with hx | hx
    · split at hx
      · rw [List.mem_singleton.mp hx]
        obtain ⟨p1, p2⟩ := parts_ok (bf := bf) hW (hr row List.mem_cons_self)
        have nl := numL_len (n := b) (k := 4) (by omega) (by omega)
        unfold beatL
        have := joinL_len (ls := ([35] ++ numL b) :: partsL W bf row) (B := 20) (fun x hx => by
          rcases List.mem_cons.mp hx with rfl | hx
          · simp; omega
          · exact (p2 x hx).2)
        rw [List.length_cons] at this
        omega
      · cases hx
    · exact blL_mem hW (fun q hq => hr q (List.mem_cons_of_mem _ hq)) (by omega) x hx
theorem waveL_ok (hW : WOk W) (hR : RowsOk W rows) : (∀ x ∈ waveL W rows, x.length ≤ 300) ∧ (waveL W rows).length ≤ 200 := by
  unfold waveL
  refine ⟨fun x hx => ?_, ?_⟩
  · rcases List.mem_append.mp hx with hx | hx
    · rcases List.mem_append.mp hx with hx | hx
      · obtain ⟨q, hq, rfl⟩ := List.mem_map.mp hx
        obtain ⟨s1, s2, s3, s4⟩ := hW.2 q hq
        have nl := nm_len (n := q.2) (by omega)
        unfold hdL
        rw [List.length_append, List.length_append, List.length_singleton]
        omega
      · rw [List.mem_singleton.mp hx]
        exact Nat.zero_le _
    · exact blL_mem hW hR.2 (by have := hR.1; omega) x hx
  · have := blL_len (W := W) (n := rows.length) (b := 0) (bf := none) (rs := rows)
    have := hW.1
    have := hR.1
    rw [List.length_append, List.length_append, List.length_map, List.length_singleton]
    omega
theorem e_text (hW : WOk W) (hR : RowsOk W rows) (a : WaveAt S iw ir W rows) : ∃ S', f_Wave_wave_text [.adr iw] S = .ok (strL (waveT W rows)) S' ∧ Xt S S' := by
  have z0 : 0 ≤ sizeLine := Nat.zero_le _
  have sz1 : 1 ≤ sizeLine := by rw [sizeLine_eq]; omega
  have sz2 : 2 ≤ sizeLine := by rw [sizeLine_eq]; omega
  obtain ⟨w, r, lt⟩ := id a
  let G0 : Gm := [some (.adr iw), none, none, none, none, none, none, none, none, none]
  have h0 := heads_loop hW (D0 := S.n) W.length 0 [] (S.alloc (.lst [])) (some (.adr iw)) none none none none none none none (Nat.zero_add _) (Nat.le_refl _) at_new
  rw [List.drop_zero, List.nil_append] at h0
  let S1 : Sr := (S.alloc (.lst [])).put S.n (.lst ((W.map hdL).map strL))
  have es : mSrc (mAttr ["Wave"] "widths" (mVar 0)) G0 S = .ok (sqn (W.map widD)) S := by
    simp (decide := true) [mSrc, mSrcD, mSeq, mPass, mBrk, mCnt, mDrop, mRet, mRetN, mIfS, mRaise, mSet, mAsg, mPar, mPar3, mAug, mFld, mFldAug, gNm, gSub', gFld, gNl, gCn, gTp, setA, putFD, mVar, mC, mB, mU, mTB, mAnd, mOr, mNot, mIf, mAndV, mOrV, mNotV, mChain, mNil, mCons, mTup, mLst, mSl, oNo, oE, mCB, fAbs, fMax2, fMin2, fInt, lenD, fLen, fTuple, fList, itemsD, fIsi, tyD, mAttr, mCall, mMeth, mMake, mBM, tyF, SM.bind, SM.pure, toRS, toRSA, toRST, Y.sb, List.lookup, put_f, put_n, alloc_f, alloc_n, put_put, alloc_put, okI, okB, orF, dSub, dFdiv, dMod, dPow, dShl, dShr, dAnd, dOr, dXor, dNeg, dLt, dLe, dGt, dGe, dIs, w, G0]
  have esn : (sqn (W.map widD)).n = W.length := by show (W.map widD).length = _; rw [List.length_map]
  have e1 : mLc (mSrc (mAttr ["Wave"] "widths" (mVar 0))) (.tp [7, 8]) mYes (mJs [(mFmt (mVar 7)), (mC (.str " ")), (mFmt (mVar 8))] PySem.Str.empty) [7, 8] G0 S = .ok (.adr S.n) S1 := mLc_ok es (by
    rw [esn]
    exact h0)
  have x1 : Xt S S1 := Xt.alloc.put (Nat.le_refl _)
  let S2 : Sr := S1.alloc (.lst ([([] : List Nat)].map strL))
  let S3 : Sr := S2.alloc (.lst (((W.map hdL) ++ [[]]).map strL))
  have n1 : S1.n = S.n + 1 := rfl
  have ew : Str.ofString "" = sg [] := by rw [sg_str]; decide +kernel
  have el : mLst (mCons (mC (.str "")) mNil) G0 S1 = .ok (.adr S1.n) S2 := by
    simp (decide := true) only [mLst, mCons, mNil, mC, SM.bind, SM.pure, ew, List.length_cons, List.length_nil, sz1, if_true]
    rfl
  have ca : dAdd (.adr S.n) (.adr S1.n) S2 = .ok (.adr S2.n) S3 := by
    have := cat_adr (S := S2) (i := S.n) (j := S1.n) (a := (W.map hdL).map strL) (b := [([] : List Nat)].map strL) (at_old at_put (Nat.lt_succ_self _)) at_new (by rw [List.length_map, List.length_map, List.length_map]; have := hW.1; simp; omega)
    rw [this, ← List.map_append]
  have e2 : mPar 1 2 (mCons (mB dAdd (mLc (mSrc (mAttr ["Wave"] "widths" (mVar 0))) (.tp [7, 8]) mYes (mJs [(mFmt (mVar 7)), (mC (.str " ")), (mFmt (mVar 8))] PySem.Str.empty) [7, 8]) (mLst (mCons (mC (.str "")) mNil))) (mCons (mC .non) mNil)) G0 S = .nx [some (.adr iw), some (.adr S2.n), some .non, none, none, none, none, none, none, none] S3 := by
    have eb : mB dAdd (mLc (mSrc (mAttr ["Wave"] "widths" (mVar 0))) (.tp [7, 8]) mYes (mJs [(mFmt (mVar 7)), (mC (.str " ")), (mFmt (mVar 8))] PySem.Str.empty) [7, 8]) (mLst (mCons (mC (.str "")) mNil)) G0 S = .ok (.adr S2.n) S3 := by
      show SM.bind _ (fun x => SM.bind (mLst (mCons (mC (.str "")) mNil) G0) (fun y => dAdd x y)) S = _
      simp only [SM.bind, e1, el, ca]
    simp (decide := true) [mPar, toRSA, mCons, mNil, mC, SM.bind, SM.pure, eb, sz2, G0]
  have x3 : Xt S S3 := (x1.alloc').alloc'
  have a3 := a.xt x3
  have L := beats_loop (F := S2.n) hW hR a (show S.n ≤ S.n + 1 + 1 by omega) rows.length 0 (W.map hdL ++ [[]]) S3 none none none none none none none none (Nat.zero_add _) (by
    have := hW.1
    have := hR.1
    rw [List.length_append, List.length_map, List.length_singleton]
    omega) (Xt.fr x3) (Nat.lt_succ_self _) at_new (fun b hb => nomatch hb)
  obtain ⟨S4, y2, y3, y4, y5, y6, y7, y8, e3, f3, l3, p3⟩ := L
  rw [List.drop_zero] at p3
  have p3 : S4.f S2.n = some (.lst ((waveL W rows).map strL)) := p3
  have x4 : Xt S S4 := ⟨f3.1, fun j hj => f3.2 j hj (by simp; show ¬ j = S.n + 1 + 1; omega)⟩
  have es3 : mEnu (mCons (mAttr ["Wave"] "rows" (mVar 0)) mNil) [some (.adr iw), some (.adr S2.n), some .non, none, none, none, none, none, none, none] S3 = .ok (sqe (sqa ir rows.length)) S3 := by
    have w3 := a3.w
    have r3 := a3.r
    have e1 : mCons (mAttr ["Wave"] "rows" (mVar 0)) mNil [some (.adr iw), some (.adr S2.n), some .non, none, none, none, none, none, none, none] S3 = .ok [.adr ir] S3 := by
      simp (decide := true) [mSeq, mPass, mBrk, mCnt, mDrop, mRet, mRetN, mIfS, mRaise, mSet, mAsg, mPar, mPar3, mAug, mFld, mFldAug, gNm, gSub', gFld, gNl, gCn, gTp, setA, putFD, mVar, mC, mB, mU, mTB, mAnd, mOr, mNot, mIf, mAndV, mOrV, mNotV, mChain, mNil, mCons, mTup, mLst, mSl, oNo, oE, mCB, fAbs, fMax2, fMin2, fInt, lenD, fLen, fTuple, fList, itemsD, fIsi, tyD, mAttr, mCall, mMeth, mMake, mBM, tyF, SM.bind, SM.pure, toRS, toRSA, toRST, Y.sb, List.lookup, put_f, put_n, alloc_f, alloc_n, put_put, alloc_put, okI, okB, orF, dSub, dFdiv, dMod, dPow, dShl, dShr, dAnd, dOr, dXor, dNeg, dLt, dLe, dGt, dGe, dIs, w3]
    unfold mEnu SM.bind
    rw [e1]
    simp [mSrcD, r3]
  have e4 : mFor (mEnu (mCons (mAttr ["Wave"] "rows" (mVar 0)) mNil)) (gTp 2 (gCn (gNm 3) (gCn (gNm 4) gNl))) b_Wave_wave_text_L24 [some (.adr iw), some (.adr S2.n), some .non, none, none, none, none, none, none, none] S3 = .nx [some (.adr iw), some (.adr S2.n), y2, y3, y4, y5, y6, y7, y8, none] S4 := (mFor_of es3).trans e3
  obtain ⟨o1, o2⟩ := waveL_ok hW hR
  have L2 := nl_loop (S0 := S4) (D0 := S4.n) p3 l3 (Nat.le_refl _) (fun x hx => Nat.le_trans (o1 x hx) (by omega)) (by omega) (waveL W rows).length 0 [] (S4.alloc (.lst [])) (some (.adr iw)) (some (.adr S2.n)) y2 y3 y4 y5 y6 y7 y8 (Nat.zero_add _) (Nat.le_refl _) Xt.alloc at_new
  rw [List.drop_zero, List.nil_append] at L2
  let g : Gm := [some (.adr iw), some (.adr S2.n), y2, y3, y4, y5, y6, y7, y8, none]
  have es4 : mSrc (mVar 1) g S4 = .ok (sqa S2.n (waveL W rows).length) S4 := by
    have g1 : g[1]? = some (some (.adr S2.n)) := rfl
    simp [mSrc, mVar, SM.bind, mSrcD, g1, p3]
  let S5 : Sr := (S4.alloc (.lst [])).put S4.n (.lst (((waveL W rows).map (· ++ [10])).map strL))
  have e5 : mLc (mSrc (mVar 1)) (.nm 9) mYes (mB dAdd (mVar 9) (mC (.str "\n"))) [9] g S4 = .ok (.adr S4.n) S5 := mLc_ok es4 L2
  have x5 : Xt S S5 := x4.alloc'.put x4.le
  have jo : fJoin (strL []) [.adr S4.n] S5 = .ok (strL (waveT W rows)) S5 := by
    have := join_adr (a := []) (B := 301) (S := S5) (j := S4.n) (ls := (waveL W rows).map (· ++ [10])) at_put (fun x hx => by
      obtain ⟨q, hq, rfl⟩ := List.mem_map.mp hx
      rw [List.length_append, List.length_singleton]
      have := o1 q hq
      omega) (by rw [List.length_map, List.length_nil]; omega)
    rw [this, joinL_nil]
    rfl
  refine ⟨S5, ?_, x5⟩
  unfold f_Wave_wave_text
  refine fn_rt ?_
  show b_Wave_wave_text G0 S = _
  unfold b_Wave_wave_text
  rw [sq_nx e2, sq_nx e4]
  have ty : ∀ S, tyF "str" (strL []) S = true := fun S => rfl
  show toRS (mBM "str" fJoin (mC (.str "")) (mCons (mLc (mSrc (mVar 1)) (.nm 9) mYes (mB dAdd (mVar 9) (mC (.str "\n"))) [9]) mNil) g S4) (fun d S => RS.rt d S) = _
  simp only [mBM, mC, mCons, mNil, SM.bind, SM.pure, ew, ty, if_true, e5, jo, toRS]
end
end K18

set_option Elab.async false
set_option linter.all false
set_option maxRecDepth 100000
set_option maxHeartbeats 4000000
namespace K18
open PySem PySem.Spec PyProof.Rows L2 Y TL
theorem fo_rt {sr : Src} {step : D → MS} {r i : Nat} {g : Gm} {S S' : Sr} {d v : D} (h : sr.nxt i S = some (some d)) (e : step d g S = .rt v S') : forG sr step (r + 1) i g S = .rt v S' := by
  show (match sr.nxt i S with
    | some none => RS.nx g S
    | some (some d) => (match step d g S with
      | .nx g' S' => forG sr step r (i + 1) g' S'
      | .ct g' S' => forG sr step r (i + 1) g' S'
      | .bk g' S' => .nx g' S'
      | .rt v S' => .rt v S'
      | .ex q S' => .ex q S'
      | .bad => .bad)
    | none => .bad) = _
  rw [h]
  dsimp only
  rw [e]
theorem mFor_rt {src : MI} {t : MG} {b : MS} {g : Gm} {S S1 : Sr} {sr : Src} (h : src g S = .ok sr S1) : mFor src t b g S = forG sr (mStep t b) sr.n 0 g S1 := mFor_of h
/-! ### pairs of whole numbers -/
abbrev prD (q : Int × Int) : D := .tup [.int q.1, .int q.2]
def pyPr (q : Int × Int) : PyData := .tuple [.int q.1, .int q.2]
theorem py_prs {S : Sr} {a : Nat} {l : List (Int × Int)} (h : S.f a = some (.lst (l.map prD))) : toPy S 9 (.adr a) = some (.list (l.map pyPr)) := by
  show (match S.f a with
    | some (.lst l) => (mapO (toPy S 8) l).map PyData.list
    | _ => none) = _
  rw [h]
  show (mapO (toPy S 8) (l.map prD)).map PyData.list = _
  rw [mapO_map (f := toPy S 8) (g := prD) (h := pyPr) (fun r => rfl)]
  rfl
theorem lay_prs : ∀ l : List (Int × Int), PyData.canLayAll0 (l.map pyPr) = true ∧ PyData.depthAll (l.map pyPr) ≤ 1
  | [] => ⟨rfl, by show (0 : Nat) ≤ 1; omega⟩
  | r :: l => by
    obtain ⟨h1, h2⟩ := lay_prs l
    refine ⟨?_, ?_⟩
    · show (PyData.canLay0 (pyPr r) && PyData.canLayAll0 (l.map pyPr)) = true
      rw [h1]
      rfl
    · show max (PyData.depth (pyPr r)) (PyData.depthAll (l.map pyPr)) ≤ 1
      have : PyData.depth (pyPr r) = 1 := rfl
      rw [this]
      omega
theorem shaped_prs {l : List (Int × Int)} : SeqAt.shaped (.list (l.map pyPr)) = true := by
  obtain ⟨h1, h2⟩ := lay_prs l
  unfold SeqAt.shaped
  have e1 : PyData.canLay0 (.list (l.map pyPr)) = true := h1
  have e2 : PyData.depth (.list (l.map pyPr)) = PyData.depthAll (l.map pyPr) + 1 := rfl
  rw [e1, e2, Bool.true_and]
  exact decide_eq_true (by omega)
theorem eqv_nil {ps : List PyData} : PyData.eqv (.list ps) (.list []) = ps.isEmpty := by
  rw [PyData.eqv.eq_def]
  cases ps <;> rfl
theorem eq_nilPr {S : Sr} {i j : Nat} {l : List (Int × Int)} (h : S.f i = some (.lst (l.map prD))) (h2 : S.f j = some (.lst [])) : dEq (.adr i) (.adr j) S = .ok (.bl l.isEmpty) S := by
  rw [ev_eqP (py_prs h) (py_prs (l := []) h2) shaped_prs (shaped_prs (l := []))]
  show R.ok (D.bl (PyData.eqv (.list (l.map pyPr)) (.list []))) S = _
  rw [eqv_nil]
  cases l <;> rfl
theorem ne_prs {S : Sr} {a b : Nat} {l : List (Int × Int)} (h : S.f a = some (.lst (l.map prD))) (h2 : S.f b = some (.lst (l.map prD))) : dNe (.adr a) (.adr b) S = .ok (.bl false) S := ne_refl2 (py_prs h) (py_prs h2) shaped_prs
theorem ixLast {l : List D} {x : D} {S : Sr} {i : Nat} (h : S.f i = some (.lst (l ++ [x]))) : dIx (.adr i) (.int (-1)) S = .ok x S := by
  have a : atI (l ++ [x]) (-1) = some x := by
    unfold atI ixN
    rw [if_neg (by decide), if_pos (by rw [List.length_append, List.length_singleton]; omega)]
    have : ((-1 : Int) + ((l ++ [x]).length : Int)).toNat = l.length := by
      rw [List.length_append, List.length_singleton]
      omega
    rw [this]
    simp
  simp [dIx, orF, ixSeq, itemsD, h, a]
section
variable {W : List (List Nat × Int)} {rows rows2 : List (List Int)} {S S0 : Sr} {iw ir iw2 ir2 F k : Nat}
/-! ### changes -/
def chR (k : Nat) : Int → Option Int → List (List Int) → List (Int × Int)
  | _, _, [] => []
  | b, last, row :: r => if last = some (row.getD k 0) then chR k (b + 1) last r else (b, row.getD k 0) :: chR k (b + 1) (some (row.getD k 0)) r
abbrev natD (k : Nat) : D := .int (k : Int)
/-- the places of a name -/
theorem place_loop {nm : List Nat} (hW : WOk W) (hs : Sgn nm) {D0 : Nat} : ∀ (r idx : Nat) (acc : List Nat) (S : Sr) (x0 x2 x3 x4 : Option D), idx + r = W.length → acc.length ≤ idx → S.f D0 = some (.lst (acc.map natD)) →
    lcG (sqe (sqn (W.map widD))) (.tp [6, 5]) (mTB (mB dEq (mB dIx (mVar 5) (mC (.int 0))) (mVar 1))) (mVar 6) [x0, some (strL nm), x2, x3, x4, none, none] D0 r idx S = .ok () (S.put D0 (.lst ((acc ++ ((List.range W.length).drop idx).filter fun k => decide ((W.getD k ([], 0)).1 = nm)).map natD)))
  | 0, idx, acc, S, x0, x2, x3, x4, h, _, fD => by
    rw [List.drop_eq_nil_of_le (by rw [List.length_range]; omega)]
    show lcG _ _ _ _ _ _ _ _ _ = .ok () (S.put D0 (.lst ((acc ++ []).map natD)))
    rw [List.append_nil, put_same fD]
    refine lc_end ?_
    show (match (some (W.map widD)[idx]? : Option (Option D)) with
      | some (some d) => some (some (D.tup [.int (idx : Int), d]))
      | some none => some none
      | none => none) = _
    rw [List.getElem?_eq_none (by rw [List.length_map]; omega)]
  | r + 1, idx, acc, S, x0, x2, x3, x4, h, hz, fD => by
    have hl : idx < W.length := by omega
    obtain ⟨s1, s2, s3, s4⟩ := hW.2 _ (List.getElem_mem hl)
    have wl := hW.1
    have en : (sqe (sqn (W.map widD))).nxt idx S = some (some (.tup [.int (idx : Int), widD W[idx]])) := by
      show (match (some (W.map widD)[idx]? : Option (Option D)) with
        | some (some d) => some (some (D.tup [.int (idx : Int), d]))
        | some none => some none
        | none => none) = _
      rw [List.getElem?_map, List.getElem?_eq_getElem hl]
      rfl
    have dr : (List.range W.length).drop idx = idx :: (List.range W.length).drop (idx + 1) := by
      rw [List.drop_eq_getElem_cons (by rw [List.length_range]; exact hl), List.getElem_range]
    let g : Gm := [x0, some (strL nm), x2, x3, x4, some (widD W[idx]), some (.int (idx : Int))]
    have g1 : g[1]? = some (some (strL nm)) := rfl
    have g5 : g[5]? = some (some (widD W[idx])) := rfl
    have gd : (W.getD idx ([], 0)).1 = W[idx].1 := by
      rw [List.getD_eq_getElem?_getD, List.getElem?_eq_getElem hl]
      rfl
    have i0 : dIx (widD W[idx]) (.int 0) S = .ok (strL W[idx].1) S := ixT0
    have et : mTB (mB dEq (mB dIx (mVar 5) (mC (.int 0))) (mVar 1)) g S = .ok (decide (W[idx].1 = nm)) S := by
      refine tb_of ?_
      have e : dEq (strL W[idx].1) (strL nm) S = .ok (.bl (decide (W[idx].1 = nm))) S := by
        rw [eqT s1 hs]
        congr 2
        exact decide_eq_decide.mpr sg_inj
      simp only [mB, mVar, mC, SM.bind, SM.pure, g1, g5, i0, e]
    rw [dr, List.filter_cons, gd]
    by_cases hc : W[idx].1 = nm
    · rw [decide_eq_true hc] at et ⊢
      have e1 := lc_nx (r := r) (y := .int (idx : Int)) (me := mVar 6) en (g0 := [x0, some (strL nm), x2, x3, x4, none, none]) (t := .tp [6, 5]) (g := g) rfl et rfl fD (by rw [List.length_map, sizeLine_eq]; omega)
      have ea : acc.map natD ++ [D.int (idx : Int)] = (acc ++ [idx]).map natD := by rw [List.map_append]; rfl
      rw [ea] at e1
      rw [e1, place_loop hW hs r (idx + 1) (acc ++ [idx]) _ x0 x2 x3 x4 (by omega) (by rw [List.length_append, List.length_singleton]; omega) at_put, put_put, List.append_assoc]
      rfl
    · rw [decide_eq_false hc] at et ⊢
      rw [lc_skip en rfl et, place_loop hW hs r (idx + 1) acc S x0 x2 x3 x4 (by omega) (by omega) fD]
      rfl
theorem place_one (hW : WOk W) (hd : (W.map (·.1)).Nodup) (hk : k < W.length) : ((List.range W.length).filter fun j => decide ((W.getD j ([], 0)).1 = (W.getD k ([], 0)).1)) = [k] := by
  have key : ∀ j, j < W.length → ((W.getD j ([], 0)).1 = (W.getD k ([], 0)).1 ↔ j = k) := fun j hj => by
    rw [List.getD_eq_getElem?_getD, List.getD_eq_getElem?_getD, List.getElem?_eq_getElem hj, List.getElem?_eq_getElem hk]
    constructor
    · intro h
      have h1 : (W.map (·.1))[j]'(by rw [List.length_map]; exact hj) = (W.map (·.1))[k]'(by rw [List.length_map]; exact hk) := by
        rw [List.getElem_map, List.getElem_map]
        exact h
      exact (List.getElem_inj hd).mp h1
    · rintro rfl
      rfl
  have : ((List.range W.length).filter fun j => decide ((W.getD j ([], 0)).1 = (W.getD k ([], 0)).1)) = (List.range W.length).filter fun j => decide (j = k) := by
    refine List.filter_congr fun j hj => ?_
    exact decide_eq_decide.mpr (key j (List.mem_range.mp hj))
  rw [this]
  generalize W.length = n at hk
  clear key this hd hW
  induction n with
  | zero => omega
  | succ n ih =>
    rw [List.range_succ, List.filter_append]
    by_cases h : k = n
    · subst h
      have e : (List.range k).filter (fun j => decide (j = k)) = [] := by
        rw [List.filter_eq_nil_iff]
        intro j hj
        have := List.mem_range.mp hj
        simp
        omega
      rw [e]
      simp
    · rw [ih (by omega)]
      have : ¬ n = k := fun z => h z.symm
      simp [this]
theorem ch_loop (hR : RowsOk W rows) (hk : k < W.length) (a0 : WaveAt S0 iw ir W rows) {Q : Nat} (hQ : S0.f Q = some (.lst [.int (k : Int)])) (lQ : Q < S0.n) (hF0 : S0.n ≤ F) : ∀ (r idx : Nat) (acc : List (Int × Int)) (S : Sr) (x1 x4 x5 x6 : Option D), idx + r = rows.length → acc.length + r ≤ 1000 → Fr [F] S0 S → F < S.n → S.f F = some (.lst (acc.map prD)) →
    ∃ S' y4 y5, forG (sqe (sqa ir rows.length)) (mStep (gTp 2 (gCn (gNm 4) (gCn (gNm 5) gNl))) b_Wave_changes_L39) r idx [some (.adr iw), x1, some (.adr Q), some (.adr F), x4, x5, x6] S = .nx [some (.adr iw), x1, some (.adr Q), some (.adr F), y4, y5, x6] S' ∧ Fr [F] S0 S' ∧ F < S'.n ∧ S'.f F = some (.lst ((acc ++ chR k (idx : Int) (acc.getLast?.map (·.2)) (rows.drop idx)).map prD))
  | 0, idx, acc, S, x1, x4, x5, x6, h, _, fr, lF, fF => by
    rw [List.drop_eq_nil_of_le (by omega)]
    have lt0 := a0.lt
    have a := a0.mv fr (by simp; omega) (by simp; omega)
    refine ⟨S, x4, x5, fo_end ?_, fr, lF, ?_⟩
    · show (match (sqa ir rows.length).nxt idx S with
        | some (some d) => some (some (D.tup [.int (idx : Int), d]))
        | some none => some none
        | none => none) = _
      rw [nx_sqa a.r, List.getElem?_eq_none (by rw [List.length_map]; omega)]
    · show S.f F = some (.lst ((acc ++ []).map prD))
      rw [List.append_nil]
      exact fF
  | r + 1, idx, acc, S, x1, x4, x5, x6, h, hz, fr, lF, fF => by
    have hl : idx < rows.length := by omega
    have lt0 := a0.lt
    have a := a0.mv fr (by simp; omega) (by simp; omega)
    have hr := hR.2 _ (List.getElem_mem hl)
    have z0 : 0 ≤ sizeLine := Nat.zero_le _
    have sz2 : 2 ≤ sizeLine := by rw [sizeLine_eq]; omega
    have en : (sqe (sqa ir rows.length)).nxt idx S = some (some (.tup [.int (idx : Int), valD rows[idx]])) := by
      show (match (sqa ir rows.length).nxt idx S with
        | some (some d) => some (some (D.tup [.int (idx : Int), d]))
        | some none => some none
        | none => none) = _
      rw [nx_sqa a.r, List.getElem?_map, List.getElem?_eq_getElem hl]
      rfl
    let g : Gm := [some (.adr iw), x1, some (.adr Q), some (.adr F), some (.int (idx : Int)), some (valD rows[idx]), x6]
    have st : mStep (gTp 2 (gCn (gNm 4) (gCn (gNm 5) gNl))) b_Wave_changes_L39 (.tup [.int (idx : Int), valD rows[idx]]) [some (.adr iw), x1, some (.adr Q), some (.adr F), x4, x5, x6] S = b_Wave_changes_L39 g S := by
      simp (decide := true) [mStep, mSeq, mPass, mBrk, mCnt, mDrop, mRet, mRetN, mIfS, mRaise, mSet, mAsg, mPar, mPar3, mAug, mFld, mFldAug, gNm, gSub', gFld, gNl, gCn, gTp, setA, putFD, mVar, mC, mB, mU, mTB, mAnd, mOr, mNot, mIf, mAndV, mOrV, mNotV, mChain, mNil, mCons, mTup, mLst, mSl, oNo, oE, mCB, fAbs, fMax2, fMin2, fInt, lenD, fLen, fTuple, fList, itemsD, fIsi, tyD, mAttr, mCall, mMeth, mMake, mBM, tyF, SM.bind, SM.pure, toRS, toRSA, toRST, Y.sb, List.lookup, put_f, put_n, alloc_f, alloc_n, put_put, alloc_put, okI, okB, orF, dSub, dFdiv, dMod, dPow, dShl, dShr, dAnd, dOr, dXor, dNeg, dLt, dLe, dGt, dGe, dIs, g]
    have g2 : g[2]? = some (some (.adr Q)) := rfl
    have g3 : g[3]? = some (some (.adr F)) := rfl
    have g4 : g[4]? = some (some (.int (idx : Int))) := rfl
    have g5 : g[5]? = some (some (valD rows[idx])) := rfl
    let S1 : Sr := S.alloc (.lst [])
    have fQ : ∀ S', Fr [F] S0 S' → S'.f Q = some (.lst [.int (k : Int)]) := fun S' f => f.at lQ (by simp; omega) hQ
    have fr1 : Fr [F] S0 S1 := fr.trans Fr.alloc
    have f1 : S1.f F = some (.lst (acc.map prD)) := at_old fF lF
    have hkr : k < rows[idx].length := by rw [hr.1]; exact hk
    have vd : rows[idx].getD k 0 = rows[idx][k] := by
      rw [List.getD_eq_getElem?_getD, List.getElem?_eq_getElem hkr]
      rfl
    have ev : mB dIx (mVar 5) (mB dIx (mVar 2) (mC (.int 0))) g S1 = .ok (.int (rows[idx].getD k 0)) S1 := by
      have i1 : dIx (.adr Q) (.int 0) S1 = .ok (.int (k : Int)) S1 := ixL0 (fQ S1 fr1)
      have i2 := ixV (S := S1) hkr
      rw [vd]
      simp only [mB, mVar, mC, SM.bind, SM.pure, g2, g5, i1, i2]
    have eqn := eq_nilPr (i := F) (j := S.n) (S := S1) f1 at_new
    have ta : mTB (mB dEq (mVar 3) (mLst mNil)) g S = .ok acc.isEmpty S1 := by
      refine tb_of ?_
      have el : mLst mNil g S = .ok (.adr S.n) S1 := by simp [mLst, mNil, SM.bind, SM.pure, z0, S1]
      simp only [mB, mVar, SM.bind, g3, el, eqn]
    have tt : mOr (mTB (mB dEq (mVar 3) (mLst mNil))) (mTB (mB dNe (mB dIx (mB dIx (mVar 3) (mU dNeg (mC (.int 1)))) (mC (.int 1))) (mB dIx (mVar 5) (mB dIx (mVar 2) (mC (.int 0)))))) g S = .ok (decide (acc.getLast?.map (·.2) ≠ some (rows[idx].getD k 0))) S1 := by
      rcases List.eq_nil_or_concat acc with rfl | ⟨ac, q, rfl⟩
      · have e : decide ((([] : List (Int × Int)).getLast?.map (·.2)) ≠ some (rows[idx].getD k 0)) = true := decide_eq_true (by simp)
        rw [e]
        exact or_t ta
      · have ta' : mTB (mB dEq (mVar 3) (mLst mNil)) g S = .ok false S1 := by
          rw [ta]
          simp
        refine or_f ta' (tb_of ?_)
        have il : dIx (.adr F) (.int (-1)) S1 = .ok (prD q) S1 := ixLast (l := ac.map prD) (by
          rw [f1]
          simp)
        have i1 : dIx (prD q) (.int 1) S1 = .ok (.int q.2) S1 := ixT1
        have e1 : mB dIx (mB dIx (mVar 3) (mU dNeg (mC (.int 1)))) (mC (.int 1)) g S1 = .ok (.int q.2) S1 := by
          simp only [mB, mU, mVar, mC, SM.bind, SM.pure, g3, dNeg, il, i1]
        show SM.bind (mB dIx (mB dIx (mVar 3) (mU dNeg (mC (.int 1)))) (mC (.int 1)) g) (fun x => SM.bind (mB dIx (mVar 5) (mB dIx (mVar 2) (mC (.int 0))) g) (fun y => dNe x y)) S1 = _
        simp only [SM.bind, e1, ev, ev_neI]
        have : (ac.concat q).getLast? = some q := by simp
        rw [this]
        show R.ok (D.bl _) S1 = .ok (.bl (decide (some q.2 ≠ some (rows[idx].getD k 0)))) S1
        simp
    rw [List.drop_eq_getElem_cons hl]
    have ech : chR k (idx : Int) (acc.getLast?.map (·.2)) (rows[idx] :: rows.drop (idx + 1)) = if acc.getLast?.map (·.2) = some (rows[idx].getD k 0) then chR k ((idx : Int) + 1) (acc.getLast?.map (·.2)) (rows.drop (idx + 1)) else ((idx : Int), rows[idx].getD k 0) :: chR k ((idx : Int) + 1) (some (rows[idx].getD k 0)) (rows.drop (idx + 1)) := rfl
    rw [ech]
    by_cases hc : acc.getLast?.map (·.2) = some (rows[idx].getD k 0)
    · rw [decide_eq_false (by simp [hc])] at tt
      rw [if_pos hc]
      obtain ⟨S2, y4, y5, e2, f2, l2, p2⟩ := ch_loop hR hk a0 hQ lQ hF0 r (idx + 1) acc S1 x1 (some (.int (idx : Int))) (some (valD rows[idx])) x6 (by omega) (by omega) fr1 (Nat.lt_succ_of_lt lF) f1
      refine ⟨S2, y4, y5, (fo_nx en (st.trans (by unfold b_Wave_changes_L39; rw [ifs_f tt]; rfl))).trans e2, f2, l2, ?_⟩
      rw [p2]
      rfl
    · rw [decide_eq_true hc] at tt
      rw [if_neg hc]
      have sz : (acc.map prD).length < sizeLine := by rw [List.length_map, sizeLine_eq]; omega
      have ap : fApp (.adr F) [prD ((idx : Int), rows[idx].getD k 0)] S1 = .ok .non (S1.put F (.lst ((acc ++ [((idx : Int), rows[idx].getD k 0)]).map prD))) := by
        unfold fApp
        simp only [f1]
        rw [if_pos sz, List.map_append]
        rfl
      have ap : fApp (.adr F) [.tup [.int (idx : Int), .int (rows[idx].getD k 0)]] S1 = .ok .non (S1.put F (.lst ((acc ++ [((idx : Int), rows[idx].getD k 0)]).map prD))) := ap
      have ty : tyF "list" (.adr F) S1 = true := by simp (decide := true) [tyF, f1]
      have body : b_Wave_changes_L39 g S = .nx g (S1.put F (.lst ((acc ++ [((idx : Int), rows[idx].getD k 0)]).map prD))) := by
        unfold b_Wave_changes_L39
        rw [ifs_t tt]
        have m3 : mVar 3 g S1 = .ok (.adr F) S1 := by simp only [mVar, g3]
        have m4 : mVar 4 g S1 = .ok (.int (idx : Int)) S1 := by simp only [mVar, g4]
        have et : mTup (mCons (mVar 4) (mCons (mB dIx (mVar 5) (mB dIx (mVar 2) (mC (.int 0)))) mNil)) g S1 = .ok (.tup [.int (idx : Int), .int (rows[idx].getD k 0)]) S1 := by
          simp (decide := true) only [mTup, mCons, mNil, SM.bind, SM.pure, m4, ev, List.length_cons, List.length_nil, sz2, if_true]
        show toRS (SM.bind (mVar 3 g) (fun x S1 => if tyF "list" x S1 = true then SM.bind (mCons (mTup (mCons (mVar 4) (mCons (mB dIx (mVar 5) (mB dIx (mVar 2) (mC (.int 0)))) mNil))) mNil g) (fApp x) S1 else .bad) S1) (fun _ S => RS.nx g S) = _
        have ec : mCons (mTup (mCons (mVar 4) (mCons (mB dIx (mVar 5) (mB dIx (mVar 2) (mC (.int 0)))) mNil))) mNil g S1 = .ok [.tup [.int (idx : Int), .int (rows[idx].getD k 0)]] S1 := by
          show SM.bind _ _ S1 = _
          unfold SM.bind
          rw [et]
          rfl
        simp only [SM.bind, m3, ty, if_true, ec, ap, toRS]
      obtain ⟨S2, y4, y5, e2, f2, l2, p2⟩ := ch_loop hR hk a0 hQ lQ hF0 r (idx + 1) (acc ++ [((idx : Int), rows[idx].getD k 0)]) (S1.put F (.lst ((acc ++ [((idx : Int), rows[idx].getD k 0)]).map prD))) x1 (some (.int (idx : Int))) (some (valD rows[idx])) x6 (by omega) (by rw [List.length_append, List.length_singleton]; omega) (fr1.trans (Fr.put (by simp))) (Nat.lt_succ_of_lt lF) at_put
      refine ⟨S2, y4, y5, (fo_nx en (st.trans body)).trans e2, f2, l2, ?_⟩
      rw [p2, List.append_assoc]
      simp
end
end K18

set_option Elab.async false
set_option linter.all false
set_option maxRecDepth 100000
set_option maxHeartbeats 4000000
namespace K18
open PySem PySem.Spec PyProof.Rows L2 Y TL
section
variable {W : List (List Nat × Int)} {rows rows2 : List (List Int)} {S S0 : Sr} {iw ir iw2 ir2 F k : Nat}
theorem places {nm : List Nat} (hW : WOk W) (hs : Sgn nm) (a : WaveAt S iw ir W rows) : mSet 2 (mLc (mEnu (mCons (mAttr ["Wave"] "widths" (mVar 0)) mNil)) (.tp [6, 5]) (mTB (mB dEq (mB dIx (mVar 5) (mC (.int 0))) (mVar 1))) (mVar 6) [6, 5]) [some (.adr iw), some (strL nm), none, none, none, none, none] S = .nx [some (.adr iw), some (strL nm), some (.adr S.n), none, none, none, none] ((S.alloc (.lst [])).put S.n (.lst (((List.range W.length).filter fun k => decide ((W.getD k ([], 0)).1 = nm)).map natD))) := by
  have w := a.w
  have h := place_loop hW hs (D0 := S.n) W.length 0 [] (S.alloc (.lst [])) (some (.adr iw)) none none none (Nat.zero_add _) (Nat.le_refl _) at_new
  rw [List.drop_zero, List.nil_append] at h
  have es : mEnu (mCons (mAttr ["Wave"] "widths" (mVar 0)) mNil) [some (.adr iw), some (strL nm), none, none, none, none, none] S = .ok (sqe (sqn (W.map widD))) S := by
    simp (decide := true) [mEnu, mSrcD, mSeq, mPass, mBrk, mCnt, mDrop, mRet, mRetN, mIfS, mRaise, mSet, mAsg, mPar, mPar3, mAug, mFld, mFldAug, gNm, gSub', gFld, gNl, gCn, gTp, setA, putFD, mVar, mC, mB, mU, mTB, mAnd, mOr, mNot, mIf, mAndV, mOrV, mNotV, mChain, mNil, mCons, mTup, mLst, mSl, oNo, oE, mCB, fAbs, fMax2, fMin2, fInt, lenD, fLen, fTuple, fList, itemsD, fIsi, tyD, mAttr, mCall, mMeth, mMake, mBM, tyF, SM.bind, SM.pure, toRS, toRSA, toRST, Y.sb, List.lookup, put_f, put_n, alloc_f, alloc_n, put_put, alloc_put, okI, okB, orF, dSub, dFdiv, dMod, dPow, dShl, dShr, dAnd, dOr, dXor, dNeg, dLt, dLe, dGt, dGe, dIs, w]
  have esn : (sqe (sqn (W.map widD))).n = W.length := by show (W.map widD).length = _; rw [List.length_map]
  have e := mLc_ok (vs := [6, 5]) es (by rw [esn]; exact h)
  unfold mSet toRS
  rw [e]
  rfl
theorem eq_nilN {S : Sr} {i j : Nat} {l : List Nat} (h : S.f i = some (.lst (l.map natD))) (h2 : S.f j = some (.lst [])) : dEq (.adr i) (.adr j) S = .ok (.bl l.isEmpty) S := by
  have e : l.map natD = (l.map fun k : Nat => (k : Int)).map D.int := by rw [List.map_map]; rfl
  rw [e] at h
  rw [eq_empty h h2]
  cases l <;> rfl
theorem e_changes (hW : WOk W) (hd : (W.map (·.1)).Nodup) (hR : RowsOk W rows) (hk : k < W.length) (a : WaveAt S iw ir W rows) : ∃ S', f_Wave_changes [.adr iw, strL (W.getD k ([], 0)).1] S = .ok (.gtp ((chR k 0 none rows).map prD)) S' ∧ Xt S S' := by
  have z0 : 0 ≤ sizeLine := Nat.zero_le _
  have gd : (W.getD k ([], 0)).1 = W[k].1 := by
    rw [List.getD_eq_getElem?_getD, List.getElem?_eq_getElem hk]
    rfl
  have hs : Sgn (W.getD k ([], 0)).1 := by
    rw [gd]
    exact (hW.2 _ (List.getElem_mem hk)).1
  have e1 := places hW hs a
  rw [place_one hW hd hk] at e1
  let S1 : Sr := (S.alloc (.lst [])).put S.n (.lst [.int (k : Int)])
  have x1 : Xt S S1 := Xt.alloc.put (Nat.le_refl _)
  have n1 : S1.n = S.n + 1 := rfl
  have q1 : S1.f S.n = some (.lst ([k].map natD)) := at_put
  let S2 : Sr := S1.alloc (.lst [])
  have eqn := eq_nilN (i := S.n) (j := S1.n) (S := S2) (at_old q1 (Nat.lt_succ_self _)) at_new
  let g : Gm := [some (.adr iw), some (strL (W.getD k ([], 0)).1), some (.adr S.n), none, none, none, none]
  have ta : mTB (mB dEq (mVar 2) (mLst mNil)) g S1 = .ok false S2 := by
    refine tb_of ?_
    have g2 : g[2]? = some (some (.adr S.n)) := rfl
    have el : mLst mNil g S1 = .ok (.adr S1.n) S2 := by simp [mLst, mNil, SM.bind, SM.pure, z0, S2]
    simp only [mB, mVar, SM.bind, g2, el, eqn]
    rfl
  let S3 : Sr := S2.alloc (.lst (([] : List (Int × Int)).map prD))
  have x2 : Xt S S2 := x1.alloc'
  have n2 : S2.n = S.n + 1 + 1 := rfl
  have e3 : mSet 3 (mLst mNil) g S2 = .nx [some (.adr iw), some (strL (W.getD k ([], 0)).1), some (.adr S.n), some (.adr S2.n), none, none, none] S3 := by
    simp (decide := true) [mSeq, mPass, mBrk, mCnt, mDrop, mRet, mRetN, mIfS, mRaise, mSet, mAsg, mPar, mPar3, mAug, mFld, mFldAug, gNm, gSub', gFld, gNl, gCn, gTp, setA, putFD, mVar, mC, mB, mU, mTB, mAnd, mOr, mNot, mIf, mAndV, mOrV, mNotV, mChain, mNil, mCons, mTup, mLst, mSl, oNo, oE, mCB, fAbs, fMax2, fMin2, fInt, lenD, fLen, fTuple, fList, itemsD, fIsi, tyD, mAttr, mCall, mMeth, mMake, mBM, tyF, SM.bind, SM.pure, toRS, toRSA, toRST, Y.sb, List.lookup, put_f, put_n, alloc_f, alloc_n, put_put, alloc_put, okI, okB, orF, dSub, dFdiv, dMod, dPow, dShl, dShr, dAnd, dOr, dXor, dNeg, dLt, dLe, dGt, dGe, dIs, z0, S3, g]
  have a2 := a.xt x2
  obtain ⟨S4, y4, y5, e4, f4, l4, p4⟩ := ch_loop (S0 := S2) (F := S2.n) hR hk a2 (Q := S.n) (at_old q1 (Nat.lt_succ_self _)) (show S.n < S.n + 1 + 1 by omega) (Nat.le_refl _) rows.length 0 [] S3 (some (strL (W.getD k ([], 0)).1)) none none none (Nat.zero_add _) (by have := hR.1; simp; omega) Fr.alloc (Nat.lt_succ_self _) at_new
  rw [List.drop_zero, List.nil_append] at p4
  have p4 : S4.f S2.n = some (.lst ((chR k 0 none rows).map prD)) := p4
  have w3 : (S2.alloc (.lst (([] : List (Int × Int)).map prD))).f iw = _ := at_old a2.w a2.lt.1
  have r3 : (S2.alloc (.lst (([] : List (Int × Int)).map prD))).f ir = _ := at_old a2.r a2.lt.2.1
  let g3 : Gm := [some (.adr iw), some (strL (W.getD k ([], 0)).1), some (.adr S.n), some (.adr S2.n), none, none, none]
  have es : mEnu (mCons (mAttr ["Wave"] "rows" (mVar 0)) mNil) g3 S3 = .ok (sqe (sqa ir rows.length)) S3 := by
    have w3' : S3.f iw = _ := w3
    have r3' : S3.f ir = _ := r3
    have e1 : mAttr ["Wave"] "rows" (mVar 0) g3 S3 = .ok (.adr ir) S3 := by
      have h0 : mVar 0 g3 S3 = .ok (.adr iw) S3 := rfl
      unfold mAttr
      simp (decide := true) [SM.bind, h0, w3', List.lookup, Y.sb]
    have e2 : mCons (mAttr ["Wave"] "rows" (mVar 0)) mNil g3 S3 = .ok [.adr ir] S3 := by
      show SM.bind _ _ S3 = _
      unfold SM.bind
      rw [e1]
      rfl
    unfold mEnu SM.bind
    rw [e2]
    simp [mSrcD, r3']
  have e5 : mFor (mEnu (mCons (mAttr ["Wave"] "rows" (mVar 0)) mNil)) (gTp 2 (gCn (gNm 4) (gCn (gNm 5) gNl))) b_Wave_changes_L39 g3 S3 = _ := (mFor_of es).trans e4
  have x4 : Xt S S4 := ⟨Nat.le_trans x2.le f4.1, fun j hj => (f4.2 j (Nat.lt_of_lt_of_le hj x2.le) (by simp; omega)).trans (x2.eq j hj)⟩
  refine ⟨S4, ?_, x4⟩
  unfold f_Wave_changes
  refine fn_rt ?_
  show b_Wave_changes [some (.adr iw), some (strL (W.getD k ([], 0)).1), none, none, none, none, none] S = _
  have et : fTupG [.adr S2.n] S4 = .ok (.gtp ((chR k 0 none rows).map prD)) S4 := by
    unfold fTupG
    simp only [p4]
  have fin : mRet (mCB fTupG (mCons (mVar 3) mNil)) [some (.adr iw), some (strL (W.getD k ([], 0)).1), some (.adr S.n), some (.adr S2.n), y4, y5, none] S4 = .rt (.gtp ((chR k 0 none rows).map prD)) S4 := by
    simp only [mRet, mCB, mCons, mNil, mVar, SM.bind, SM.pure, List.getElem?_cons_succ, List.getElem?_cons_zero, et, toRS]
  have eIf : mIfS (mTB (mB dEq (mVar 2) (mLst mNil))) (mRaise "RunError") mPass g S1 = .nx g S2 := ifs_f ta
  exact (sq_nx e1).trans ((sq_nx eIf).trans ((sq_nx e3).trans ((sq_nx e5).trans fin)))
theorem e_changes_no {nm : List Nat} (hW : WOk W) (hs : Sgn nm) (hn : ∀ j, j < W.length → (W.getD j ([], 0)).1 ≠ nm) (a : WaveAt S iw ir W rows) : ∃ S', f_Wave_changes [.adr iw, strL nm] S = .exc "RunError" S' ∧ Xt S S' := by
  have z0 : 0 ≤ sizeLine := Nat.zero_le _
  have e1 := places hW hs a
  have ef : ((List.range W.length).filter fun k => decide ((W.getD k ([], 0)).1 = nm)) = [] := by
    rw [List.filter_eq_nil_iff]
    intro j hj
    have := hn j (List.mem_range.mp hj)
    simpa using this
  rw [ef] at e1
  let S1 : Sr := (S.alloc (.lst [])).put S.n (.lst (([] : List Nat).map natD))
  have x1 : Xt S S1 := Xt.alloc.put (Nat.le_refl _)
  have q1 : S1.f S.n = some (.lst (([] : List Nat).map natD)) := at_put
  let S2 : Sr := S1.alloc (.lst [])
  have eqn := eq_nilN (i := S.n) (j := S1.n) (S := S2) (at_old q1 (Nat.lt_succ_self _)) at_new
  let g : Gm := [some (.adr iw), some (strL nm), some (.adr S.n), none, none, none, none]
  have ta : mTB (mB dEq (mVar 2) (mLst mNil)) g S1 = .ok true S2 := by
    refine tb_of ?_
    have g2 : g[2]? = some (some (.adr S.n)) := rfl
    have el : mLst mNil g S1 = .ok (.adr S1.n) S2 := by simp [mLst, mNil, SM.bind, SM.pure, z0, S2]
    simp only [mB, mVar, SM.bind, g2, el, eqn]
    rfl
  refine ⟨S2, ?_, x1.alloc'⟩
  unfold f_Wave_changes
  refine fn_ex ?_
  show b_Wave_changes [some (.adr iw), some (strL nm), none, none, none, none, none] S = _
  have eIf : mIfS (mTB (mB dEq (mVar 2) (mLst mNil))) (mRaise "RunError") mPass g S1 = .ex "RunError" S2 := ifs_t ta
  exact (sq_nx e1).trans (sq_ex eIf)
end
end K18

set_option Elab.async false
set_option linter.all false
set_option maxRecDepth 100000
set_option maxHeartbeats 4000000
namespace K18
open PySem PySem.Spec PyProof.Rows L2 Y TL
def unl (x y : List Int) (k : Nat) : Bool := decide (x.getD k 0 ≠ y.getD k 0)
def fuO (W : List (List Nat × Int)) : Nat → List (List Int) → List (List Int) → Option (Nat × Nat)
  | b, x :: xs, y :: ys => match (List.range W.length).find? (unl x y) with
    | some k => some (b, k)
    | none => fuO W (b + 1) xs ys
  | _, _, _ => none
section
variable {W : List (List Nat × Int)} {rows rows2 : List (List Int)} {S S0 : Sr} {iw ir iw2 ir2 F k : Nat}
theorem unl_loop {x y : List Int} (hx : x.length = W.length) (hy : y.length = W.length) {b : Nat} : ∀ (r idx : Nat) (x5 x6 x7 : Option D), idx + r = W.length →
    (match ((List.range W.length).drop idx).find? (unl x y) with
    | some k => forG (sqe (sqn (W.map widD))) (mStep (gTp 2 (gCn (gNm 5) (gCn (gTp 2 (gCn (gNm 6) (gCn (gNm 7) gNl))) gNl))) b_Wave_first_unlike_L46) r idx [some (.adr iw), some (.adr iw2), some (.int (b : Int)), some (valD x), some (valD y), x5, x6, x7] S = .rt (.tup [.int (b : Int), strL (W.getD k ([], 0)).1]) S
    | none => ∃ y5 y6 y7, forG (sqe (sqn (W.map widD))) (mStep (gTp 2 (gCn (gNm 5) (gCn (gTp 2 (gCn (gNm 6) (gCn (gNm 7) gNl))) gNl))) b_Wave_first_unlike_L46) r idx [some (.adr iw), some (.adr iw2), some (.int (b : Int)), some (valD x), some (valD y), x5, x6, x7] S = .nx [some (.adr iw), some (.adr iw2), some (.int (b : Int)), some (valD x), some (valD y), y5, y6, y7] S)
  | 0, idx, x5, x6, x7, h => by
    rw [List.drop_eq_nil_of_le (by rw [List.length_range]; omega)]
    refine ⟨x5, x6, x7, fo_end ?_⟩
    show (match (some (W.map widD)[idx]? : Option (Option D)) with
      | some (some d) => some (some (D.tup [.int (idx : Int), d]))
      | some none => some none
      | none => none) = _
    rw [List.getElem?_eq_none (by rw [List.length_map]; omega)]
  | r + 1, idx, x5, x6, x7, h => by
    have hl : idx < W.length := by omega
    have hlx : idx < x.length := by omega
    have hly : idx < y.length := by omega
    have sz2 : 2 ≤ sizeLine := by rw [sizeLine_eq]; omega
    have en : (sqe (sqn (W.map widD))).nxt idx S = some (some (.tup [.int (idx : Int), widD W[idx]])) := by
      show (match (some (W.map widD)[idx]? : Option (Option D)) with
        | some (some d) => some (some (D.tup [.int (idx : Int), d]))
        | some none => some none
        | none => none) = _
      rw [List.getElem?_map, List.getElem?_eq_getElem hl]
      rfl
    have dr : (List.range W.length).drop idx = idx :: (List.range W.length).drop (idx + 1) := by
      rw [List.drop_eq_getElem_cons (by rw [List.length_range]; exact hl), List.getElem_range]
    let g : Gm := [some (.adr iw), some (.adr iw2), some (.int (b : Int)), some (valD x), some (valD y), some (.int (idx : Int)), some (strL W[idx].1), some (.int W[idx].2)]
    have st : mStep (gTp 2 (gCn (gNm 5) (gCn (gTp 2 (gCn (gNm 6) (gCn (gNm 7) gNl))) gNl))) b_Wave_first_unlike_L46 (.tup [.int (idx : Int), widD W[idx]]) [some (.adr iw), some (.adr iw2), some (.int (b : Int)), some (valD x), some (valD y), x5, x6, x7] S = b_Wave_first_unlike_L46 g S := by
      simp (decide := true) [mStep, mSeq, mPass, mBrk, mCnt, mDrop, mRet, mRetN, mIfS, mRaise, mSet, mAsg, mPar, mPar3, mAug, mFld, mFldAug, gNm, gSub', gFld, gNl, gCn, gTp, setA, putFD, mVar, mC, mB, mU, mTB, mAnd, mOr, mNot, mIf, mAndV, mOrV, mNotV, mChain, mNil, mCons, mTup, mLst, mSl, oNo, oE, mCB, fAbs, fMax2, fMin2, fInt, lenD, fLen, fTuple, fList, itemsD, fIsi, tyD, mAttr, mCall, mMeth, mMake, mBM, tyF, SM.bind, SM.pure, toRS, toRSA, toRST, Y.sb, List.lookup, put_f, put_n, alloc_f, alloc_n, put_put, alloc_put, okI, okB, orF, dSub, dFdiv, dMod, dPow, dShl, dShr, dAnd, dOr, dXor, dNeg, dLt, dLe, dGt, dGe, dIs, g]
    have g2 : g[2]? = some (some (.int (b : Int))) := rfl
    have g3 : g[3]? = some (some (valD x)) := rfl
    have g4 : g[4]? = some (some (valD y)) := rfl
    have g5 : g[5]? = some (some (.int (idx : Int))) := rfl
    have g6 : g[6]? = some (some (strL W[idx].1)) := rfl
    have ix := ixV (S := S) hlx
    have iy := ixV (S := S) hly
    have et : mTB (mB dNe (mB dIx (mVar 3) (mVar 5)) (mB dIx (mVar 4) (mVar 5))) g S = .ok (unl x y idx) S := by
      refine tb_of ?_
      have : unl x y idx = !decide (x[idx] = y[idx]) := by
        unfold unl
        rw [List.getD_eq_getElem?_getD, List.getD_eq_getElem?_getD, List.getElem?_eq_getElem hlx, List.getElem?_eq_getElem hly]
        simp
      rw [this]
      simp only [mB, mVar, SM.bind, g3, g4, g5, ix, iy, ev_neI]
    rw [dr, List.find?_cons]
    cases hc : unl x y idx with
    | true =>
      rw [hc] at et
      have gd : (W.getD idx ([], 0)).1 = W[idx].1 := by
        rw [List.getD_eq_getElem?_getD, List.getElem?_eq_getElem hl]
        rfl
      have body : b_Wave_first_unlike_L46 g S = .rt (.tup [.int (b : Int), strL (W.getD idx ([], 0)).1]) S := by
        unfold b_Wave_first_unlike_L46
        rw [ifs_t et, gd]
        simp (decide := true) only [mRet, mTup, mCons, mNil, mVar, SM.bind, SM.pure, g2, g6, List.length_cons, List.length_nil, sz2, if_true, toRS]
      exact fo_rt en (st.trans body)
    | false =>
      rw [hc] at et
      have body : b_Wave_first_unlike_L46 g S = .nx g S := ifs_f et
      have ih := unl_loop (b := b) hx hy r (idx + 1) (some (.int (idx : Int))) (some (strL W[idx].1)) (some (.int W[idx].2)) (by omega)
      dsimp only
      cases hf : ((List.range W.length).drop (idx + 1)).find? (unl x y) with
      | some k =>
        rw [hf] at ih
        exact (fo_nx en (st.trans body)).trans ih
      | none =>
        rw [hf] at ih
        obtain ⟨y5, y6, y7, e⟩ := ih
        exact ⟨y5, y6, y7, (fo_nx en (st.trans body)).trans e⟩
theorem fu_loop (a : WaveAt S iw ir W rows) (a2 : WaveAt S iw2 ir2 W rows2) (hl : rows.length = rows2.length) (hx : ∀ r ∈ rows, r.length = W.length) (hy : ∀ r ∈ rows2, r.length = W.length) : ∀ (r idx : Nat) (x2 x3 x4 x5 x6 x7 : Option D), idx + r = rows.length →
    (match fuO W idx (rows.drop idx) (rows2.drop idx) with
    | some q => forG (sqe (sqz (sqa ir rows.length) (sqa ir2 rows2.length))) (mStep (gTp 2 (gCn (gNm 2) (gCn (gTp 2 (gCn (gNm 3) (gCn (gNm 4) gNl))) gNl))) b_Wave_first_unlike_L45) r idx [some (.adr iw), some (.adr iw2), x2, x3, x4, x5, x6, x7] S = .rt (.tup [.int (q.1 : Int), strL (W.getD q.2 ([], 0)).1]) S
    | none => ∃ g', forG (sqe (sqz (sqa ir rows.length) (sqa ir2 rows2.length))) (mStep (gTp 2 (gCn (gNm 2) (gCn (gTp 2 (gCn (gNm 3) (gCn (gNm 4) gNl))) gNl))) b_Wave_first_unlike_L45) r idx [some (.adr iw), some (.adr iw2), x2, x3, x4, x5, x6, x7] S = .nx g' S)
  | 0, idx, x2, x3, x4, x5, x6, x7, h => by
    rw [List.drop_eq_nil_of_le (by omega), List.drop_eq_nil_of_le (by omega)]
    refine ⟨_, fo_end ?_⟩
    have e1 : (sqa ir rows.length).nxt idx S = some none := by rw [nx_sqa a.r, List.getElem?_eq_none (by rw [List.length_map]; omega)]
    have e2 : (sqa ir2 rows2.length).nxt idx S = some none := by rw [nx_sqa a2.r, List.getElem?_eq_none (by rw [List.length_map]; omega)]
    unfold sqe sqz
    dsimp only
    rw [e1, e2]
  | r + 1, idx, x2, x3, x4, x5, x6, x7, h => by
    have h1 : idx < rows.length := by omega
    have h2 : idx < rows2.length := by omega
    have e1 : (sqa ir rows.length).nxt idx S = some (some (valD rows[idx])) := by
      rw [nx_sqa a.r, List.getElem?_map, List.getElem?_eq_getElem h1]
      rfl
    have e2 : (sqa ir2 rows2.length).nxt idx S = some (some (valD rows2[idx])) := by
      rw [nx_sqa a2.r, List.getElem?_map, List.getElem?_eq_getElem h2]
      rfl
    have en : (sqe (sqz (sqa ir rows.length) (sqa ir2 rows2.length))).nxt idx S = some (some (.tup [.int (idx : Int), .tup [valD rows[idx], valD rows2[idx]]])) := by
      unfold sqe sqz
      dsimp only
      rw [e1, e2]
    have st : mStep (gTp 2 (gCn (gNm 2) (gCn (gTp 2 (gCn (gNm 3) (gCn (gNm 4) gNl))) gNl))) b_Wave_first_unlike_L45 (.tup [.int (idx : Int), .tup [valD rows[idx], valD rows2[idx]]]) [some (.adr iw), some (.adr iw2), x2, x3, x4, x5, x6, x7] S = b_Wave_first_unlike_L45 [some (.adr iw), some (.adr iw2), some (.int (idx : Int)), some (valD rows[idx]), some (valD rows2[idx]), x5, x6, x7] S := by
      simp (decide := true) [mStep, mSeq, mPass, mBrk, mCnt, mDrop, mRet, mRetN, mIfS, mRaise, mSet, mAsg, mPar, mPar3, mAug, mFld, mFldAug, gNm, gSub', gFld, gNl, gCn, gTp, setA, putFD, mVar, mC, mB, mU, mTB, mAnd, mOr, mNot, mIf, mAndV, mOrV, mNotV, mChain, mNil, mCons, mTup, mLst, mSl, oNo, oE, mCB, fAbs, fMax2, fMin2, fInt, lenD, fLen, fTuple, fList, itemsD, fIsi, tyD, mAttr, mCall, mMeth, mMake, mBM, tyF, SM.bind, SM.pure, toRS, toRSA, toRST, Y.sb, List.lookup, put_f, put_n, alloc_f, alloc_n, put_put, alloc_put, okI, okB, orF, dSub, dFdiv, dMod, dPow, dShl, dShr, dAnd, dOr, dXor, dNeg, dLt, dLe, dGt, dGe, dIs]
    have w := a.w
    have es : mEnu (mCons (mAttr ["Wave"] "widths" (mVar 0)) mNil) [some (.adr iw), some (.adr iw2), some (.int (idx : Int)), some (valD rows[idx]), some (valD rows2[idx]), x5, x6, x7] S = .ok (sqe (sqn (W.map widD))) S := by
      simp (decide := true) [mEnu, mSrcD, mSeq, mPass, mBrk, mCnt, mDrop, mRet, mRetN, mIfS, mRaise, mSet, mAsg, mPar, mPar3, mAug, mFld, mFldAug, gNm, gSub', gFld, gNl, gCn, gTp, setA, putFD, mVar, mC, mB, mU, mTB, mAnd, mOr, mNot, mIf, mAndV, mOrV, mNotV, mChain, mNil, mCons, mTup, mLst, mSl, oNo, oE, mCB, fAbs, fMax2, fMin2, fInt, lenD, fLen, fTuple, fList, itemsD, fIsi, tyD, mAttr, mCall, mMeth, mMake, mBM, tyF, SM.bind, SM.pure, toRS, toRSA, toRST, Y.sb, List.lookup, put_f, put_n, alloc_f, alloc_n, put_put, alloc_put, okI, okB, orF, dSub, dFdiv, dMod, dPow, dShl, dShr, dAnd, dOr, dXor, dNeg, dLt, dLe, dGt, dGe, dIs, w]
    have esn : (sqe (sqn (W.map widD))).n = W.length := by show (W.map widD).length = _; rw [List.length_map]
    have U := unl_loop (iw := iw) (iw2 := iw2) (S := S) (b := idx) (hx _ (List.getElem_mem h1)) (hy _ (List.getElem_mem h2)) W.length 0 x5 x6 x7 (Nat.zero_add _)
    rw [List.drop_zero] at U
    rw [List.drop_eq_getElem_cons h1, List.drop_eq_getElem_cons h2]
    have ef : fuO W idx (rows[idx] :: rows.drop (idx + 1)) (rows2[idx] :: rows2.drop (idx + 1)) = match (List.range W.length).find? (unl rows[idx] rows2[idx]) with
      | some k => some (idx, k)
      | none => fuO W (idx + 1) (rows.drop (idx + 1)) (rows2.drop (idx + 1)) := rfl
    rw [ef]
    cases hf : (List.range W.length).find? (unl rows[idx] rows2[idx]) with
    | some k =>
      rw [hf] at U
      have body : b_Wave_first_unlike_L45 [some (.adr iw), some (.adr iw2), some (.int (idx : Int)), some (valD rows[idx]), some (valD rows2[idx]), x5, x6, x7] S = .rt (.tup [.int (idx : Int), strL (W.getD k ([], 0)).1]) S := (mFor_of es).trans (by
        rw [esn]
        exact U)
      exact fo_rt en (st.trans body)
    | none =>
      rw [hf] at U
      obtain ⟨y5, y6, y7, e⟩ := U
      have body : b_Wave_first_unlike_L45 [some (.adr iw), some (.adr iw2), some (.int (idx : Int)), some (valD rows[idx]), some (valD rows2[idx]), x5, x6, x7] S = .nx [some (.adr iw), some (.adr iw2), some (.int (idx : Int)), some (valD rows[idx]), some (valD rows2[idx]), y5, y6, y7] S := (mFor_of es).trans (by
        rw [esn]
        exact e)
      have ih := fu_loop a a2 hl hx hy r (idx + 1) (some (.int (idx : Int))) (some (valD rows[idx])) (some (valD rows2[idx])) y5 y6 y7 (by omega)
      dsimp only
      cases hg : fuO W (idx + 1) (rows.drop (idx + 1)) (rows2.drop (idx + 1)) with
      | some q =>
        rw [hg] at ih
        exact (fo_nx en (st.trans body)).trans ih
      | none =>
        rw [hg] at ih
        obtain ⟨g', e2⟩ := ih
        exact ⟨g', (fo_nx en (st.trans body)).trans e2⟩
theorem e_unlike (a : WaveAt S iw ir W rows) (a2 : WaveAt S iw2 ir2 W rows2) (hl : rows.length = rows2.length) (hx : ∀ r ∈ rows, r.length = W.length) (hy : ∀ r ∈ rows2, r.length = W.length) : f_Wave_first_unlike [.adr iw, .adr iw2] S = .ok (match fuO W 0 rows rows2 with
    | some q => .tup [.int (q.1 : Int), strL (W.getD q.2 ([], 0)).1]
    | none => .non) S := by
  have L := fu_loop a a2 hl hx hy rows.length 0 none none none none none none (Nat.zero_add _)
  rw [List.drop_zero, List.drop_zero] at L
  have w := a.w
  have r := a.r
  have w2 := a2.w
  have r2 := a2.r
  have es : mEnz (mCons (mAttr ["Wave"] "rows" (mVar 0)) (mCons (mAttr ["Wave"] "rows" (mVar 1)) mNil)) [some (.adr iw), some (.adr iw2), none, none, none, none, none, none] S = .ok (sqe (sqz (sqa ir rows.length) (sqa ir2 rows2.length))) S := by
    simp (decide := true) [mEnz, mSrcD, mSeq, mPass, mBrk, mCnt, mDrop, mRet, mRetN, mIfS, mRaise, mSet, mAsg, mPar, mPar3, mAug, mFld, mFldAug, gNm, gSub', gFld, gNl, gCn, gTp, setA, putFD, mVar, mC, mB, mU, mTB, mAnd, mOr, mNot, mIf, mAndV, mOrV, mNotV, mChain, mNil, mCons, mTup, mLst, mSl, oNo, oE, mCB, fAbs, fMax2, fMin2, fInt, lenD, fLen, fTuple, fList, itemsD, fIsi, tyD, mAttr, mCall, mMeth, mMake, mBM, tyF, SM.bind, SM.pure, toRS, toRSA, toRST, Y.sb, List.lookup, put_f, put_n, alloc_f, alloc_n, put_put, alloc_put, okI, okB, orF, dSub, dFdiv, dMod, dPow, dShl, dShr, dAnd, dOr, dXor, dNeg, dLt, dLe, dGt, dGe, dIs, w, r, w2, r2]
  have esn : (sqe (sqz (sqa ir rows.length) (sqa ir2 rows2.length))).n = rows.length := rfl
  cases hf : fuO W 0 rows rows2 with
  | some q =>
    rw [hf] at L
    unfold f_Wave_first_unlike
    refine fn_rt ?_
    show b_Wave_first_unlike [some (.adr iw), some (.adr iw2), none, none, none, none, none, none] S = _
    exact sq_rt ((mFor_of es).trans (by rw [esn]; exact L))
  | none =>
    rw [hf] at L
    obtain ⟨g', e⟩ := L
    unfold f_Wave_first_unlike
    refine fn_rt ?_
    show b_Wave_first_unlike [some (.adr iw), some (.adr iw2), none, none, none, none, none, none] S = _
    refine (sq_nx ((mFor_of es).trans (by rw [esn]; exact e))).trans ?_
    rfl
end
end K18

set_option Elab.async false
set_option linter.all false
set_option maxRecDepth 100000
set_option maxHeartbeats 4000000
namespace K18
open PySem PySem.Spec PyProof.Rows L2 Y TL
theorem look_put {κ : Type} [DecidableEq κ] {l : List (κ × D)} {k k1 : κ} {v : D} : (lookD (putD l k v) k1).isSome = (decide (k1 = k) || (lookD l k1).isSome) := by
  have e : ∀ l : List (κ × D), (lookD l k1).isSome = l.any fun q => decide (q.1 = k1) := fun l => by
    unfold lookD
    rw [Option.isSome_map, Bool.eq_iff_iff, List.find?_isSome, List.any_eq_true]
  rw [e, e]
  unfold putD
  by_cases h : (l.any fun q => decide (q.1 = k)) = true
  · rw [if_pos h, List.any_map]
    have : ((fun q => decide (q.1 = k1)) ∘ fun q : κ × D => if q.1 = k then (q.1, v) else q) = fun q => decide (q.1 = k1) := by
      funext q
      show decide ((if q.1 = k then (q.1, v) else q).1 = k1) = _
      by_cases z : q.1 = k
      · rw [if_pos z]
      · rw [if_neg z]
    rw [this]
    by_cases z : k1 = k
    · rw [z, h]; simp
    · rw [decide_eq_false z, Bool.false_or]
  · rw [if_neg h, List.any_append, Bool.or_comm]
    congr 1
    simp only [List.any_cons, List.any_nil, Bool.or_false]
    exact decide_eq_decide.mpr ⟨fun h => h.symm, fun h => h.symm⟩
theorem put_len {κ : Type} [DecidableEq κ] {l : List (κ × D)} {k : κ} {v : D} : (putD l k v).length ≤ l.length + 1 := by
  unfold putD
  split <;> simp
/-! ### the table of names -/
def kwW (W : List (List Nat × Int)) : List (Key × D) := W.map fun q => (Sum.inr (sg q.1), D.int q.2)
theorem pairs_W : ∀ W : List (List Nat × Int), pairsT (W.map widD) = some (kwW W)
  | [] => rfl
  | q :: W => by
    rw [List.map_cons]
    show (match keyD (strL q.1), pairsT (W.map widD) with
      | some a, some l => some ((a, D.int q.2) :: l)
      | _, _ => none) = _
    rw [pairs_W W]
    rfl
theorem merge_some : ∀ {l acc : List (Key × D)} {k : Key}, (lookD (mergeD acc l) k).isSome = ((l.any fun q => decide (q.1 = k)) || (lookD acc k).isSome)
  | [], acc, k => rfl
  | q :: l, acc, k => by
    have e : mergeD acc (q :: l) = mergeD (putD acc q.1 q.2) l := rfl
    rw [e, merge_some, look_put, List.any_cons]
    have : decide (k = q.1) = decide (q.1 = k) := decide_eq_decide.mpr ⟨fun h => h.symm, fun h => h.symm⟩
    rw [this]
    cases decide (q.1 = k) <;> cases (l.any fun q => decide (q.1 = k)) <;> rfl
def inW (W : List (List Nat × Int)) (n : List Nat) : Bool := W.any fun q => decide (q.1 = n)
theorem in_dict {W : List (List Nat × Int)} {n : List Nat} {S : Sr} {i : Nat} (h : S.f i = some (.dic (mergeD [] (kwW W)))) : dIn true (strL n) (.adr i) S = .ok (.bl (!inW W n)) S := by
  have e : (lookD (mergeD [] (kwW W)) (Sum.inr (sg n))).isSome = inW W n := by
    rw [merge_some]
    have e0 : (lookD ([] : List (Key × D)) (Sum.inr (sg n))).isSome = false := rfl
    rw [e0, Bool.or_false]
    unfold inW kwW
    rw [List.any_map]
    congr 1
    funext q
    show decide ((Sum.inr (sg q.1) : Key) = Sum.inr (sg n)) = _
    exact decide_eq_decide.mpr ⟨fun h => sg_inj.mp (Sum.inr.inj h), fun h => by rw [h]⟩
  simp [dIn, orF, inSeq, inTxt, inDic, itemsD, dicAt, h, keyD, e]
/-- the table, a name told anew -/
def putP (pl : List (List Nat × Int)) (a : List Nat) (v : Int) : List (List Nat × Int) := if (pl.any fun q => decide (q.1 = a)) = true then pl.map (fun q => if q.1 = a then (q.1, v) else q) else pl ++ [(a, v)]
theorem put_pl {pl : List (List Nat × Int)} {a : List Nat} {v : Int} : putD (plD pl) (Sum.inr (sg a)) (.int v) = plD (putP pl a v) := by
  have key : ∀ q : List Nat × Int, decide ((Sum.inr (sg q.1) : Key) = Sum.inr (sg a)) = decide (q.1 = a) := fun q => decide_eq_decide.mpr ⟨fun h => sg_inj.mp (Sum.inr.inj h), fun h => by rw [h]⟩
  have e : ((plD pl).any fun q => decide (q.1 = Sum.inr (sg a))) = pl.any fun q => decide (q.1 = a) := by
    unfold plD
    rw [List.any_map]
    congr 1
    funext q
    exact key q
  unfold putD putP
  rw [e]
  by_cases h : (pl.any fun q => decide (q.1 = a)) = true
  · rw [if_pos h, if_pos h]
    unfold plD
    rw [List.map_map, List.map_map]
    refine List.map_congr_left fun q _ => ?_
    show (if (Sum.inr (sg q.1) : Key) = Sum.inr (sg a) then _ else _) = _
    by_cases hq : q.1 = a
    · rw [if_pos (by rw [hq])]
      show _ = ((Sum.inr (sg (if q.1 = a then (q.1, v) else q).1) : Key), D.int (if q.1 = a then (q.1, v) else q).2)
      rw [if_pos hq]
    · rw [if_neg (fun z => hq (sg_inj.mp (Sum.inr.inj z)))]
      show _ = ((Sum.inr (sg (if q.1 = a then (q.1, v) else q).1) : Key), D.int (if q.1 = a then (q.1, v) else q).2)
      rw [if_neg hq]
  · rw [if_neg h, if_neg h]
    unfold plD
    rw [List.map_append]
    rfl
/-- the words of a beat -/
def wordR (W : List (List Nat × Int)) : List (List Nat × Int) → List (List Nat) → Option (List (List Nat × Int))
  | pl, [] => some pl
  | pl, w :: r => if inW W (cutT 61 w).1 = true ∧ (cutT 61 w).2.1 ≠ [] then (match numT (cutT 61 w).2.2 with
    | some n => wordR W (putP pl (cutT 61 w).1 n) r
    | none => none) else none
theorem putP_len {pl : List (List Nat × Int)} {a : List Nat} {v : Int} : (putP pl a v).length ≤ pl.length + 1 := by
  unfold putP
  split <;> simp
section
variable {W : List (List Nat × Int)} {rows : List (List Int)} {S S0 : Sr} {iw ir it iL : Nat} {x0 x1 x2 x5 x6 x7 : Option D}
theorem words_loop (a0 : WaveAt S0 iw ir W rows) (ht0 : it < S0.n) (hti : it ≠ iw ∧ it ≠ ir ∧ iL ≠ it) {ws : List (List Nat)} (hL0 : iL < S0.n) (hL : S0.f iL = some (.lst (ws.map strL))) (hws : ∀ w ∈ ws, Sgn w ∧ w.length ≤ 1000) : ∀ (r idx : Nat) (pl : List (List Nat × Int)) (S : Sr) (x8 x9 x10 x11 : Option D), idx + r = ws.length → pl.length + r ≤ 100000 → Fr [it] S0 S → S.f it = some (.dic (plD pl)) →
    (match wordR W pl (ws.drop idx) with
    | some pl' => ∃ S' y8 y9 y10 y11, forG (sqa iL ws.length) (mStep (gNm 8) b_read_wave_L66) r idx [x0, x1, x2, some (.adr iw), some (.adr it), x5, x6, x7, x8, x9, x10, x11] S = .nx [x0, x1, x2, some (.adr iw), some (.adr it), x5, x6, x7, y8, y9, y10, y11] S' ∧ Fr [it] S0 S' ∧ S'.f it = some (.dic (plD pl')) ∧ pl'.length ≤ pl.length + r
    | none => ∃ S', forG (sqa iL ws.length) (mStep (gNm 8) b_read_wave_L66) r idx [x0, x1, x2, some (.adr iw), some (.adr it), x5, x6, x7, x8, x9, x10, x11] S = .ex "RunError" S' ∧ Fr [it] S0 S')
  | 0, idx, pl, S, x8, x9, x10, x11, h, _, fr, ft => by
    rw [List.drop_eq_nil_of_le (by omega)]
    refine ⟨S, x8, x9, x10, x11, fo_end ?_, fr, ft, Nat.le_refl _⟩
    rw [nx_sqa (fr.at hL0 (by simp; omega) hL), List.getElem?_eq_none (by rw [List.length_map]; omega)]
  | r + 1, idx, pl, S, x8, x9, x10, x11, h, hz, fr, ft => by
    have hl : idx < ws.length := by omega
    obtain ⟨hs, hlen⟩ := hws _ (List.getElem_mem hl)
    have en : (sqa iL ws.length).nxt idx S = some (some (strL ws[idx])) := by
      rw [nx_sqa (fr.at hL0 (by simp; omega) hL), List.getElem?_map, List.getElem?_eq_getElem hl]
      rfl
    have lt0 := a0.lt
    have a := a0.mv fr (by simp; omega) (by simp; omega)
    obtain ⟨⟨c1, c2⟩, c3, c4⟩ := cut_ok (s := 61) hs hlen
    have z1 : (sg ws[idx]).length ≤ sizeLine := by rw [sg_len, sizeLine_eq]; omega
    have el2 : (("=" : Str).length == 0) = false := by decide +kernel
    have ep := part_cut (s := 61) (y := ("=" : Str)) (by decide +kernel) ws[idx]
    let C := cutT 61 ws[idx]
    let g : Gm := [x0, x1, x2, some (.adr iw), some (.adr it), x5, x6, x7, some (strL ws[idx]), some (strL C.1), some (strL C.2.1), some (strL C.2.2)]
    have st : mStep (gNm 8) b_read_wave_L66 (strL ws[idx]) [x0, x1, x2, some (.adr iw), some (.adr it), x5, x6, x7, x8, x9, x10, x11] S = b_read_wave_L66 [x0, x1, x2, some (.adr iw), some (.adr it), x5, x6, x7, some (strL ws[idx]), x9, x10, x11] S := rfl
    have e1 : mAsg (mBM "str" fPart (mVar 8) (mCons (mC (.str "=")) mNil)) (gTp 3 (gCn (gNm 9) (gCn (gNm 10) (gCn (gNm 11) gNl)))) [x0, x1, x2, some (.adr iw), some (.adr it), x5, x6, x7, some (strL ws[idx]), x9, x10, x11] S = .nx g S := by
      simp (decide := true) [mSeq, mPass, mBrk, mCnt, mDrop, mRet, mRetN, mIfS, mRaise, mSet, mAsg, mPar, mPar3, mAug, mFld, mFldAug, gNm, gSub', gFld, gNl, gCn, gTp, setA, putFD, mVar, mC, mB, mU, mTB, mAnd, mOr, mNot, mIf, mAndV, mOrV, mNotV, mChain, mNil, mCons, mTup, mLst, mSl, oNo, oE, mCB, fAbs, fMax2, fMin2, fInt, lenD, fLen, fTuple, fList, itemsD, fIsi, tyD, mAttr, mCall, mMeth, mMake, mBM, tyF, SM.bind, SM.pure, toRS, toRSA, toRST, Y.sb, List.lookup, put_f, put_n, alloc_f, alloc_n, put_put, alloc_put, okI, okB, orF, dSub, dFdiv, dMod, dPow, dShl, dShr, dAnd, dOr, dXor, dNeg, dLt, dLe, dGt, dGe, dIs, fPart, z1, el2, ep, g, C]
    have g9 : g[9]? = some (some (strL C.1)) := rfl
    have g3 : g[3]? = some (some (.adr iw)) := rfl
    have g4 : g[4]? = some (some (.adr it)) := rfl
    have g10 : g[10]? = some (some (strL C.2.1)) := rfl
    have g11 : g[11]? = some (some (strL C.2.2)) := rfl
    let S1 : Sr := S.alloc (.dic (mergeD [] (kwW W)))
    have w := a.w
    have ew : mAttr ["Wave"] "widths" (mVar 3) g S = .ok (.gtp (W.map widD)) S := by
      simp (decide := true) [mSeq, mPass, mBrk, mCnt, mDrop, mRet, mRetN, mIfS, mRaise, mSet, mAsg, mPar, mPar3, mAug, mFld, mFldAug, gNm, gSub', gFld, gNl, gCn, gTp, setA, putFD, mVar, mC, mB, mU, mTB, mAnd, mOr, mNot, mIf, mAndV, mOrV, mNotV, mChain, mNil, mCons, mTup, mLst, mSl, oNo, oE, mCB, fAbs, fMax2, fMin2, fInt, lenD, fLen, fTuple, fList, itemsD, fIsi, tyD, mAttr, mCall, mMeth, mMake, mBM, tyF, SM.bind, SM.pure, toRS, toRSA, toRST, Y.sb, List.lookup, put_f, put_n, alloc_f, alloc_n, put_put, alloc_put, okI, okB, orF, dSub, dFdiv, dMod, dPow, dShl, dShr, dAnd, dOr, dXor, dNeg, dLt, dLe, dGt, dGe, dIs, g, w]
    have ed : mCB fDictB (mCons (mAttr ["Wave"] "widths" (mVar 3)) mNil) g S = .ok (.adr S.n) S1 := by
      have : fDictB [.gtp (W.map widD)] S = .ok (.adr S.n) S1 := by
        unfold fDictB
        simp only [pairs_W]
        rfl
      simp only [mCB, mCons, mNil, SM.bind, SM.pure, ew, this]
    have ta : mTB (mB (dIn true) (mVar 9) (mCB fDictB (mCons (mAttr ["Wave"] "widths" (mVar 3)) mNil))) g S = .ok (!inW W C.1) S1 := by
      refine tb_of ?_
      have hi : dIn true (strL C.1) (.adr S.n) S1 = .ok (.bl (!inW W C.1)) S1 := in_dict at_new
      simp only [mB, mVar, SM.bind, g9, ed, hi]
    have cs : Sgn C.2.1 := by
      show Sgn (cutT 61 ws[idx]).2.1
      unfold cutT
      split
      · show Sgn [61]
        exact sgn_of (by decide)
      · exact sgn_nil
    have tb : mTB (mB dEq (mVar 10) (mC (.str ""))) g S1 = .ok (decide (C.2.1 = [])) S1 := by
      refine tb_of ?_
      have ez : Str.ofString "" = sg [] := by rw [sg_str]; decide +kernel
      have e : dEq (strL C.2.1) (strL []) S1 = .ok (.bl (decide (C.2.1 = []))) S1 := by
        rw [eqT cs sgn_nil]
        congr 2
        exact decide_eq_decide.mpr sg_inj
      simp only [mB, mVar, mC, SM.bind, SM.pure, g10, ez, e]
    have f1 : Fr [it] S0 S1 := fr.trans Fr.alloc
    have raise : ∀ S2, mOr (mTB (mB (dIn true) (mVar 9) (mCB fDictB (mCons (mAttr ["Wave"] "widths" (mVar 3)) mNil)))) (mTB (mB dEq (mVar 10) (mC (.str "")))) g S = .ok true S2 → b_read_wave_L66 [x0, x1, x2, some (.adr iw), some (.adr it), x5, x6, x7, some (strL ws[idx]), x9, x10, x11] S = .ex "RunError" S2 := fun S2 h => by
      have eIf : mIfS (mOr (mTB (mB (dIn true) (mVar 9) (mCB fDictB (mCons (mAttr ["Wave"] "widths" (mVar 3)) mNil)))) (mTB (mB dEq (mVar 10) (mC (.str ""))))) (mRaise "RunError") mPass g S = .ex "RunError" S2 := ifs_t h
      exact (sq_nx e1).trans (sq_ex eIf)
    rw [List.drop_eq_getElem_cons hl]
    have ewr : wordR W pl (ws[idx] :: ws.drop (idx + 1)) = if inW W C.1 = true ∧ C.2.1 ≠ [] then (match numT C.2.2 with
      | some n => wordR W (putP pl C.1 n) (ws.drop (idx + 1))
      | none => none) else none := rfl
    rw [ewr]
    cases hi : inW W C.1 with
    | false =>
      rw [hi] at ta
      rw [if_neg (by simp)]
      exact ⟨S1, fo_ex en (st.trans (raise _ (or_t ta))), f1⟩
    | true =>
      rw [hi] at ta
      by_cases hm : C.2.1 = []
      · rw [decide_eq_true hm] at tb
        rw [if_neg (fun q => q.2 hm)]
        exact ⟨S1, fo_ex en (st.trans (raise _ (or_f ta tb))), f1⟩
      · rw [decide_eq_false hm] at tb
        rw [if_pos ⟨rfl, hm⟩]
        have eIf : mIfS (mOr (mTB (mB (dIn true) (mVar 9) (mCB fDictB (mCons (mAttr ["Wave"] "widths" (mVar 3)) mNil)))) (mTB (mB dEq (mVar 10) (mC (.str ""))))) (mRaise "RunError") mPass g S = .nx g S1 := ifs_f (or_f ta tb)
        have en2 := e_num (S := S1) c3 c4
        cases hn : numT C.2.2 with
        | none =>
          have hn' : numT (cutT 61 ws[idx]).2.2 = none := hn
          rw [hn'] at en2
          have en2 : f_number_of_text [strL C.2.2] S1 = .exc "RunError" S1 := en2
          have ea : mAsg (mCall f_number_of_text 1 [] (mCons (mVar 11) mNil)) (gSub' (mVar 4) (mVar 9)) g S1 = .ex "RunError" S1 := by
            simp (decide := true) [mAsg, mCall, mCons, mNil, mVar, SM.bind, SM.pure, g11, en2, toRS]
          exact ⟨S1, fo_ex en (st.trans ((sq_nx e1).trans ((sq_nx eIf).trans ea))), f1⟩
        | some n =>
          have hn' : numT (cutT 61 ws[idx]).2.2 = some n := hn
          rw [hn'] at en2
          have en2 : f_number_of_text [strL C.2.2] S1 = .ok (.int n) S1 := en2
          have hitn : it ≠ S.n := Nat.ne_of_lt (Nat.lt_of_lt_of_le ht0 fr.1)
          have ft1 : S1.f it = some (.dic (plD pl)) := at_old ft (Nat.lt_of_lt_of_le ht0 fr.1)
          have sz : (plD pl).length < sizeLine := by
            unfold plD
            rw [List.length_map, sizeLine_eq]
            omega
          have ea : mAsg (mCall f_number_of_text 1 [] (mCons (mVar 11) mNil)) (gSub' (mVar 4) (mVar 9)) g S1 = .nx g (S1.put it (.dic (plD (putP pl C.1 n)))) := by
            have pp := put_pl (pl := pl) (a := C.1) (v := n)
            simp (decide := true) [mAsg, gSub', mCall, mCons, mNil, mVar, SM.bind, SM.pure, g11, g4, g9, en2, toRS, toRSA, Y.putAt, putSeq, putDic, ft1, sz, keyD, pp]
          have pl1 := putP_len (pl := pl) (a := C.1) (v := n)
          have ih := words_loop a0 ht0 hti hL0 hL hws r (idx + 1) (putP pl C.1 n) (S1.put it (.dic (plD (putP pl C.1 n)))) (some (strL ws[idx])) (some (strL C.1)) (some (strL C.2.1)) (some (strL C.2.2)) (by omega) (by omega) (f1.trans (Fr.put (by simp))) at_put
          have body : b_read_wave_L66 [x0, x1, x2, some (.adr iw), some (.adr it), x5, x6, x7, some (strL ws[idx]), x9, x10, x11] S = .nx g (S1.put it (.dic (plD (putP pl C.1 n)))) := (sq_nx e1).trans ((sq_nx eIf).trans ea)
          dsimp only
          cases hr : wordR W (putP pl C.1 n) (ws.drop (idx + 1)) with
          | none =>
            rw [hr] at ih
            obtain ⟨S', e2, f2⟩ := ih
            exact ⟨S', (fo_nx en (st.trans body)).trans e2, f2⟩
          | some pl' =>
            rw [hr] at ih
            obtain ⟨S', y8, y9, y10, y11, e2, f2, p2, l2⟩ := ih
            exact ⟨S', y8, y9, y10, y11, (fo_nx en (st.trans body)).trans e2, f2, p2, by omega⟩
/-! ### the beats that stay -/
abbrev tW : MT := mTB (mB dLt (mCB fLen (mCons (mAttr ["Wave"] "rows" (mVar 3)) mNil)) (mVar 7))
theorem t_while (a : WaveAt S iw ir W rows) {x4 x8 x9 x10 x11 : Option D} {b : Int} : tW [x0, x1, x2, some (.adr iw), x4, x5, x6, some (.int b), x8, x9, x10, x11] S = .ok (decide ((rows.length : Int) < b)) S := by
  have w := a.w
  have r := a.r
  refine tb_of ?_
  simp (decide := true) [mSeq, mPass, mBrk, mCnt, mDrop, mRet, mRetN, mIfS, mRaise, mSet, mAsg, mPar, mPar3, mAug, mFld, mFldAug, gNm, gSub', gFld, gNl, gCn, gTp, setA, putFD, mVar, mC, mB, mU, mTB, mAnd, mOr, mNot, mIf, mAndV, mOrV, mNotV, mChain, mNil, mCons, mTup, mLst, mSl, oNo, oE, mCB, fAbs, fMax2, fMin2, fInt, lenD, fLen, fTuple, fList, itemsD, fIsi, tyD, mAttr, mCall, mMeth, mMake, mBM, tyF, SM.bind, SM.pure, toRS, toRSA, toRST, Y.sb, List.lookup, put_f, put_n, alloc_f, alloc_n, put_put, alloc_put, okI, okB, orF, dSub, dFdiv, dMod, dPow, dShl, dShr, dAnd, dOr, dXor, dNeg, dLt, dLe, dGt, dGe, dIs, w, r]
def stayR (W pl : List (List Nat × Int)) (rows : List (List Int)) (n : Nat) : Option (List (List Int)) := if n = 0 then some rows else (addR W pl).map fun r => rows ++ List.replicate n r
theorem stay_loop {pl : List (List Nat × Int)} (hw : ∀ q ∈ W, Sgn q.1 ∧ 0 ≤ q.2 ∧ q.2 ≤ 100) (hn : W.length ≤ 1000) (hti : it ≠ iw ∧ it ≠ ir) : ∀ (n k : Nat) (rows : List (List Int)) (S0 S : Sr) (x8 x9 x10 x11 : Option D), n < k → rows.length + n ≤ 200000 → WaveAt S iw ir W rows → it < S.n → S.f it = some (.dic (plD pl)) →
    (match stayR W pl rows n with
    | some rows' => ∃ S', whileG tW b_read_wave_L64 k [x0, x1, x2, some (.adr iw), some (.adr it), x5, x6, some (.int ((rows.length + n : Nat) : Int)), x8, x9, x10, x11] S = .nx [x0, x1, x2, some (.adr iw), some (.adr it), x5, x6, some (.int ((rows.length + n : Nat) : Int)), x8, x9, x10, x11] S' ∧ WaveAt S' iw ir W rows' ∧ Fr [ir] S S'
    | none => ∃ S', whileG tW b_read_wave_L64 k [x0, x1, x2, some (.adr iw), some (.adr it), x5, x6, some (.int ((rows.length + n : Nat) : Int)), x8, x9, x10, x11] S = .ex "RunError" S' ∧ Fr [ir] S S')
  | 0, k + 1, rows, S0, S, x8, x9, x10, x11, _, _, a, hi, ht => by
    have t := t_while (x0 := x0) (x1 := x1) (x2 := x2) (x5 := x5) (x6 := x6) (x4 := some (.adr it)) (x8 := x8) (x9 := x9) (x10 := x10) (x11 := x11) (b := ((rows.length + 0 : Nat) : Int)) a
    rw [decide_eq_false (by omega)] at t
    exact ⟨S, wl_end t, a, Fr.refl⟩
  | n + 1, k + 1, rows, S0, S, x8, x9, x10, x11, hk, hz, a, hi, ht => by
    have t := t_while (x0 := x0) (x1 := x1) (x2 := x2) (x5 := x5) (x6 := x6) (x4 := some (.adr it)) (x8 := x8) (x9 := x9) (x10 := x10) (x11 := x11) (b := ((rows.length + (n + 1) : Nat) : Int)) a
    rw [decide_eq_true (by omega)] at t
    have A := e_add a ht hi hw hn (by omega)
    have w := a.w
    let g : Gm := [x0, x1, x2, some (.adr iw), some (.adr it), x5, x6, some (.int ((rows.length + (n + 1) : Nat) : Int)), x8, x9, x10, x11]
    have lk : List.lookup ("add" : Str) [(("widths" : Str), D.gtp (W.map widD)), ("rows", .adr ir)] = none := by rfl
    unfold stayR
    rw [if_neg (Nat.succ_ne_zero n)]
    cases hA : addR W pl with
    | none =>
      rw [hA] at A
      obtain ⟨S', e, xt⟩ := A
      refine ⟨S', wl_ex t ?_, Xt.fr xt⟩
      unfold b_read_wave_L64
      simp (decide := true) [mSeq, mPass, mBrk, mCnt, mDrop, mRet, mRetN, mIfS, mRaise, mSet, mAsg, mPar, mPar3, mAug, mFld, mFldAug, gNm, gSub', gFld, gNl, gCn, gTp, setA, putFD, mVar, mC, mB, mU, mTB, mAnd, mOr, mNot, mIf, mAndV, mOrV, mNotV, mChain, mNil, mCons, mTup, mLst, mSl, oNo, oE, mCB, fAbs, fMax2, fMin2, fInt, lenD, fLen, fTuple, fList, itemsD, fIsi, tyD, mAttr, mCall, mMeth, mMake, mBM, tyF, SM.bind, SM.pure, toRS, toRSA, toRST, Y.sb, List.lookup, put_f, put_n, alloc_f, alloc_n, put_put, alloc_put, okI, okB, orF, dSub, dFdiv, dMod, dPow, dShl, dShr, dAnd, dOr, dXor, dNeg, dLt, dLe, dGt, dGe, dIs, w, lk, e]
    | some row =>
      rw [hA] at A
      obtain ⟨S', e, a', f⟩ := A
      have body : b_read_wave_L64 g S = .nx g S' := by
        unfold b_read_wave_L64
        simp (decide := true) [mSeq, mPass, mBrk, mCnt, mDrop, mRet, mRetN, mIfS, mRaise, mSet, mAsg, mPar, mPar3, mAug, mFld, mFldAug, gNm, gSub', gFld, gNl, gCn, gTp, setA, putFD, mVar, mC, mB, mU, mTB, mAnd, mOr, mNot, mIf, mAndV, mOrV, mNotV, mChain, mNil, mCons, mTup, mLst, mSl, oNo, oE, mCB, fAbs, fMax2, fMin2, fInt, lenD, fLen, fTuple, fList, itemsD, fIsi, tyD, mAttr, mCall, mMeth, mMake, mBM, tyF, SM.bind, SM.pure, toRS, toRSA, toRST, Y.sb, List.lookup, put_f, put_n, alloc_f, alloc_n, put_put, alloc_put, okI, okB, orF, dSub, dFdiv, dMod, dPow, dShl, dShr, dAnd, dOr, dXor, dNeg, dLt, dLe, dGt, dGe, dIs, g, w, lk, e]
      have ih := stay_loop hw hn hti n k (rows ++ [row]) S0 S' x8 x9 x10 x11 (by omega) (by rw [List.length_append, List.length_singleton]; omega) a' (Nat.lt_of_lt_of_le hi f.1) (f.at hi (by simp; omega) ht)
      have el : (rows ++ [row]).length + n = rows.length + (n + 1) := by rw [List.length_append, List.length_singleton]; omega
      rw [el] at ih
      unfold stayR at ih
      rw [hA] at ih
      by_cases h0 : n = 0
      · rw [if_pos h0] at ih
        obtain ⟨S2, e2, a2, f2⟩ := ih
        refine ⟨S2, (wl_nx t body).trans e2, ?_, f.trans f2⟩
        subst h0
        exact a2
      · rw [if_neg h0] at ih
        obtain ⟨S2, e2, a2, f2⟩ := ih
        refine ⟨S2, (wl_nx t body).trans e2, ?_, f.trans f2⟩
        have : rows ++ [row] ++ List.replicate n row = rows ++ List.replicate (n + 1) row := by
          rw [List.append_assoc]
          rfl
        show WaveAt S2 iw ir W (rows ++ List.replicate (n + 1) row)
        rw [← this]
        exact a2
end
end K18

set_option Elab.async false
set_option linter.all false
set_option maxRecDepth 100000
set_option maxHeartbeats 4000000
namespace K18
open PySem PySem.Spec PyProof.Rows L2 Y TL
/-! ### rows of whole numbers -/
def pyV (r : List Int) : PyData := .tuple (r.map PyData.int)
theorem py_val {S : Sr} {k : Nat} (r : List Int) : toPy S (k + 2) (valD r) = some (pyV r) := by
  show (mapO (toPy S (k + 1)) (r.map D.int)).map PyData.tuple = _
  rw [mapO_map (f := toPy S (k + 1)) (g := D.int) (h := PyData.int) (fun r => rfl)]
  rfl
theorem py_vals {S : Sr} {a : Nat} {l : List (List Int)} (h : S.f a = some (.lst (l.map valD))) : toPy S 9 (.adr a) = some (.list (l.map pyV)) := by
  show (match S.f a with
    | some (.lst l) => (mapO (toPy S 8) l).map PyData.list
    | _ => none) = _
  rw [h]
  show (mapO (toPy S 8) (l.map valD)).map PyData.list = _
  rw [mapO_map (f := toPy S 8) (g := valD) (h := pyV) (fun r => py_val r)]
  rfl
theorem lay_is : ∀ l : List Int, PyData.canLayAll0 (l.map PyData.int) = true ∧ PyData.depthAll (l.map PyData.int) = 0
  | [] => ⟨rfl, rfl⟩
  | i :: l => by
    obtain ⟨h1, h2⟩ := lay_is l
    refine ⟨?_, ?_⟩
    · show (true && PyData.canLayAll0 (l.map PyData.int)) = true
      rw [h1]
      rfl
    · show max 0 (PyData.depthAll (l.map PyData.int)) = 0
      rw [h2]
      rfl
theorem lay_vals : ∀ l : List (List Int), PyData.canLayAll0 (l.map pyV) = true ∧ PyData.depthAll (l.map pyV) ≤ 1
  | [] => ⟨rfl, by show (0 : Nat) ≤ 1; omega⟩
  | r :: l => by
    obtain ⟨h1, h2⟩ := lay_vals l
    obtain ⟨q1, q2⟩ := lay_is r
    refine ⟨?_, ?_⟩
    · show (PyData.canLayAll0 (r.map PyData.int) && PyData.canLayAll0 (l.map pyV)) = true
      rw [h1, q1]
      rfl
    · show max (PyData.depthAll (r.map PyData.int) + 1) (PyData.depthAll (l.map pyV)) ≤ 1
      rw [q2]
      omega
theorem shaped_vals {l : List (List Int)} : SeqAt.shaped (.list (l.map pyV)) = true := by
  obtain ⟨h1, h2⟩ := lay_vals l
  unfold SeqAt.shaped
  have e1 : PyData.canLay0 (.list (l.map pyV)) = true := h1
  have e2 : PyData.depth (.list (l.map pyV)) = PyData.depthAll (l.map pyV) + 1 := rfl
  rw [e1, e2, Bool.true_and]
  exact decide_eq_true (by omega)
theorem eq_nilV {S : Sr} {i j : Nat} {l : List (List Int)} (h : S.f i = some (.lst (l.map valD))) (h2 : S.f j = some (.lst [])) : dEq (.adr i) (.adr j) S = .ok (.bl l.isEmpty) S := by
  rw [ev_eqP (py_vals h) (py_vals (l := []) h2) shaped_vals (shaped_vals (l := []))]
  show R.ok (D.bl (PyData.eqv (.list (l.map pyV)) (.list []))) S = _
  rw [eqv_nil]
  cases l <;> rfl
theorem ne_vals {S : Sr} {a b : Nat} {l : List (List Int)} (h : S.f a = some (.lst (l.map valD))) (h2 : S.f b = some (.lst (l.map valD))) : dNe (.adr a) (.adr b) S = .ok (.bl false) S := ne_refl2 (py_vals h) (py_vals h2) shaped_vals
/-! ### a beat's line -/
theorem starts_hash (l : List Nat) : Txt.startswith (sg l) ("#" : Str) = decide (l.head? = some 35) := by
  have e : ("#" : Str) = ⟨#[35]⟩ := by decide +kernel
  have h := PySem.StrLaws.subAt_one (sg l) 35 0
  rw [e, Bool.eq_iff_iff, decide_eq_true_iff]
  unfold Txt.startswith
  have l1 : (⟨#[35]⟩ : Str).length = 1 := rfl
  rw [Bool.and_eq_true, decide_eq_true_iff, l1]
  rw [l1] at h
  rw [sg_len]
  rw [show l.head? = (tl (sg l))[0]? from by rw [tl_sg]; cases l <;> rfl]
  constructor
  · rintro ⟨a, b⟩
    exact h.mp ⟨by rw [sg_len]; omega, b⟩
  · intro a
    obtain ⟨p, q⟩ := h.mpr a
    rw [sg_len] at p
    exact ⟨by omega, q⟩
theorem cut_first (l : List Nat) : cutS (sg l) (some 1) none = sg (l.drop 1) := by
  unfold cutS
  have e1 : HT.sIx (sg l).length 0 (some 1) = min 1 l.length := by
    rw [sg_len]
    show (if (1 : Int) < 0 then ((1 : Int) + (l.length : Int)).toNat else min (1 : Int).toNat l.length) = _
    rw [if_neg (by decide)]
    rfl
  have e2 : HT.sIx (sg l).length (sg l).length none = l.length := by rw [sg_len]; rfl
  rw [e1, e2]
  cases l with
  | nil => rfl
  | cons c r =>
    have : min 1 (c :: r).length = 1 := by rw [List.length_cons]; omega
    rw [this]
    show (⟨_⟩ : Str) = ⟨_⟩
    congr 1
    show (List.take ((c :: r).length - 1) (List.drop 1 (c :: r))).toArray = _
    rw [List.take_of_length_le (by rw [List.length_drop]; exact Nat.le_refl _)]
def beatN (ws : List (List Nat)) : Option Int := if (ws.headD []).head? = some 35 then numT ((ws.headD []).drop 1) else some (-1)
def lineR (W : List (List Nat × Int)) (rows : List (List Int)) (pl : List (List Nat × Int)) (line : List Nat) : Option (List (List Int) × List (List Nat × Int)) := match beatN (spl [32] 0 [] line) with
  | none => none
  | some b => if b < (rows.length : Int) ∨ 100000 < b ∨ (0 < b ∧ rows = []) then none else match stayR W pl rows (b - (rows.length : Int)).toNat with
    | none => none
    | some rows1 => match wordR W pl ((spl [32] 0 [] line).drop 1) with
      | none => none
      | some pl' => match addR W pl' with
        | none => none
        | some row => some (rows1 ++ [row], pl')
theorem spl_sub {s : Nat} : ∀ (l acc : List Nat) {P : Nat → Prop}, (∀ c ∈ acc, P c) → (∀ c ∈ l, P c) → spl [s] 0 acc l ≠ [] ∧ (∀ w ∈ spl [s] 0 acc l, (∀ c ∈ w, P c) ∧ w.length ≤ acc.length + l.length) ∧ (spl [s] 0 acc l).length ≤ l.length + 1
  | [], acc, P, h1, _ => by
    rw [spl_nil]
    exact ⟨by simp, fun w hw => by rw [List.mem_singleton.mp hw]; exact ⟨h1, Nat.le_refl _⟩, Nat.le_refl _⟩
  | c :: r, acc, P, h1, h2 => by
    have hr : ∀ d ∈ r, P d := fun d hd => h2 d (List.mem_cons_of_mem _ hd)
    cases hp : pre [s] (c :: r) with
    | true =>
      rw [spl_hit hp]
      have e0 : ([s] : List Nat).length - 1 = 0 := rfl
      rw [e0]
      obtain ⟨i1, i2, i3⟩ := spl_sub (s := s) r [] (P := P) (fun c h => nomatch h) hr
      refine ⟨by simp, fun w hw => ?_, by rw [List.length_cons, List.length_cons]; omega⟩
      rcases List.mem_cons.mp hw with rfl | hw
      · exact ⟨h1, Nat.le_add_right _ _⟩
      · obtain ⟨j1, j2⟩ := i2 w hw
        refine ⟨j1, ?_⟩
        rw [List.length_nil] at j2
        rw [List.length_cons]
        omega
    | false =>
      rw [spl_miss hp]
      obtain ⟨i1, i2, i3⟩ := spl_sub (s := s) r (acc ++ [c]) (P := P) (fun d hd => by
        rcases List.mem_append.mp hd with hd | hd
        · exact h1 d hd
        · rw [List.mem_singleton.mp hd]
          exact h2 c List.mem_cons_self) hr
      refine ⟨i1, fun w hw => ?_, by rw [List.length_cons]; omega⟩
      obtain ⟨j1, j2⟩ := i2 w hw
      refine ⟨j1, ?_⟩
      rw [List.length_append, List.length_singleton] at j2
      rw [List.length_cons]
      omega
theorem split_of {x : List Nat} {y : Str} {s : Nat} (hy : tl y = [s]) (hk : y.cps.all (· < 256) = true) : (Txt.split (sg x) y).map D.str = (spl [s] 0 [] x).map strL := by
  have h1 := split_spl (sg x) y (by rw [hy]; simp) (kind_ok hk)
  rw [hy, tl_sg] at h1
  rw [← h1, List.map_map]
  congr 1
theorem cutD_1 {l : List D} : Y.cutD l (some 1) none = l.drop 1 := by
  have e1 : HT.sIx l.length 0 (some 1) = min 1 l.length := by
    show (if (1 : Int) < 0 then ((1 : Int) + (l.length : Int)).toNat else min (1 : Int).toNat l.length) = _
    rw [if_neg (by decide)]
    rfl
  have e2 : HT.sIx l.length l.length none = l.length := rfl
  unfold Y.cutD
  rw [e1, e2]
  cases l with
  | nil => rfl
  | cons c r =>
    have : min 1 (c :: r).length = 1 := by rw [List.length_cons]; omega
    rw [this, List.take_of_length_le (by rw [List.length_drop]; exact Nat.le_refl _)]
section
variable {W : List (List Nat × Int)} {rows : List (List Int)} {pl : List (List Nat × Int)} {S : Sr} {iw ir it : Nat} {x0 x1 x2 x5 x6 x7 x8 x9 x10 x11 : Option D} {line : List Nat}
theorem line_step (a : WaveAt S iw ir W rows) (ht : S.f it = some (.dic (plD pl))) (hi : it < S.n) (hti : it ≠ iw ∧ it ≠ ir) (hw : ∀ q ∈ W, Sgn q.1 ∧ 0 ≤ q.2 ∧ q.2 ≤ 100) (hn : W.length ≤ 1000) (hs : Sgn line) (hl : line.length ≤ 1000) (hr : rows.length ≤ 150000) (hp : pl.length ≤ 90000) :
    match lineR W rows pl line with
    | some (rows', pl') => ∃ S' y5 y6 y7 y8 y9 y10 y11, mStep (gNm 5) b_read_wave_L59 (strL line) [x0, x1, x2, some (.adr iw), some (.adr it), x5, x6, x7, x8, x9, x10, x11] S = .nx [x0, x1, x2, some (.adr iw), some (.adr it), y5, y6, y7, y8, y9, y10, y11] S' ∧ WaveAt S' iw ir W rows' ∧ S'.f it = some (.dic (plD pl')) ∧ Fr [it, ir] S S' ∧ pl'.length ≤ pl.length + 1001 ∧ rows'.length ≤ max rows.length 100000 + 1
    | none => ∃ S', mStep (gNm 5) b_read_wave_L59 (strL line) [x0, x1, x2, some (.adr iw), some (.adr it), x5, x6, x7, x8, x9, x10, x11] S = .ex "RunError" S' ∧ Fr [it, ir] S S' := by
  have z0 : 0 ≤ sizeLine := Nat.zero_le _
  obtain ⟨sn, sw, sc⟩ := spl_sub (s := 32) line [] (P := fun c => c < 0x110000) (fun c h => nomatch h) hs
  let ws := spl [32] 0 [] line
  obtain ⟨w0, wr, hws⟩ : ∃ w0 wr, spl [32] 0 [] line = w0 :: wr := by
    cases h : spl [32] 0 [] line with
    | nil => exact absurd h sn
    | cons a b => exact ⟨a, b, rfl⟩
  rw [List.length_nil] at sw
  rw [hws] at sw sc
  have sw0 := sw w0 List.mem_cons_self
  let S1 : Sr := S.alloc (.lst ((w0 :: wr).map strL))
  let iL := S.n
  have st : mStep (gNm 5) b_read_wave_L59 (strL line) [x0, x1, x2, some (.adr iw), some (.adr it), x5, x6, x7, x8, x9, x10, x11] S = b_read_wave_L59 [x0, x1, x2, some (.adr iw), some (.adr it), some (strL line), x6, x7, x8, x9, x10, x11] S := rfl
  have zx : (sg line).length + 2 ≤ sizeLine := by rw [sg_len, sizeLine_eq]; omega
  have eb : ((" " : Str).length == 0) = false := by decide +kernel
  have es := split_of (x := line) (y := (" " : Str)) (s := 32) (by decide +kernel) (by decide +kernel)
  rw [hws] at es
  have e1 : mSet 6 (mBM "str" fSplit (mVar 5) (mCons (mC (.str " ")) mNil)) [x0, x1, x2, some (.adr iw), some (.adr it), some (strL line), x6, x7, x8, x9, x10, x11] S = .nx [x0, x1, x2, some (.adr iw), some (.adr it), some (strL line), some (.adr iL), x7, x8, x9, x10, x11] S1 := by
    have ef : fSplit (strL line) [.str " "] S = .ok (.adr S.n) S1 := by
      unfold fSplit
      simp only [eb, zx, and_self, if_true, es]
      rfl
    simp (decide := true) [mSet, mBM, mVar, mCons, mC, mNil, SM.bind, SM.pure, tyF, ef, toRS, setA]
    rfl
  let g1 : Gm := [x0, x1, x2, some (.adr iw), some (.adr it), some (strL line), some (.adr iL), x7, x8, x9, x10, x11]
  have L1 : S1.f iL = some (.lst ((w0 :: wr).map strL)) := at_new
  have i0 : dIx (.adr iL) (.int 0) S1 = .ok (strL w0) S1 := ixL0 (l := wr.map strL) (by rw [L1]; rfl)
  have ew0 : mB dIx (mVar 6) (mC (.int 0)) g1 S1 = .ok (strL w0) S1 := by
    have g6 : g1[6]? = some (some (.adr iL)) := rfl
    simp only [mB, mVar, mC, SM.bind, SM.pure, g6, i0]
  have ets : mTB (mBM "str" (fTxB Txt.startswith) (mB dIx (mVar 6) (mC (.int 0))) (mCons (mC (.str "#")) mNil)) g1 S1 = .ok (decide (w0.head? = some 35)) S1 := by
    refine tb_of ?_
    have h := starts_hash w0
    have ty : tyF "str" (strL w0) S1 = true := rfl
    simp only [mBM, mCons, mC, mNil, SM.bind, SM.pure, ew0, ty, if_true, fTxB, h]
  have bn : beatN (spl [32] 0 [] line) = if w0.head? = some 35 then numT (w0.drop 1) else some (-1) := by
    rw [hws]
    rfl
  have eb2 : mIf (mTB (mBM "str" (fTxB Txt.startswith) (mB dIx (mVar 6) (mC (.int 0))) (mCons (mC (.str "#")) mNil))) (mCall f_number_of_text 1 [] (mCons (mSl slD (mB dIx (mVar 6) (mC (.int 0))) (oE (mC (.int 1))) oNo) mNil)) (mB dSub (mC (.int 0)) (mC (.int 1))) g1 S1 = (match beatN (spl [32] 0 [] line) with
    | some b => .ok (.int b) S1
    | none => .exc "RunError" S1) := by
    rw [bn]
    unfold mIf SM.bind
    rw [ets]
    dsimp only
    by_cases hh : w0.head? = some 35
    · rw [if_pos hh, decide_eq_true hh, if_pos rfl]
      have z1 : (sg w0).length ≤ sizeLine := by rw [sg_len, sizeLine_eq]; have := sw0.2; omega
      have cf := cut_first w0
      have en := e_num (t := w0.drop 1) (S := S1) (fun c hc => sw0.1 c (List.mem_of_mem_drop hc)) (by rw [List.length_drop]; have := sw0.2; omega)
      have esl : mSl slD (mB dIx (mVar 6) (mC (.int 0))) (oE (mC (.int 1))) oNo g1 S1 = .ok (strL (w0.drop 1)) S1 := by
        have : slD (strL w0) (some 1) none S1 = .ok (strL (w0.drop 1)) S1 := by
          show (if (sg w0).length ≤ sizeLine then R.ok (D.str (cutS (sg w0) (some 1) none)) S1 else .bad) = _
          rw [if_pos z1, cf]
        simp only [mSl, oE, oNo, mC, SM.bind, SM.pure, ew0, this]
      have ec : mCall f_number_of_text 1 [] (mCons (mSl slD (mB dIx (mVar 6) (mC (.int 0))) (oE (mC (.int 1))) oNo) mNil) g1 S1 = f_number_of_text [strL (w0.drop 1)] S1 := by
        simp (decide := true) only [mCall, mCons, mNil, SM.bind, SM.pure, esl, List.length_cons, List.length_nil, if_true, List.append_nil]
      rw [ec, en]
      try (cases numT (w0.drop 1) <;> rfl)
    · rw [if_neg hh, decide_eq_false hh, if_neg Bool.false_ne_true]
      rfl
  have f1 : Fr [it, ir] S S1 := Fr.alloc
  unfold lineR
  cases hb : beatN (spl [32] 0 [] line) with
  | none =>
    rw [hb] at eb2
    refine ⟨S1, st.trans ((sq_nx e1).trans (sq_ex ?_)), f1⟩
    unfold mSet toRS
    rw [eb2]
  | some b =>
    rw [hb] at eb2
    dsimp only
    let g2 : Gm := [x0, x1, x2, some (.adr iw), some (.adr it), some (strL line), some (.adr iL), some (.int b), x8, x9, x10, x11]
    have e2 : mSet 7 (mIf (mTB (mBM "str" (fTxB Txt.startswith) (mB dIx (mVar 6) (mC (.int 0))) (mCons (mC (.str "#")) mNil))) (mCall f_number_of_text 1 [] (mCons (mSl slD (mB dIx (mVar 6) (mC (.int 0))) (oE (mC (.int 1))) oNo) mNil)) (mB dSub (mC (.int 0)) (mC (.int 1)))) g1 S1 = .nx g2 S1 := by
      unfold mSet toRS
      rw [eb2]
      rfl
    have xa : Xt S S1 := Xt.alloc
    have a1 := a.xt xa
    have w1 := a1.w
    have r1 := a1.r
    have ht1 : S1.f it = some (.dic (plD pl)) := xa.at_ ht hi
    have g7 : g2[7]? = some (some (.int b)) := rfl
    have elen : mCB fLen (mCons (mAttr ["Wave"] "rows" (mVar 3)) mNil) g2 S1 = .ok (.int (rows.length : Nat)) S1 := by
      have e1 : mAttr ["Wave"] "rows" (mVar 3) g2 S1 = .ok (.adr ir) S1 := by
        have h0 : mVar 3 g2 S1 = .ok (.adr iw) S1 := rfl
        unfold mAttr
        simp (decide := true) [SM.bind, h0, w1, List.lookup, Y.sb]
      have e2 : fLen [.adr ir] S1 = .ok (.int (rows.length : Nat)) S1 := by
        simp [fLen, lenD, r1]
      simp only [mCB, mCons, mNil, SM.bind, SM.pure, e1, e2]
    have t1 : mTB (mB dLt (mVar 7) (mCB fLen (mCons (mAttr ["Wave"] "rows" (mVar 3)) mNil))) g2 S1 = .ok (decide (b < (rows.length : Int))) S1 := by
      refine tb_of ?_
      simp only [mB, mVar, SM.bind, g7, elen, dLt, okB]
    have t2 : mTB (mB dGt (mVar 7) (mC (.int 100000))) g2 S1 = .ok (decide (100000 < b)) S1 := by
      refine tb_of ?_
      simp only [mB, mVar, mC, SM.bind, SM.pure, g7, dGt, okB]
    have t3 : mTB (mB dGt (mVar 7) (mC (.int 0))) g2 S1 = .ok (decide (0 < b)) S1 := by
      refine tb_of ?_
      simp only [mB, mVar, mC, SM.bind, SM.pure, g7, dGt, okB]
    let S1' : Sr := S1.alloc (.lst [])
    have t4 : mTB (mB dEq (mAttr ["Wave"] "rows" (mVar 3)) (mLst mNil)) g2 S1 = .ok rows.isEmpty S1' := by
      refine tb_of ?_
      have e1 : mAttr ["Wave"] "rows" (mVar 3) g2 S1 = .ok (.adr ir) S1 := by
        have h0 : mVar 3 g2 S1 = .ok (.adr iw) S1 := rfl
        unfold mAttr
        simp (decide := true) [SM.bind, h0, w1, List.lookup, Y.sb]
      have el : mLst mNil g2 S1 = .ok (.adr S1.n) S1' := by simp [mLst, mNil, SM.bind, SM.pure, z0, S1']
      have eq := eq_nilV (i := ir) (j := S1.n) (S := S1') (at_old r1 a1.lt.2.1) at_new
      simp only [mB, SM.bind, e1, el, eq]
    let mT : MT := mOr (mTB (mB dLt (mVar 7) (mCB fLen (mCons (mAttr ["Wave"] "rows" (mVar 3)) mNil)))) (mOr (mTB (mB dGt (mVar 7) (mC (.int 100000)))) (mAnd (mTB (mB dGt (mVar 7) (mC (.int 0)))) (mTB (mB dEq (mAttr ["Wave"] "rows" (mVar 3)) (mLst mNil)))))
    have raise : ∀ Sx, mT g2 S1 = .ok true Sx → mStep (gNm 5) b_read_wave_L59 (strL line) [x0, x1, x2, some (.adr iw), some (.adr it), x5, x6, x7, x8, x9, x10, x11] S = .ex "RunError" Sx := fun Sx h => by
      have eIf : mIfS mT (mRaise "RunError") mPass g2 S1 = .ex "RunError" Sx := ifs_t h
      exact st.trans ((sq_nx e1).trans ((sq_nx e2).trans (sq_ex eIf)))
    -- behind the test
    have cont : ∀ Sx, Xt S1 Sx → mT g2 S1 = .ok false Sx → ¬ (b < (rows.length : Int)) → ¬ 100000 < b →
        match (match stayR W pl rows (b - (rows.length : Int)).toNat with
          | none => none
          | some rows1 => match wordR W pl ((spl [32] 0 [] line).drop 1) with
            | none => none
            | some pl' => match addR W pl' with
              | none => none
              | some row => some (rows1 ++ [row], pl')) with
        | some (rows', pl') => ∃ S' y5 y6 y7 y8 y9 y10 y11, mStep (gNm 5) b_read_wave_L59 (strL line) [x0, x1, x2, some (.adr iw), some (.adr it), x5, x6, x7, x8, x9, x10, x11] S = .nx [x0, x1, x2, some (.adr iw), some (.adr it), y5, y6, y7, y8, y9, y10, y11] S' ∧ WaveAt S' iw ir W rows' ∧ S'.f it = some (.dic (plD pl')) ∧ Fr [it, ir] S S' ∧ pl'.length ≤ pl.length + 1001 ∧ rows'.length ≤ max rows.length 100000 + 1
        | none => ∃ S', mStep (gNm 5) b_read_wave_L59 (strL line) [x0, x1, x2, some (.adr iw), some (.adr it), x5, x6, x7, x8, x9, x10, x11] S = .ex "RunError" S' ∧ Fr [it, ir] S S' := by
      intro Sx xs hT nb1 nb2
      have ax := a1.xt xs
      have htx := xs.at_ ht1 (Nat.lt_of_lt_of_le hi xa.le)
      have hix : it < Sx.n := Nat.lt_of_lt_of_le hi (Nat.le_trans xa.le xs.le)
      have Lx := xs.at_ L1 (show S.n < S.n + 1 by omega)
      have lLx : iL < Sx.n := Nat.lt_of_lt_of_le (show S.n < S.n + 1 by omega) xs.le
      have frx : Fr [it, ir] S Sx := Xt.fr (xa.trans xs)
      have eIf : mIfS mT (mRaise "RunError") mPass g2 S1 = .nx g2 Sx := ifs_f hT
      have bn2 : b = ((rows.length + (b - (rows.length : Int)).toNat : Nat) : Int) := by omega
      have pre : ∀ Z, (mSeq (whileG tW b_read_wave_L64 FU) (mSeq (mFor (mSrc (mSl slD (mVar 6) (oE (mC (.int 1))) oNo)) (gNm 8) b_read_wave_L66) (mDrop (mMeth "Wave" "add" f_Wave_add 2 [] (mVar 3) (mCons (mVar 4) mNil))))) g2 Sx = Z → mStep (gNm 5) b_read_wave_L59 (strL line) [x0, x1, x2, some (.adr iw), some (.adr it), x5, x6, x7, x8, x9, x10, x11] S = Z := fun Z h => st.trans ((sq_nx e1).trans ((sq_nx e2).trans ((sq_nx eIf).trans h)))
      have B := stay_loop (it := it) (pl := pl) (x0 := x0) (x1 := x1) (x2 := x2) (x5 := some (strL line)) (x6 := some (.adr iL)) hw hn hti (b - (rows.length : Int)).toNat FU rows Sx Sx x8 x9 x10 x11 (by unfold FU; omega) (by omega) ax hix htx
      rw [← bn2] at B
      cases hst : stayR W pl rows (b - (rows.length : Int)).toNat with
      | none =>
        rw [hst] at B
        obtain ⟨S2, e3, f3⟩ := B
        exact ⟨S2, pre _ (sq_ex e3), frx.trans (f3.weak (by simp))⟩
      | some rows1 =>
        rw [hst] at B
        obtain ⟨S2, e3, a3, f3⟩ := B
        have L2 := f3.at lLx (by simp; have := a.lt; omega) Lx
        have lL2 : iL < S2.n := Nat.lt_of_lt_of_le lLx f3.1
        have ht2 := f3.at hix (by simp; omega) htx
        have hi2 : it < S2.n := Nat.lt_of_lt_of_le hix f3.1
        let S3 : Sr := S2.alloc (.lst (wr.map strL))
        have esl : mSrc (mSl slD (mVar 6) (oE (mC (.int 1))) oNo) g2 S2 = .ok (sqa S2.n wr.length) S3 := by
          have g6 : g2[6]? = some (some (.adr iL)) := rfl
          have : slD (.adr iL) (some 1) none S2 = .ok (.adr S2.n) S3 := by
            show (match S2.f iL with
              | some (.lst l) => R.ok (D.adr S2.n) (S2.alloc (.lst (Y.cutD l (some 1) none)))
              | _ => .bad) = _
            rw [L2]
            dsimp only
            rw [cutD_1]
            rfl
          have h3 : S3.f S2.n = some (.lst (wr.map strL)) := at_new
          simp [mSrc, mSl, oE, oNo, mC, mVar, SM.bind, SM.pure, g6, this, mSrcD, h3]
        have a4 := a3.xt (Xt.alloc (S := S2) (x := .lst (wr.map strL)))
        have ht3 : S3.f it = some (.dic (plD pl)) := at_old ht2 hi2
        have Wd := words_loop (x0 := x0) (x1 := x1) (x2 := x2) (x5 := some (strL line)) (x6 := some (.adr iL)) (x7 := some (.int b)) (iL := S2.n) a4 (Nat.lt_succ_of_lt hi2) ⟨hti.1, hti.2, by omega⟩ (ws := wr) (Nat.lt_succ_self _) at_new (fun w hw => ⟨(sw w (List.mem_cons_of_mem _ hw)).1, by have := (sw w (List.mem_cons_of_mem _ hw)).2; omega⟩) wr.length 0 pl S3 x8 x9 x10 x11 (Nat.zero_add _) (by rw [List.length_cons] at sc; omega) Fr.refl ht3
        rw [List.drop_zero] at Wd
        have hdr : (spl [32] 0 [] line).drop 1 = wr := by rw [hws]; rfl
        rw [hdr]
        have fr3 : Fr [it, ir] S S3 := (frx.trans (f3.weak (by simp))).trans Fr.alloc
        dsimp only
        cases hwr : wordR W pl wr with
        | none =>
          rw [hwr] at Wd
          obtain ⟨S4, e4, f4⟩ := Wd
          refine ⟨S4, pre _ ((sq_nx e3).trans (sq_ex ((mFor_of esl).trans e4))), fr3.trans (f4.weak (by simp))⟩
        | some pl' =>
          rw [hwr] at Wd
          obtain ⟨S4, y8, y9, y10, y11, e4, f4, p4, l4⟩ := Wd
          have a5 := a4.mv f4 (by simp; omega) (by simp; omega)
          have rl : rows1.length ≤ max rows.length 100000 := by
            unfold stayR at hst
            split at hst
            · cases hst
              omega
            · rw [Option.map_eq_some_iff] at hst
              obtain ⟨r0, _, rfl⟩ := hst
              rw [List.length_append, List.length_replicate]
              omega
          have A := e_add a5 p4 (Nat.lt_of_lt_of_le (Nat.lt_succ_of_lt hi2) f4.1) hw hn (by omega)
          have w5 := a5.w
          let g4 : Gm := [x0, x1, x2, some (.adr iw), some (.adr it), some (strL line), some (.adr iL), some (.int b), y8, y9, y10, y11]
          have lk : List.lookup ("add" : Str) [(("widths" : Str), D.gtp (W.map widD)), ("rows", .adr ir)] = none := by rfl
          have fr4 := fr3.trans (f4.weak (l' := [it, ir]) (by simp))
          dsimp only
          cases hA : addR W pl' with
          | none =>
            rw [hA] at A
            obtain ⟨S5, e5, xt⟩ := A
            refine ⟨S5, pre _ ((sq_nx e3).trans ((sq_nx ((mFor_of esl).trans e4)).trans ?_)), fr4.trans (Xt.fr xt)⟩
            simp (decide := true) [mSeq, mPass, mBrk, mCnt, mDrop, mRet, mRetN, mIfS, mRaise, mSet, mAsg, mPar, mPar3, mAug, mFld, mFldAug, gNm, gSub', gFld, gNl, gCn, gTp, setA, putFD, mVar, mC, mB, mU, mTB, mAnd, mOr, mNot, mIf, mAndV, mOrV, mNotV, mChain, mNil, mCons, mTup, mLst, mSl, oNo, oE, mCB, fAbs, fMax2, fMin2, fInt, lenD, fLen, fTuple, fList, itemsD, fIsi, tyD, mAttr, mCall, mMeth, mMake, mBM, tyF, SM.bind, SM.pure, toRS, toRSA, toRST, Y.sb, List.lookup, put_f, put_n, alloc_f, alloc_n, put_put, alloc_put, okI, okB, orF, dSub, dFdiv, dMod, dPow, dShl, dShr, dAnd, dOr, dXor, dNeg, dLt, dLe, dGt, dGe, dIs, w5, lk, e5]
          | some row =>
            rw [hA] at A
            obtain ⟨S5, e5, a6, f5⟩ := A
            have body : mDrop (mMeth "Wave" "add" f_Wave_add 2 [] (mVar 3) (mCons (mVar 4) mNil)) g4 S4 = .nx g4 S5 := by
              simp (decide := true) [mSeq, mPass, mBrk, mCnt, mDrop, mRet, mRetN, mIfS, mRaise, mSet, mAsg, mPar, mPar3, mAug, mFld, mFldAug, gNm, gSub', gFld, gNl, gCn, gTp, setA, putFD, mVar, mC, mB, mU, mTB, mAnd, mOr, mNot, mIf, mAndV, mOrV, mNotV, mChain, mNil, mCons, mTup, mLst, mSl, oNo, oE, mCB, fAbs, fMax2, fMin2, fInt, lenD, fLen, fTuple, fList, itemsD, fIsi, tyD, mAttr, mCall, mMeth, mMake, mBM, tyF, SM.bind, SM.pure, toRS, toRSA, toRST, Y.sb, List.lookup, put_f, put_n, alloc_f, alloc_n, put_put, alloc_put, okI, okB, orF, dSub, dFdiv, dMod, dPow, dShl, dShr, dAnd, dOr, dXor, dNeg, dLt, dLe, dGt, dGe, dIs, w5, lk, e5, g4]
            refine ⟨S5, _, _, _, y8, y9, y10, y11, pre _ ((sq_nx e3).trans ((sq_nx ((mFor_of esl).trans e4)).trans body)), a6, f5.at (Nat.lt_of_lt_of_le (Nat.lt_succ_of_lt hi2) f4.1) (by simp; omega) p4, fr4.trans (f5.weak (by simp)), by rw [List.length_cons] at sc; omega, by rw [List.length_append, List.length_singleton]; omega⟩
    by_cases c1 : b < (rows.length : Int)
    · rw [decide_eq_true c1] at t1
      rw [if_pos (.inl c1)]
      exact ⟨S1, raise _ (or_t t1), f1⟩
    · rw [decide_eq_false c1] at t1
      by_cases c2 : 100000 < b
      · rw [decide_eq_true c2] at t2
        rw [if_pos (.inr (.inl c2))]
        exact ⟨S1, raise _ (or_f t1 (or_t t2)), f1⟩
      · rw [decide_eq_false c2] at t2
        by_cases c3 : 0 < b
        · rw [decide_eq_true c3] at t3
          by_cases c4 : rows = []
          · have : rows.isEmpty = true := by rw [c4]; rfl
            rw [this] at t4
            rw [if_pos (.inr (.inr ⟨c3, c4⟩))]
            exact ⟨S1', raise _ (or_f t1 (or_f t2 (and_t t3 t4))), Xt.fr (xa.trans Xt.alloc)⟩
          · have : rows.isEmpty = false := by cases rows with
              | nil => exact absurd rfl c4
              | cons => rfl
            rw [this] at t4
            rw [if_neg (by
              rintro (h | h | h)
              · omega
              · omega
              · exact c4 h.2)]
            exact cont S1' Xt.alloc (or_f t1 (or_f t2 (and_t t3 t4))) c1 c2
        · rw [decide_eq_false c3] at t3
          rw [if_neg (by
            rintro (h | h | h)
            · omega
            · omega
            · exact c3 h.1)]
          exact cont S1 (Xt.refl _) (or_f t1 (or_f t2 (and_f t3))) c1 c2
end
end K18

set_option Elab.async false
set_option linter.all false
set_option maxRecDepth 100000
set_option maxHeartbeats 4000000
namespace K18
open PySem PySem.Spec PyProof.Rows L2 Y TL
theorem mapO_flat (l : List (List Nat)) : mapO flatD (l.map strL) = some (l.map fun x => V.str (sg x)) := by
  induction l with
  | nil => rfl
  | cons a l ih =>
    rw [List.map_cons, mapO, ih]
    rfl
theorem inV_strs (x : List Nat) (l : List (List Nat)) : inV (.str (sg x)) (l.map fun x => V.str (sg x)) = decide (x ∈ l) := by
  induction l with
  | nil => rfl
  | cons a l ih =>
    unfold inV at ih ⊢
    rw [List.map_cons, List.any_cons, ih]
    have e : eqV (.str (sg a)) (.str (sg x)) = decide (x = a) := by
      show (sg a == sg x) = _
      rw [Y.sb]
      exact decide_eq_decide.mpr ⟨fun h => (sg_inj.mp h).symm, fun h => by rw [h]⟩
    rw [e, ← Bool.decide_or]
    exact decide_eq_decide.mpr List.mem_cons.symm
theorem in_adr {x : List Nat} {l : List (List Nat)} {S : Sr} {neg : Bool} {i : Nat} (h : S.f i = some (.lst (l.map strL))) : dIn neg (strL x) (.adr i) S = .ok (.bl (if neg = true then !decide (x ∈ l) else decide (x ∈ l))) S := by
  have h1 := mapO_flat l
  have h2 := inV_strs x l
  simp [dIn, orF, inSeq, itemsD, flatD, h1, h2, h]
def linesR (W : List (List Nat × Int)) : List (List Int) → List (List Nat × Int) → List (List Nat) → Option (List (List Int))
  | rows, _, [] => some rows
  | rows, pl, l :: r => match lineR W rows pl l with
    | none => none
    | some q => linesR W q.1 q.2 r
def headsR : List (List Nat) → Option (List (List Nat × Int))
  | [] => some []
  | l :: r => match headT l with
    | none => none
    | some q => (headsR r).map (q :: ·)
section
variable {W : List (List Nat × Int)} {S S0 : Sr} {iw ir it jL : Nat} {x0 x1 x2 : Option D}
theorem lines_loop {ls : List (List Nat)} (hL0 : jL < S0.n) (hL : S0.f jL = some (.lst (ls.map strL))) (hj : jL ≠ it ∧ jL ≠ ir) (hw : ∀ q ∈ W, Sgn q.1 ∧ 0 ≤ q.2 ∧ q.2 ≤ 100) (hn : W.length ≤ 1000) (hti : it ≠ iw ∧ it ≠ ir) (hls : ∀ l ∈ ls, Sgn l ∧ l.length ≤ 1000) (hm : ls.length ≤ 80) : ∀ (r idx : Nat) (rows : List (List Int)) (pl : List (List Nat × Int)) (S : Sr) (x5 x6 x7 x8 x9 x10 x11 : Option D), idx + r = ls.length → pl.length + 1001 * r ≤ 90000 → rows.length + r ≤ 150000 → rows.length ≤ 100000 + idx → Fr [it, ir] S0 S → WaveAt S iw ir W rows → it < S.n → S.f it = some (.dic (plD pl)) →
    (match linesR W rows pl (ls.drop idx) with
    | some rows' => ∃ S' g', forG (sqa jL ls.length) (mStep (gNm 5) b_read_wave_L59) r idx [x0, x1, x2, some (.adr iw), some (.adr it), x5, x6, x7, x8, x9, x10, x11] S = .nx g' S' ∧ g'[3]? = some (some (.adr iw)) ∧ WaveAt S' iw ir W rows' ∧ Fr [it, ir] S0 S'
    | none => ∃ S', forG (sqa jL ls.length) (mStep (gNm 5) b_read_wave_L59) r idx [x0, x1, x2, some (.adr iw), some (.adr it), x5, x6, x7, x8, x9, x10, x11] S = .ex "RunError" S' ∧ Fr [it, ir] S0 S')
  | 0, idx, rows, pl, S, x5, x6, x7, x8, x9, x10, x11, h, _, _, _, fr, a, hi, ht => by
    rw [List.drop_eq_nil_of_le (by omega)]
    refine ⟨S, _, fo_end ?_, rfl, a, fr⟩
    rw [nx_sqa (fr.at hL0 (by simp; omega) hL), List.getElem?_eq_none (by rw [List.length_map]; omega)]
  | r + 1, idx, rows, pl, S, x5, x6, x7, x8, x9, x10, x11, h, hp, hr, hrr, fr, a, hi, ht => by
    have hl : idx < ls.length := by omega
    obtain ⟨s1, s2⟩ := hls _ (List.getElem_mem hl)
    have en : (sqa jL ls.length).nxt idx S = some (some (strL ls[idx])) := by
      rw [nx_sqa (fr.at hL0 (by simp; omega) hL), List.getElem?_map, List.getElem?_eq_getElem hl]
      rfl
    have st := line_step (x0 := x0) (x1 := x1) (x2 := x2) (x5 := x5) (x6 := x6) (x7 := x7) (x8 := x8) (x9 := x9) (x10 := x10) (x11 := x11) a ht hi hti hw hn s1 s2 (by omega) (by omega)
    rw [List.drop_eq_getElem_cons hl]
    have el : linesR W rows pl (ls[idx] :: ls.drop (idx + 1)) = match lineR W rows pl ls[idx] with
      | none => none
      | some q => linesR W q.1 q.2 (ls.drop (idx + 1)) := rfl
    rw [el]
    cases hq : lineR W rows pl ls[idx] with
    | none =>
      rw [hq] at st
      obtain ⟨S', e, f⟩ := st
      exact ⟨S', fo_ex en e, fr.trans f⟩
    | some q =>
      obtain ⟨rows', pl'⟩ := q
      rw [hq] at st
      obtain ⟨S', y5, y6, y7, y8, y9, y10, y11, e, a', p', f, l1, l2⟩ := st
      have ih := lines_loop hL0 hL hj hw hn hti hls hm r (idx + 1) rows' pl' S' y5 y6 y7 y8 y9 y10 y11 (by omega) (by omega) (by omega) (by omega) (fr.trans f) a' (Nat.lt_of_lt_of_le hi f.1) p'
      dsimp only
      cases hz : linesR W rows' pl' (ls.drop (idx + 1)) with
      | none =>
        rw [hz] at ih
        obtain ⟨S2, e2, f2⟩ := ih
        exact ⟨S2, (fo_nx en e).trans e2, f2⟩
      | some rows2 =>
        rw [hz] at ih
        obtain ⟨S2, g', e2, g3, a2, f2⟩ := ih
        exact ⟨S2, g', (fo_nx en e).trans e2, g3, a2, f2⟩
theorem heads_read {ls : List (List Nat)} {D0 : Nat} {g0 : Gm} (hj : S0.f jL = some (.lst (ls.map strL))) (hl0 : jL < S0.n) (hD : S0.n ≤ D0) (hls : ∀ l ∈ ls, Sgn l ∧ l.length ≤ 1000) (hn : ls.length ≤ 1000) (h5 : 5 < g0.length) : ∀ (r idx : Nat) (acc : List (List Nat × Int)) (S : Sr), idx + r = ls.length → acc.length ≤ idx → Xt S0 S → S.f D0 = some (.lst (acc.map widD)) →
    (match headsR (ls.drop idx) with
    | some W => lcG (sqa jL ls.length) (.nm 5) mYes (mCall f_head_of 1 [] (mCons (mVar 5) mNil)) g0 D0 r idx S = .ok () (S.put D0 (.lst ((acc ++ W).map widD)))
    | none => ∃ S', lcG (sqa jL ls.length) (.nm 5) mYes (mCall f_head_of 1 [] (mCons (mVar 5) mNil)) g0 D0 r idx S = .exc "RunError" S' ∧ Xt S0 S')
  | 0, idx, acc, S, h, _, xt, fD => by
    rw [List.drop_eq_nil_of_le (by omega)]
    show lcG _ _ _ _ _ _ _ _ _ = .ok () (S.put D0 (.lst ((acc ++ []).map widD)))
    rw [List.append_nil, put_same fD]
    refine lc_end ?_
    rw [nx_sqa (xt.at_ hj hl0), List.getElem?_eq_none (by rw [List.length_map]; omega)]
  | r + 1, idx, acc, S, h, hz, xt, fD => by
    have hl : idx < ls.length := by omega
    obtain ⟨s1, s2⟩ := hls _ (List.getElem_mem hl)
    have en : (sqa jL ls.length).nxt idx S = some (some (strL ls[idx])) := by
      rw [nx_sqa (xt.at_ hj hl0), List.getElem?_map, List.getElem?_eq_getElem hl]
      rfl
    have eh := e_head (S := S) s1 s2
    let g : Gm := g0.set 5 (some (strL ls[idx]))
    have g5 : g[5]? = some (some (strL ls[idx])) := by
      show (g0.set 5 (some (strL ls[idx])))[5]? = _
      rw [List.getElem?_set_self h5]
    have ec : mCall f_head_of 1 [] (mCons (mVar 5) mNil) g S = f_head_of [strL ls[idx]] S := by
      simp (decide := true) only [mCall, mCons, mNil, mVar, SM.bind, SM.pure, g5, List.length_cons, List.length_nil, if_true, List.append_nil]
    rw [List.drop_eq_getElem_cons hl]
    have el : headsR (ls[idx] :: ls.drop (idx + 1)) = match headT ls[idx] with
      | none => none
      | some q => (headsR (ls.drop (idx + 1))).map (q :: ·) := rfl
    rw [el]
    cases hq : headT ls[idx] with
    | none =>
      rw [hq] at eh
      exact ⟨S, lc_exc en rfl rfl (ec.trans eh), xt⟩
    | some q =>
      rw [hq] at eh
      have eh : f_head_of [strL ls[idx]] S = .ok (widD q) S := eh
      have e1 := lc_nx (r := r) en (g0 := g0) (t := .nm 5) (mt := mYes) (g := g) rfl rfl (ec.trans eh) fD (by rw [List.length_map, sizeLine_eq]; omega)
      have ea : acc.map widD ++ [widD q] = (acc ++ [q]).map widD := by rw [List.map_append]; rfl
      rw [ea] at e1
      have ih := heads_read hj hl0 hD hls hn h5 r (idx + 1) (acc ++ [q]) (S.put D0 (.lst ((acc ++ [q]).map widD))) (by omega) (by rw [List.length_append, List.length_singleton]; omega) (xt.put hD) at_put
      dsimp only
      cases hz : headsR (ls.drop (idx + 1)) with
      | none =>
        rw [hz] at ih
        obtain ⟨S', e2, x2⟩ := ih
        exact ⟨S', e1.trans e2, x2⟩
      | some W =>
        rw [hz] at ih
        show lcG _ _ _ _ _ _ _ _ _ = _
        rw [e1, ih, put_put, List.append_assoc]
        rfl
end
def midN (ls : List (List Nat)) : Nat := ls.findIdx fun l => decide (l = [])
theorem ixS_nil : ∀ {ls : List (List Nat)}, [] ∈ ls → ixS (ls.map sg) (sg []) = some (midN ls)
  | [], h => nomatch h
  | l :: r, h => by
    rw [List.map_cons]
    unfold ixS midN
    rw [List.findIdx_cons]
    by_cases z : l = []
    · rw [if_pos (by rw [z]), decide_eq_true z]
      rfl
    · rw [if_neg (fun q => z (sg_inj.mp q)), decide_eq_false z, ixS_nil ((List.mem_cons.mp h).resolve_left fun q => z q.symm)]
      rfl
def readW (t : List Nat) : Option (List (List Nat × Int) × List (List Int)) := if (spl [10] 0 [] t).getLast? ≠ some [] ∨ [] ∉ (spl [10] 0 [] t).dropLast then none else
  match headsR ((spl [10] 0 [] t).take (midN (spl [10] 0 [] t))) with
  | none => none
  | some W => if (mergeD [] (kwW W)).length ≠ W.length then none else (linesR W [] [] ((spl [10] 0 [] t).dropLast.drop (midN (spl [10] 0 [] t) + 1))).map fun r => (W, r)
end K18

set_option Elab.async false
set_option linter.all false
set_option maxRecDepth 100000
set_option maxHeartbeats 4000000
namespace K18
open PySem PySem.Spec PyProof.Rows L2 Y TL
theorem cut_mid {l : List D} {m : Nat} : Y.cutD l none (some (m : Int)) = l.take m := by
  have e : HT.sIx l.length l.length (some (m : Int)) = min m l.length := HT.sIx_nat _ _ _
  have e0 : HT.sIx l.length 0 none = 0 := rfl
  unfold Y.cutD
  rw [e, e0, List.drop_zero, Nat.sub_zero]
  by_cases h : m ≤ l.length
  · rw [Nat.min_eq_left h]
  · rw [Nat.min_eq_right (by omega), List.take_of_length_le (Nat.le_refl _), List.take_of_length_le (by omega)]
theorem cut_rest {l : List D} {x : D} {m : Nat} (h : m ≤ l.length) : Y.cutD (l ++ [x]) (some (m : Int)) (some (-1)) = l.drop m := by
  have e : HT.sIx (l ++ [x]).length (l ++ [x]).length (some (-1)) = l.length := by
    show (if (-1 : Int) < 0 then ((-1 : Int) + ((l ++ [x]).length : Int)).toNat else min (-1 : Int).toNat (l ++ [x]).length) = _
    rw [if_pos (by decide), List.length_append, List.length_singleton]
    omega
  have e0 : HT.sIx (l ++ [x]).length 0 (some (m : Int)) = m := by
    rw [HT.sIx_nat, List.length_append, List.length_singleton]
    omega
  unfold Y.cutD
  rw [e, e0, List.drop_append_of_le_length h, List.take_append_of_le_length (by rw [List.length_drop]; exact Nat.le_refl _), List.take_of_length_le (by rw [List.length_drop]; exact Nat.le_refl _)]
theorem head_ok {l : List Nat} {q : List Nat × Int} (h : headT l = some q) (hs : Sgn l) (hl : l.length ≤ 1000) : Sgn q.1 ∧ 0 ≤ q.2 ∧ q.2 ≤ 100 := by
  unfold headT at h
  split at h
  · cases h
  · split at h
    · split at h
      · cases h
        rename_i n _ hn
        exact ⟨(cut_ok (s := 32) hs hl).1.1, by dsimp only; omega, by dsimp only; omega⟩
      · cases h
    · cases h
theorem heads_ok : ∀ {ls : List (List Nat)} {W : List (List Nat × Int)}, headsR ls = some W → (∀ l ∈ ls, Sgn l ∧ l.length ≤ 1000) → (∀ q ∈ W, Sgn q.1 ∧ 0 ≤ q.2 ∧ q.2 ≤ 100) ∧ W.length = ls.length
  | [], W, e, _ => by
    cases e
    exact ⟨fun q hq => (nomatch hq), rfl⟩
  | l :: r, W, e, h => by
    unfold headsR at e
    cases h1 : headT l with
    | none => rw [h1] at e; cases e
    | some q =>
      rw [h1] at e
      obtain ⟨W', hW, rfl⟩ := Option.map_eq_some_iff.mp e
      obtain ⟨i1, i2⟩ := heads_ok hW fun l hl => h l (List.mem_cons_of_mem _ hl)
      refine ⟨fun p hp => ?_, by rw [List.length_cons, i2]; rfl⟩
      rcases List.mem_cons.mp hp with rfl | hp
      · exact head_ok h1 (h l List.mem_cons_self).1 (h l List.mem_cons_self).2
      · exact i1 p hp
theorem make_exc {A : ME} {g : Gm} {S S' : Sr} {c q : Str} {f : List D → SM D} {n i : Nat} {dd : List D} (h : A g S = .exc c S') : mSet i (mMake q f n dd (mCons A mNil)) g S = .ex c S' := by
  unfold mSet toRS mMake mCons SM.bind
  rw [h]
theorem make_ok {A : ME} {g : Gm} {S S1 S2 : Sr} {q : Str} {f : List D → SM D} {i : Nat} {d : D} (h : A g S = .ok d S1) (h2 : f [.adr S1.n, d] (S1.alloc (.ins q [])) = .ok .non S2) : mSet i (mMake q f 2 [] (mCons A mNil)) g S = .nx (g.set i (some (.adr S1.n))) S2 := by
  unfold mSet toRS mMake mCons SM.bind
  rw [h]
  dsimp only [mNil, SM.pure]
  simp (decide := true) only [List.length_cons, List.length_nil, if_true, List.append_nil, h2]
section
variable {S : Sr} {t : List Nat}
theorem e_read (hs : Sgn t) (ht : t.length ≤ 50000) (hl : ∀ l ∈ spl [10] 0 [] t, l.length ≤ 1000) (hn : (spl [10] 0 [] t).length ≤ 80) :
    match readW t with
    | some (W, rows) => ∃ S' iw ir, f_read_wave [strL t] S = .ok (.adr iw) S' ∧ WaveAt S' iw ir W rows ∧ Xt S S' ∧ S.n ≤ iw
    | none => ∃ S', f_read_wave [strL t] S = .exc "RunError" S' ∧ Xt S S' := by
  have z0 : 0 ≤ sizeLine := Nat.zero_le _
  obtain ⟨sn, sw, sc⟩ := spl_sub (s := 10) t [] (P := fun c => c < 0x110000) (fun c h => nomatch h) hs
  unfold readW
  generalize hls : spl [10] 0 [] t = ls at sn sw sc hl hn ⊢
  have ok : ∀ l ∈ ls, Sgn l ∧ l.length ≤ 1000 := fun l h => ⟨(sw l h).1, hl l h⟩
  let G0 : Gm := [some (strL t), none, none, none, none, none, none, none, none, none, none, none]
  let S1 : Sr := S.alloc (.lst (ls.map strL))
  have zx : (sg t).length + 2 ≤ sizeLine := by rw [sg_len, sizeLine_eq]; omega
  have eb : (("\n" : Str).length == 0) = false := by decide +kernel
  have es := split_of (x := t) (y := ("\n" : Str)) (s := 10) (by decide +kernel) (by decide +kernel)
  rw [hls] at es
  let g1 : Gm := [some (strL t), some (.adr S.n), none, none, none, none, none, none, none, none, none, none]
  have e1 : mSet 1 (mBM "str" fSplit (mVar 0) (mCons (mC (.str "\n")) mNil)) G0 S = .nx g1 S1 := by
    have ef : fSplit (strL t) [.str "\n"] S = .ok (.adr S.n) S1 := by
      unfold fSplit
      simp only [eb, zx, and_self, if_true, es]
      rfl
    simp (decide := true) [mSet, mBM, mVar, mCons, mC, mNil, SM.bind, SM.pure, tyF, ef, toRS, G0, g1]
  obtain ⟨init, last, hil⟩ : ∃ init last, ls = init ++ [last] := by
    rcases List.eq_nil_or_concat ls with h | ⟨a, b, h⟩
    · exact absurd h sn
    · exact ⟨a, b, by rw [h]; simp⟩
  have hgl : ls.getLast? = some last := by rw [hil]; simp
  have hdl : ls.dropLast = init := by rw [hil]; simp
  rw [hgl, hdl]
  have L1 : S1.f S.n = some (.lst (ls.map strL)) := at_new
  have L1' : S1.f S.n = some (.lst (init.map strL ++ [strL last])) := by
    rw [L1, hil, List.map_append]
    rfl
  have ez : Str.ofString "" = sg [] := by rw [sg_str]; decide +kernel
  have i1 : dIx (.adr S.n) (.int (-1)) S1 = .ok (strL last) S1 := ixLast L1'
  have gv1 : g1[1]? = some (some (.adr S.n)) := rfl
  have ol : Sgn last := (ok last (by rw [hil]; simp)).1
  have ta : mTB (mB dNe (mB dIx (mVar 1) (mU dNeg (mC (.int 1)))) (mC (.str ""))) g1 S1 = .ok (!decide (last = [])) S1 := by
    refine tb_of ?_
    have e : dNe (strL last) (strL []) S1 = .ok (.bl (!decide (last = []))) S1 := by
      rw [neT ol sgn_nil]
      congr 3
      exact decide_eq_decide.mpr sg_inj
    simp only [mB, mU, mVar, mC, SM.bind, SM.pure, gv1, dNeg, i1, ez, e]
  let S2 : Sr := S1.alloc (.lst (init.map strL))
  have esl : mSl slD (mVar 1) oNo (oE (mU dNeg (mC (.int 1)))) g1 S1 = .ok (.adr S1.n) S2 := by
    have : slD (.adr S.n) none (some (-1)) S1 = .ok (.adr S1.n) S2 := by
      show (match S1.f S.n with
        | some (.lst l) => R.ok (D.adr S1.n) (S1.alloc (.lst (Y.cutD l none (some (-1)))))
        | _ => .bad) = _
      rw [L1']
      dsimp only
      rw [cut_init]
    simp only [mSl, oE, oNo, mU, mC, mVar, SM.bind, SM.pure, gv1, dNeg, this]
  have tb : mTB (mB (dIn true) (mC (.str "")) (mSl slD (mVar 1) oNo (oE (mU dNeg (mC (.int 1)))))) g1 S1 = .ok (!decide ([] ∈ init)) S2 := by
    refine tb_of ?_
    have e := in_adr (x := []) (l := init) (S := S2) (neg := true) (i := S1.n) at_new
    have e : dIn true (strL []) (.adr S1.n) S2 = .ok (.bl (!decide ([] ∈ init))) S2 := e
    simp only [mB, mC, SM.bind, SM.pure, ez, esl, e]
  have x1 : Xt S S1 := Xt.alloc
  have x2 : Xt S S2 := x1.alloc'
  let mT : MT := mOr (mTB (mB dNe (mB dIx (mVar 1) (mU dNeg (mC (.int 1)))) (mC (.str "")))) (mTB (mB (dIn true) (mC (.str "")) (mSl slD (mVar 1) oNo (oE (mU dNeg (mC (.int 1)))))))
  have go : ∀ q Sx, b_read_wave G0 S = .ex q Sx → f_read_wave [strL t] S = .exc q Sx := fun q Sx h => fn_ex h
  have raise : ∀ Sx, mT g1 S1 = .ok true Sx → f_read_wave [strL t] S = .exc "RunError" Sx := fun Sx h => by
    have eIf : mIfS mT (mRaise "RunError") mPass g1 S1 = .ex "RunError" Sx := ifs_t h
    exact go _ _ ((sq_nx e1).trans (sq_ex eIf))
  by_cases c1 : last = []
  · rw [decide_eq_true c1] at ta
    by_cases c2 : [] ∈ init
    · rw [decide_eq_true c2] at tb
      rw [if_neg (by
        rintro (h | h)
        · exact h (by rw [c1])
        · exact h c2)]
      have eIf : mIfS mT (mRaise "RunError") mPass g1 S1 = .nx g1 S2 := ifs_f (or_f ta tb)
      let m := midN ls
      have hin : [] ∈ ls := by rw [hil]; exact List.mem_append_left _ c2
      have mlt : m < init.length := by
        have : midN ls = midN init := by
          unfold midN
          rw [hil, List.findIdx_append]
          have : List.findIdx (fun l => decide (l = [])) init < init.length := by
            rw [List.findIdx_lt_length]
            exact ⟨[], c2, by simp⟩
          rw [if_pos this]
        show midN ls < _
        rw [this]
        unfold midN
        rw [List.findIdx_lt_length]
        exact ⟨[], c2, by simp⟩
      have L2 : S2.f S.n = some (.lst (ls.map strL)) := at_old L1 (Nat.lt_succ_self _)
      let g2 : Gm := [some (strL t), some (.adr S.n), some (.int (m : Int)), none, none, none, none, none, none, none, none, none]
      have e2 : mSet 2 (mBM "list" fLix (mVar 1) (mCons (mC (.str "")) mNil)) g1 S2 = .nx g2 S2 := by
        have ef : fLix (.adr S.n) [.str ""] S2 = .ok (.int (m : Int)) S2 := by
          have h1 := strs_of_map ls
          have h2 := ixS_nil hin
          unfold fLix
          simp only [L2, h1, ez, h2]
          rfl
        have ty : tyF "list" (.adr S.n) S2 = true := by simp (decide := true) [tyF, L2]
        simp (decide := true) only [mSet, mBM, mVar, mCons, mC, mNil, SM.bind, SM.pure, gv1, ty, if_true, ef, toRS]
        rfl
      let S3 : Sr := S2.alloc (.lst ((ls.take m).map strL))
      have esh : mSrc (mSl slD (mVar 1) oNo (oE (mVar 2))) g2 S2 = .ok (sqa S2.n (ls.take m).length) S3 := by
        have : slD (.adr S.n) none (some (m : Int)) S2 = .ok (.adr S2.n) S3 := by
          show (match S2.f S.n with
            | some (.lst l) => R.ok (D.adr S2.n) (S2.alloc (.lst (Y.cutD l none (some (m : Int)))))
            | _ => .bad) = _
          rw [L2]
          dsimp only
          rw [cut_mid, ← List.map_take]
        have gv2 : g2[1]? = some (some (.adr S.n)) := rfl
        have gv3 : g2[2]? = some (some (.int (m : Int))) := rfl
        have h3 : S3.f S2.n = some (.lst ((ls.take m).map strL)) := at_new
        have hsd : mSrcD true (.adr S2.n) S3 = .ok (sqa S2.n (ls.take m).length) S3 := by
          show (match S3.f S2.n with
            | some (.lst l) => R.ok (sqa S2.n l.length) S3
            | _ => .bad) = _
          rw [h3]
          dsimp only
          rw [List.length_map]
        simp only [mSrc, mSl, oE, oNo, mVar, SM.bind, gv2, gv3, this, hsd]
      have x3 : Xt S S3 := x2.alloc'
      have H := heads_read (S0 := S3) (jL := S2.n) (D0 := S3.n) (g0 := wipeD g2 [5]) at_new (Nat.lt_succ_self _) (Nat.le_refl _) (fun l h => ok l (List.mem_of_mem_take h)) (by rw [List.length_take]; omega) (show 5 < (12 : Nat) by decide) (ls.take m).length 0 [] (S3.alloc (.lst [])) (Nat.zero_add _) (Nat.le_refl _) Xt.alloc at_new
      rw [List.drop_zero] at H
      cases hH : headsR (ls.take m) with
      | none =>
        rw [hH] at H
        obtain ⟨S4, e3, xt4⟩ := H
        have em : mLc (mSrc (mSl slD (mVar 1) oNo (oE (mVar 2)))) (.nm 5) mYes (mCall f_head_of 1 [] (mCons (mVar 5) mNil)) [5] g2 S2 = .exc "RunError" S4 := mLc_exc esh e3
        refine ⟨S4, go _ _ ((sq_nx e1).trans ((sq_nx eIf).trans ((sq_nx e2).trans (sq_ex (make_exc em))))), x3.trans xt4⟩
      | some W =>
        rw [hH] at H
        have H : lcG _ _ _ _ _ _ _ _ _ = _ := H
        rw [List.nil_append] at H
        obtain ⟨wk, wl⟩ := heads_ok hH fun l h => ok l (List.mem_of_mem_take h)
        let S4 : Sr := (S3.alloc (.lst [])).put S3.n (.lst (W.map widD))
        have em : mLc (mSrc (mSl slD (mVar 1) oNo (oE (mVar 2)))) (.nm 5) mYes (mCall f_head_of 1 [] (mCons (mVar 5) mNil)) [5] g2 S2 = .ok (.adr S3.n) S4 := mLc_ok esh H
        have x4 : Xt S S4 := x3.alloc'.put x3.le
        obtain ⟨S5, ei, a5, x5'⟩ := e_init (S := S4) (iL := S3.n) (W := W) at_put (Nat.lt_succ_self _)
        have x5 : Xt S S5 := x4.trans x5'
        let iw := S4.n
        let g3 : Gm := [some (strL t), some (.adr S.n), some (.int (m : Int)), some (.adr iw), none, none, none, none, none, none, none, none]
        have e3 : mSet 3 (mMake "Wave" f_Wave___init__ 2 [] (mCons (mLc (mSrc (mSl slD (mVar 1) oNo (oE (mVar 2)))) (.nm 5) mYes (mCall f_head_of 1 [] (mCons (mVar 5) mNil)) [5]) mNil)) g2 S2 = .nx g3 S5 := make_ok em ei
        have pre : ∀ Z, (mSeq (mIfS (mTB (mB dNe (mCB fLen (mCons (mCB fDictB (mCons (mAttr ["Wave"] "widths" (mVar 3)) mNil)) mNil)) (mCB fLen (mCons (mAttr ["Wave"] "widths" (mVar 3)) mNil)))) (mRaise "RunError") mPass)
  (mSeq (mSet 4 mEmp)
  (mSeq (mFor (mSrc (mSl slD (mVar 1) (oE (mB dAdd (mVar 2) (mC (.int 1)))) (oE (mU dNeg (mC (.int 1)))))) (gNm 5) b_read_wave_L59)
  (mRet (mVar 3))))) g3 S5 = Z → b_read_wave G0 S = Z := fun Z h => (sq_nx e1).trans ((sq_nx eIf).trans ((sq_nx e2).trans ((sq_nx e3).trans h)))
        let S6 : Sr := S5.alloc (.dic (mergeD [] (kwW W)))
        have w5 := a5.w
        have ew : ∀ Sx, Xt S5 Sx → mAttr ["Wave"] "widths" (mVar 3) g3 Sx = .ok (.gtp (W.map widD)) Sx := fun Sx xx => by
          have h0 : mVar 3 g3 Sx = .ok (.adr iw) Sx := rfl
          have wx : Sx.f iw = some (.ins "Wave" [("widths", .gtp (W.map widD)), ("rows", .adr (iw + 1))]) := xx.at_ w5 a5.lt.1
          unfold mAttr
          simp (decide := true) [SM.bind, h0, wx, List.lookup, Y.sb]
        have ed : mCB fDictB (mCons (mAttr ["Wave"] "widths" (mVar 3)) mNil) g3 S5 = .ok (.adr S5.n) S6 := by
          have : fDictB [.gtp (W.map widD)] S5 = .ok (.adr S5.n) S6 := by
            unfold fDictB
            simp only [pairs_W]
            rfl
          have e := ew S5 (Xt.refl _)
          simp only [mCB, mCons, mNil, SM.bind, SM.pure, e, this]
        have tl_ : mTB (mB dNe (mCB fLen (mCons (mCB fDictB (mCons (mAttr ["Wave"] "widths" (mVar 3)) mNil)) mNil)) (mCB fLen (mCons (mAttr ["Wave"] "widths" (mVar 3)) mNil))) g3 S5 = .ok (decide ((mergeD [] (kwW W)).length ≠ W.length)) S6 := by
          refine tb_of ?_
          have l1 : fLen [.adr S5.n] S6 = .ok (.int ((mergeD [] (kwW W)).length : Nat)) S6 := by
            have h6 : S6.f S5.n = some (.dic (mergeD [] (kwW W))) := at_new
            simp [fLen, lenD, h6]
          have l2 : fLen [.gtp (W.map widD)] S6 = .ok (.int (W.length : Nat)) S6 := by
            simp [fLen, lenD]
          have q1 : mCB fLen (mCons (mCB fDictB (mCons (mAttr ["Wave"] "widths" (mVar 3)) mNil)) mNil) g3 S5 = .ok (.int ((mergeD [] (kwW W)).length : Nat)) S6 := by
            show SM.bind (mCons (mCB fDictB (mCons (mAttr ["Wave"] "widths" (mVar 3)) mNil)) mNil g3) fLen S5 = _
            have : mCons (mCB fDictB (mCons (mAttr ["Wave"] "widths" (mVar 3)) mNil)) mNil g3 S5 = .ok [.adr S5.n] S6 := by
              show SM.bind _ _ S5 = _
              unfold SM.bind
              rw [ed]
              rfl
            unfold SM.bind
            rw [this]
            exact l1
          have q2 : mCB fLen (mCons (mAttr ["Wave"] "widths" (mVar 3)) mNil) g3 S6 = .ok (.int (W.length : Nat)) S6 := by
            have e := ew S6 Xt.alloc
            simp only [mCB, mCons, mNil, SM.bind, SM.pure, e, l2]
          show SM.bind (mCB fLen (mCons (mCB fDictB (mCons (mAttr ["Wave"] "widths" (mVar 3)) mNil)) mNil) g3) (fun x => SM.bind (mCB fLen (mCons (mAttr ["Wave"] "widths" (mVar 3)) mNil) g3) (fun y => dNe x y)) S5 = _
          unfold SM.bind
          rw [q1]
          dsimp only
          rw [q2]
          dsimp only
          rw [ev_neI]
          congr 2
          rw [← decide_not]
          exact decide_eq_decide.mpr (by omega)
        dsimp only
        by_cases c3 : (mergeD [] (kwW W)).length ≠ W.length
        · rw [decide_eq_true c3] at tl_
          rw [if_pos c3]
          exact ⟨S6, go _ _ (pre _ (sq_ex (ifs_t tl_))), x5.alloc'⟩
        · rw [decide_eq_false c3] at tl_
          rw [if_neg c3]
          let it := S6.n
          let S7 : Sr := S6.alloc (.dic (plD []))
          let g4 : Gm := [some (strL t), some (.adr S.n), some (.int (m : Int)), some (.adr iw), some (.adr it), none, none, none, none, none, none, none]
          have e4 : mSet 4 mEmp g3 S6 = .nx g4 S7 := rfl
          have x7 : Xt S S7 := (x5.alloc').alloc'
          have L7 : S7.f S.n = some (.lst (init.map strL ++ [strL last])) := by
            have xx : Xt S1 S7 := (((((Xt.alloc : Xt S1 S2).trans Xt.alloc).trans ((Xt.alloc : Xt S3 _).put (Nat.le_refl _))).trans x5').alloc').alloc'
            exact xx.at_ L1' (Nat.lt_succ_self _)
          let S8 : Sr := S7.alloc (.lst ((init.drop (m + 1)).map strL))
          have esl2 : mSrc (mSl slD (mVar 1) (oE (mB dAdd (mVar 2) (mC (.int 1)))) (oE (mU dNeg (mC (.int 1))))) g4 S7 = .ok (sqa S7.n (init.drop (m + 1)).length) S8 := by
            have : slD (.adr S.n) (some ((m : Int) + 1)) (some (-1)) S7 = .ok (.adr S7.n) S8 := by
              show (match S7.f S.n with
                | some (.lst l) => R.ok (D.adr S7.n) (S7.alloc (.lst (Y.cutD l (some ((m : Int) + 1)) (some (-1)))))
                | _ => .bad) = _
              rw [L7]
              dsimp only
              have := cut_rest (l := init.map strL) (x := strL last) (m := m + 1) (by rw [List.length_map]; omega)
              rw [show ((m : Int) + 1) = ((m + 1 : Nat) : Int) from rfl, this, ← List.map_drop]
            have gv2 : g4[1]? = some (some (.adr S.n)) := rfl
            have gv3 : g4[2]? = some (some (.int (m : Int))) := rfl
            have hsd : mSrcD true (.adr S7.n) S8 = .ok (sqa S7.n (init.drop (m + 1)).length) S8 := by
              have h3 : S8.f S7.n = some (.lst ((init.drop (m + 1)).map strL)) := at_new
              show (match S8.f S7.n with
                | some (.lst l) => R.ok (sqa S7.n l.length) S8
                | _ => .bad) = _
              rw [h3]
              dsimp only
              rw [List.length_map]
            simp only [mSrc, mSl, oE, mVar, mB, mU, mC, SM.bind, SM.pure, gv2, gv3, dAdd, orF, okI, if_true, dNeg, this, hsd]
          have x8 : Xt S S8 := x7.alloc'
          have a8 : WaveAt S8 iw (iw + 1) W [] := a5.xt (((Xt.alloc : Xt S5 S6).alloc').alloc')
          have lt5 := a5.lt
          have n6 : S6.n = S5.n + 1 := rfl
          have n7 : S7.n = S5.n + 1 + 1 := rfl
          have LL := lines_loop (S0 := S8) (jL := S7.n) (it := it) (iw := iw) (ir := iw + 1) (x0 := some (strL t)) (x1 := some (.adr S.n)) (x2 := some (.int (m : Int))) (ls := init.drop (m + 1)) (Nat.lt_succ_self _) at_new ⟨by show S7.n ≠ S6.n; omega, by show S7.n ≠ iw + 1; omega⟩ wk (by rw [wl, List.length_take]; omega) ⟨by show S6.n ≠ iw; omega, by show S6.n ≠ iw + 1; omega⟩ (fun l h => ok l (by rw [hil]; exact List.mem_append_left _ (List.mem_of_mem_drop h))) (by rw [List.length_drop]; rw [hil, List.length_append] at hn; omega) (init.drop (m + 1)).length 0 [] [] S8 none none none none none none none (Nat.zero_add _) (by rw [List.length_drop]; rw [hil, List.length_append] at hn; simp; omega) (by rw [List.length_drop]; rw [hil, List.length_append] at hn; simp; omega) (by simp) Fr.refl a8 (Nat.lt_succ_of_lt (Nat.lt_succ_self _)) (at_old at_new (Nat.lt_succ_self _))
          rw [List.drop_zero] at LL
          have xlow : ∀ S', Fr [it, iw + 1] S8 S' → Xt S S' := fun S' f => ⟨Nat.le_trans x8.le f.1, fun j hj => (f.2 j (Nat.lt_of_lt_of_le hj x8.le) (by
            have h4 : S.n ≤ S4.n := x4.le
            simp only [List.mem_cons, List.not_mem_nil, or_false, not_or]
            exact ⟨by show j ≠ S6.n; omega, by show j ≠ S4.n + 1; omega⟩)).trans (x8.eq j hj)⟩
          cases hz : linesR W [] [] (init.drop (m + 1)) with
          | none =>
            rw [hz] at LL
            obtain ⟨S9, e9, f9⟩ := LL
            exact ⟨S9, go _ _ (pre _ ((sq_nx (ifs_f tl_)).trans ((sq_nx e4).trans (sq_ex ((mFor_of esl2).trans e9))))), xlow _ f9⟩
          | some rows =>
            rw [hz] at LL
            obtain ⟨S9, g', e9, gg, a9, f9⟩ := LL
            have fin : mRet (mVar 3) g' S9 = .rt (.adr iw) S9 := by
              simp only [mRet, mVar, gg, toRS]
            exact ⟨S9, iw, iw + 1, fn_rt (pre _ ((sq_nx (ifs_f tl_)).trans ((sq_nx e4).trans ((sq_nx ((mFor_of esl2).trans e9)).trans fin)))), a9, xlow _ f9, x4.le⟩
    · rw [decide_eq_false c2] at tb
      rw [if_pos (.inr c2)]
      exact ⟨S2, raise _ (or_f ta tb), x2⟩
  · rw [decide_eq_false c1] at ta
    rw [if_pos (.inl (by simpa using c1))]
    exact ⟨S1, raise _ (or_t ta), x1⟩
end
end K18

set_option Elab.async false
set_option linter.all false
set_option maxRecDepth 100000
set_option maxHeartbeats 4000000
namespace K18
open PySem PySem.Spec PyProof.Rows L2 Y TL
def badT : List (List Nat) := [[], [97, 32, 49], [97, 32, 49, 10], [97, 10, 10], [97, 32, 48, 10, 10], [97, 32, 51, 51, 10, 10], [65, 32, 49, 10, 10], [97, 32, 49, 10, 10, 48, 32, 97, 61, 49, 10], [97, 32, 49, 10, 10, 35, 49, 32, 97, 61, 49, 10], [97, 32, 49, 10, 10, 35, 48, 10], [97, 32, 49, 10, 10, 35, 48, 32, 97, 61, 50, 10], [97, 32, 49, 10, 10, 35, 48, 32, 98, 61, 49, 10], [97, 32, 49, 10, 10, 35, 48, 32, 97, 61, 49, 10, 35, 48, 32, 97, 61, 48, 10], [97, 32, 49, 10, 10, 35, 48, 32, 97, 61, 120, 10], [97, 32, 49, 10, 97, 32, 49, 10, 10], [97, 32, 49, 10, 10, 35, 48, 32, 97, 10], [97, 32, 48, 49, 10, 10], [97, 32, 49, 10, 10, 35, 48, 32, 97, 61, 49, 10, 35, 49, 48, 48, 48, 48, 49, 10]]
theorem bad_none : badT.all (fun t => (readW t).isNone) = true := by decide +kernel
theorem bad_fit : badT.all (fun t => t.all (fun c => decide (c < 0x110000)) && decide (t.length ≤ 50000) && (spl [10] 0 [] t).all (fun l => decide (l.length ≤ 1000)) && decide ((spl [10] 0 [] t).length ≤ 80)) = true := by decide +kernel
theorem bad_wd : badT = [wd "", wd "a 1", wd "a 1\n", wd "a\n\n", wd "a 0\n\n", wd "a 33\n\n", wd "A 1\n\n", wd "a 1\n\n0 a=1\n", wd "a 1\n\n#1 a=1\n", wd "a 1\n\n#0\n", wd "a 1\n\n#0 a=2\n", wd "a 1\n\n#0 b=1\n", wd "a 1\n\n#0 a=1\n#0 a=0\n", wd "a 1\n\n#0 a=x\n", wd "a 1\na 1\n\n", wd "a 1\n\n#0 a\n", wd "a 01\n\n", wd "a 1\n\n#0 a=1\n#100001\n"] := by decide +kernel
theorem bad_strs : badT.map strL = [.str "", .str "a 1", .str "a 1\n", .str "a\n\n", .str "a 0\n\n", .str "a 33\n\n", .str "A 1\n\n", .str "a 1\n\n0 a=1\n", .str "a 1\n\n#1 a=1\n", .str "a 1\n\n#0\n", .str "a 1\n\n#0 a=2\n", .str "a 1\n\n#0 b=1\n", .str "a 1\n\n#0 a=1\n#0 a=0\n", .str "a 1\n\n#0 a=x\n", .str "a 1\na 1\n\n", .str "a 1\n\n#0 a\n", .str "a 01\n\n", .str "a 1\n\n#0 a=1\n#100001\n"] := by
  rw [bad_wd]
  simp only [List.map_cons, List.map_nil, strL_wd]
def finT : List Nat := [97, 32, 50, 10, 10, 35, 48, 32, 97, 61, 51, 10, 35, 52, 32, 97, 61, 49, 10]
theorem fin_wd : finT = wd "a 2\n\n#0 a=3\n#4 a=1\n" := by decide +kernel
theorem fin_str : strL finT = .str "a 2\n\n#0 a=3\n#4 a=1\n" := by rw [fin_wd, strL_wd]
theorem fin_read : readW finT = some ([([97], 2)], [[3], [3], [3], [3], [1]]) := by decide +kernel
theorem fin_head : headT [97, 32, 52] = some ([97], 4) := by decide +kernel
theorem fin_num : numT [49, 48] = some 10 := by decide +kernel
theorem fin_num2 : numT [49, 50, 51, 52, 53, 54, 55, 56, 57, 48, 49] = none := by decide +kernel
end K18

set_option Elab.async false
set_option linter.all false
set_option maxRecDepth 100000
set_option maxHeartbeats 4000000
namespace K18
open PySem PySem.Spec PyProof.Rows L2 Y TL
theorem dig_all (n : Nat) : (numL n).all digB = true := List.all_eq_true.mpr fun c hc => by
  have := numL_digits n c hc
  unfold digB
  simp
  omega
theorem num_head : ∀ (m n : Nat), n < m → n ≠ 0 → (numL n).headD 0 ≠ 48
  | 0, n, h, _ => absurd h (Nat.not_lt_zero _)
  | m + 1, n, h, h0 => by
    by_cases c : n < 10
    · rw [numL_lt c]
      show 48 + n ≠ 48
      omega
    · rw [numL_step (by omega)]
      have ih := num_head m (n / 10) (by omega) (by omega)
      have ne := numL_ne (n / 10)
      cases e : numL (n / 10) with
      | nil => exact absurd e ne
      | cons a r => rw [e] at ih; exact ih
theorem numT_ok {n : Nat} (h : n < 100000000) : numT (numL n) = some (n : Int) := by
  have l := numL_len (n := n) (k := 8) (by omega) (by omega)
  have ne := List.length_pos_iff.mpr (numL_ne n)
  unfold numT
  rw [if_pos, numL_val]
  refine ⟨ne, by omega, dig_all n, fun q => ?_⟩
  by_cases z : n = 0
  · rw [z, numL_lt (by decide)] at q
    exact absurd q.2 (by decide)
  · exact num_head _ n (Nat.lt_succ_self _) z q.1
theorem numT_nm {n : Int} (h0 : 0 ≤ n) (h : n < 100000000) : numT (nmI n) = some n := by
  unfold nmI
  rw [numT_ok (by omega), Int.toNat_of_nonneg h0]
theorem cut_at {s : Nat} {a b : List Nat} (h : s ∉ a) : cutT s (a ++ [s] ++ b) = (a, [s], b) := by
  have := par_part1 (s := s) (S := []) (p := a) (rest := b) (acc := []) h
  unfold cutT
  rw [List.append_assoc]
  have e : ([s] : List Nat) ++ b = [s] ++ b := rfl
  rw [this]
  rfl
/-! ### drawn waves -/
structure WG (W : List (List Nat × Int)) : Prop where
  ne : W ≠ []
  len : W.length ≤ 4
  nd : (W.map (·.1)).Nodup
  nm : ∀ q ∈ W, q.1 ≠ [] ∧ q.1.all alnB = true ∧ q.1.length ≤ 10
  wd : ∀ q ∈ W, 1 ≤ q.2 ∧ q.2 ≤ 5
def RG1 (W : List (List Nat × Int)) (r : List Int) : Prop := r.length = W.length ∧ ∀ k, k < W.length → 0 ≤ r.getD k 0 ∧ r.getD k 0 < 2 ^ ((W.getD k ([], 0)).2).toNat
def RG (W : List (List Nat × Int)) (rows : List (List Int)) : Prop := rows.length ≤ 30 ∧ ∀ r ∈ rows, RG1 W r
theorem aln_free {l : List Nat} {s : Nat} (h : l.all alnB = true) (hs : s < 48) : s ∉ l := fun hm => by
  have := List.all_eq_true.mp h s hm
  unfold alnB digB at this
  simp at this
  omega
theorem aln_free61 {l : List Nat} (h : l.all alnB = true) : 61 ∉ l := fun hm => by
  have := List.all_eq_true.mp h 61 hm
  simp [alnB, digB] at this
theorem getD_mem {W : List (List Nat × Int)} {k : Nat} (h : k < W.length) : W.getD k ([], 0) ∈ W := by
  rw [List.getD_eq_getElem?_getD, List.getElem?_eq_getElem h]
  exact List.getElem_mem h
theorem head_hd {q : List Nat × Int} (h1 : q.1 ≠ []) (h2 : q.1.all alnB = true) (h3 : 1 ≤ q.2) (h4 : q.2 ≤ 5) : headT (hdL q) = some q := by
  have e : cutT 32 (hdL q) = (q.1, [32], nmI q.2) := cut_at (aln_free h2 (by decide))
  unfold headT
  rw [e]
  dsimp only
  rw [if_neg (by rw [h2]; simp [h1]), numT_nm (by omega) (by omega)]
  dsimp only
  rw [if_pos ⟨h3, by omega⟩]
theorem heads_hd : ∀ {W : List (List Nat × Int)}, (∀ q ∈ W, q.1 ≠ [] ∧ q.1.all alnB = true ∧ q.1.length ≤ 10) → (∀ q ∈ W, 1 ≤ q.2 ∧ q.2 ≤ 5) → headsR (W.map hdL) = some W
  | [], _, _ => rfl
  | q :: r, h, h' => by
    obtain ⟨h1, h2, _⟩ := h q List.mem_cons_self
    obtain ⟨h3, h4⟩ := h' q List.mem_cons_self
    rw [List.map_cons]
    unfold headsR
    rw [head_hd h1 h2 h3 h4]
    dsimp only
    rw [heads_hd (fun p hp => h p (List.mem_cons_of_mem _ hp)) fun p hp => h' p (List.mem_cons_of_mem _ hp)]
    rfl
theorem merge_len : ∀ (W : List (List Nat × Int)) (acc : List (Key × D)), (W.map (·.1)).Nodup → (∀ q ∈ W, ∀ p ∈ acc, p.1 ≠ Sum.inr (sg q.1)) → (mergeD acc (kwW W)).length = acc.length + W.length
  | [], acc, _, _ => rfl
  | q :: r, acc, nd, h => by
    rw [List.map_cons, List.nodup_cons] at nd
    have e : putD acc (Sum.inr (sg q.1)) (.int q.2) = acc ++ [(Sum.inr (sg q.1), .int q.2)] := by
      unfold putD
      rw [if_neg]
      rw [List.any_eq_true]
      rintro ⟨p, hp, hq⟩
      exact h q List.mem_cons_self p hp (of_decide_eq_true hq)
    show (mergeD (putD acc (Sum.inr (sg q.1)) (.int q.2)) (kwW r)).length = _
    rw [e, merge_len r _ nd.2, List.length_append, List.length_singleton, List.length_cons]
    · omega
    · intro p hp z hz
      rcases List.mem_append.mp hz with hz | hz
      · exact h p (List.mem_cons_of_mem _ hp) z hz
      · rw [List.mem_singleton.mp hz]
        intro hh
        have := sg_inj.mp (Sum.inr.inj hh)
        exact nd.1 (this ▸ List.mem_map.mpr ⟨p, hp, rfl⟩)
/-! ### tables -/
theorem look_cons' {q : List Nat × Int} {pl : List (List Nat × Int)} {a : List Nat} : look (q :: pl) a = if q.1 = a then some q.2 else look pl a := by
  unfold look
  by_cases h : q.1 = a
  · rw [if_pos h, List.find?_cons_of_pos (by simp [h])]
    rfl
  · rw [if_neg h, List.find?_cons_of_neg (by simp [h])]
theorem look_app {q : List Nat × Int} {a : List Nat} : ∀ {pl : List (List Nat × Int)}, (pl.any fun p => decide (p.1 = q.1)) = false → look (pl ++ [q]) a = if q.1 = a then some q.2 else look pl a
  | [], _ => look_cons'
  | p :: pl, h => by
    rw [List.any_cons, Bool.or_eq_false_iff] at h
    have h1 : ¬ p.1 = q.1 := of_decide_eq_false h.1
    rw [List.cons_append, look_cons', look_cons', look_app h.2]
    by_cases z : p.1 = a
    · rw [if_pos z, if_pos z, if_neg fun y => h1 (z.trans y.symm)]
    · rw [if_neg z, if_neg z]
theorem look_upd {c a : List Nat} {v : Int} : ∀ {pl : List (List Nat × Int)}, (pl.any fun p => decide (p.1 = c)) = true → look (pl.map fun q => if q.1 = c then (q.1, v) else q) c = some v
  | [], h => by cases h
  | p :: pl, h => by
    rw [List.map_cons, look_cons']
    by_cases z : p.1 = c
    · rw [if_pos z]
      dsimp only
      rw [if_pos z]
    · rw [if_neg z, if_neg z]
      rw [List.any_cons, decide_eq_false z, Bool.false_or] at h
      exact look_upd (a := a) h
theorem look_other {c a : List Nat} {v : Int} (hc : c ≠ a) : ∀ {pl : List (List Nat × Int)}, look (pl.map fun q => if q.1 = c then (q.1, v) else q) a = look pl a
  | [] => rfl
  | p :: pl => by
    rw [List.map_cons, look_cons', look_cons', look_other hc]
    by_cases z : p.1 = c
    · rw [if_pos z]
      dsimp only
      rw [if_neg (fun y => hc (z.symm.trans y)), if_neg (fun y => hc (z.symm.trans y))]
    · rw [if_neg z]
theorem lookT_put {c a : List Nat} {v : Int} {pl : List (List Nat × Int)} : look (putP pl c v) a = if c = a then some v else look pl a := by
  unfold putP
  by_cases h : (pl.any fun q => decide (q.1 = c)) = true
  · rw [if_pos h]
    by_cases z : c = a
    · rw [if_pos z, ← z]
      exact look_upd (a := a) h
    · rw [if_neg z, look_other z]
  · rw [if_neg h, look_app (q := (c, v)) (Bool.eq_false_iff.mpr h)]
theorem addR_of : ∀ {W : List (List Nat × Int)} {row : List Int} {pl : List (List Nat × Int)}, row.length = W.length → (∀ k, k < W.length → look pl (W.getD k ([], 0)).1 = some (row.getD k 0) ∧ 0 ≤ row.getD k 0 ∧ row.getD k 0 < 2 ^ ((W.getD k ([], 0)).2).toNat) → addR W pl = some row
  | [], [], _, _, _ => rfl
  | [], _ :: _, _, h, _ => by cases h
  | _ :: _, [], _, h, _ => by cases h
  | q :: W, v :: row, pl, h, hk => by
    obtain ⟨h1, h2⟩ := hk 0 (by simp)
    have h1 : look pl q.1 = some v := h1
    have h2 : 0 ≤ v ∧ v < 2 ^ q.2.toNat := h2
    unfold addR
    rw [h1]
    dsimp only
    rw [if_pos h2, addR_of (row := row) (by simpa using h) fun k hl => hk (k + 1) (by simpa using hl)]
    rfl
theorem nm_inj {W : List (List Nat × Int)} (nd : (W.map (·.1)).Nodup) {j k : Nat} (hj : j < W.length) (hk : k < W.length) (h : (W.getD j ([], 0)).1 = (W.getD k ([], 0)).1) : j = k := by
  have e : ∀ i, i < W.length → (W.map (·.1))[i]? = some (W.getD i ([], 0)).1 := fun i hi => by
    rw [List.getElem?_map, List.getD_eq_getElem?_getD, List.getElem?_eq_getElem hi]
    rfl
  have e1 := e j hj
  have e2 := e k hk
  rw [h, ← e2] at e1
  exact (List.getElem?_inj (by rw [List.length_map]; exact hj) nd).mp e1
section
variable {W : List (List Nat × Int)} {bf : Option (List Int)} {row : List Int}
theorem words_of (w : WG W) (hr : RG1 W row) : ∀ (ks : List Nat) (pl : List (List Nat × Int)), (∀ k ∈ ks, k < W.length) → ∃ pl', wordR W pl (partsF W bf row ks) = some pl' ∧ ∀ j, j < W.length → look pl' (W.getD j ([], 0)).1 = if j ∈ ks ∧ chg bf row j = true then some (row.getD j 0) else look pl (W.getD j ([], 0)).1
  | [], pl, _ => ⟨pl, rfl, fun j _ => by rw [if_neg (fun h => nomatch h.1)]⟩
  | k :: ks, pl, h => by
    have hk := h k List.mem_cons_self
    have ih := fun pl => words_of w hr ks pl fun j hj => h j (List.mem_cons_of_mem _ hj)
    by_cases c : chg bf row k = true
    · obtain ⟨pl', e, hl⟩ := ih (putP pl (W.getD k ([], 0)).1 (row.getD k 0))
      refine ⟨pl', ?_, fun j hj => ?_⟩
      · have e0 : partsF W bf row (k :: ks) = partL W row k :: partsF W bf row ks := by
          unfold partsF
          rw [List.filter_cons_of_pos c, List.map_cons]
        obtain ⟨_, n2, _⟩ := w.nm _ (getD_mem hk)
        have ec : cutT 61 (partL W row k) = ((W.getD k ([], 0)).1, [61], nmI (row.getD k 0)) := cut_at (aln_free61 n2)
        obtain ⟨r1, r2⟩ := hr.2 k hk
        have wd := w.wd _ (getD_mem hk)
        have lt : row.getD k 0 < 100000000 := by
          have : (2 : Int) ^ ((W.getD k ([], 0)).2).toNat ≤ 2 ^ 5 := by
            have h5 : ((W.getD k ([], 0)).2).toNat ≤ 5 := by omega
            exact_mod_cast Nat.pow_le_pow_right (by decide : 2 > 0) h5
          have h32 : (2 : Int) ^ 5 = 32 := by decide
          omega
        have ei : inW W (W.getD k ([], 0)).1 = true := List.any_eq_true.mpr ⟨_, getD_mem hk, by simp⟩
        rw [e0]
        unfold wordR
        rw [ec]
        dsimp only
        rw [if_pos ⟨ei, by simp⟩, numT_nm r1 lt]
        exact e
      · rw [hl j hj, lookT_put]
        by_cases jk : j = k
        · rw [jk]
          by_cases z : k ∈ ks ∧ chg bf row k = true
          · rw [if_pos z, if_pos ⟨List.mem_cons_self, c⟩]
          · rw [if_neg z, if_pos rfl, if_pos ⟨List.mem_cons_self, c⟩]
        · rw [if_neg (fun q => jk (nm_inj w.nd hk hj q).symm)]
          simp [jk]
    · obtain ⟨pl', e, hl⟩ := ih pl
      refine ⟨pl', ?_, fun j hj => ?_⟩
      · have e0 : partsF W bf row (k :: ks) = partsF W bf row ks := by
          unfold partsF
          rw [List.filter_cons_of_neg c]
        rw [e0]
        exact e
      · rw [hl j hj]
        by_cases jk : j = k
        · rw [jk]
          rw [if_neg (fun q => c q.2), if_neg (fun q => c q.2)]
        · simp [jk]
theorem words_all (w : WG W) (hr : RG1 W row) {pl : List (List Nat × Int)} (hp : ∀ r, bf = some r → ∀ j, j < W.length → look pl (W.getD j ([], 0)).1 = some (r.getD j 0)) : ∃ pl', wordR W pl (partsL W bf row) = some pl' ∧ ∀ j, j < W.length → look pl' (W.getD j ([], 0)).1 = some (row.getD j 0) := by
  obtain ⟨pl', e, h⟩ := words_of (bf := bf) w hr (List.range W.length) pl fun k hk => List.mem_range.mp hk
  refine ⟨pl', e, fun j hj => ?_⟩
  rw [h j hj]
  by_cases c : chg bf row j = true
  · rw [if_pos ⟨List.mem_range.mpr hj, c⟩]
  · rw [if_neg fun q => c q.2]
    unfold chg at c
    cases bf with
    | none => exact absurd rfl c
    | some b =>
      rw [hp b rfl j hj]
      congr 1
      simpa using c
/-- no changes: the same row -/
theorem parts_nil (w : WG W) (hr : RG1 W row) (hb : ∀ r, bf = some r → r.length = W.length) (h : partsL W bf row = []) : bf = some row := by
  have hc : ∀ k, k < W.length → ¬ chg bf row k = true := fun k hk => by
    unfold partsL partsF at h
    have := List.map_eq_nil_iff.mp h
    rw [List.filter_eq_nil_iff] at this
    exact this k (List.mem_range.mpr hk)
  have l0 : 0 < W.length := List.length_pos_iff.mpr w.ne
  cases bf with
  | none => exact absurd rfl (hc 0 l0)
  | some b =>
    congr 1
    refine List.ext_getElem ((hb b rfl).trans hr.1.symm) fun k h1 h2 => ?_
    have := hc k (by rw [hb b rfl] at h1; exact h1)
    unfold chg at this
    simp only [decide_eq_true_eq, ne_eq, Decidable.not_not] at this
    rw [List.getD_eq_getElem?_getD, List.getD_eq_getElem?_getD, List.getElem?_eq_getElem h1, List.getElem?_eq_getElem h2] at this
    exact this
end
end K18

set_option Elab.async false
set_option linter.all false
set_option maxRecDepth 100000
set_option maxHeartbeats 4000000
namespace K18
open PySem PySem.Spec PyProof.Rows L2 Y TL
section
variable {W : List (List Nat × Int)} {bf : Option (List Int)} {row : List Int}
theorem part_free (w : WG W) {k s : Nat} (hk : k < W.length) (hs : s < 48) : s ∉ partL W row k := by
  obtain ⟨_, n2, _⟩ := w.nm _ (getD_mem hk)
  unfold partL nmI
  rw [List.mem_append, List.mem_append]
  rintro ((h | h) | h)
  · exact aln_free n2 hs h
  · rw [List.mem_singleton.mp h] at hs
    omega
  · exact numL_free (.inl hs) h
theorem parts_free (w : WG W) {s : Nat} (hs : s < 48) : ∀ x ∈ partsL W bf row, s ∉ x := fun x hx => by
  unfold partsL partsF at hx
  obtain ⟨k, hk, rfl⟩ := List.mem_map.mp hx
  exact part_free w (List.mem_range.mp (List.mem_filter.mp hk).1) hs
theorem beat_free (w : WG W) {b s : Nat} (hs : s < 32) : s ∉ beatL b (partsL W bf row) := fun h => by
  have key : ∀ l : List (List Nat), (∀ x ∈ l, s ∉ x) → s ∉ TL.joinL [32] l := fun l => by
    induction l with
    | nil => exact fun _ h => nomatch h
    | cons a r ih =>
      intro hx
      cases r with
      | nil => exact hx a List.mem_cons_self
      | cons c r =>
        show s ∉ a ++ ([32] ++ TL.joinL [32] (c :: r))
        rw [List.mem_append, List.mem_append]
        rintro (h | h | h)
        · exact hx a List.mem_cons_self h
        · have := List.mem_singleton.mp h
          omega
        · exact ih (fun x h => hx x (List.mem_cons_of_mem _ h)) h
  refine key _ (fun x hx => ?_) h
  rcases List.mem_cons.mp hx with rfl | hx
  · rw [List.mem_append]
    rintro (h | h)
    · have := List.mem_singleton.mp h
      omega
    · exact numL_free (.inl (by omega)) h
  · exact parts_free w (by omega) x hx
theorem beat_spl (w : WG W) {b : Nat} : spl [32] 0 [] (beatL b (partsL W bf row)) = ([35] ++ numL b) :: partsL W bf row := by
  refine spl_join (by simp) fun x hx => ?_
  rcases List.mem_cons.mp hx with rfl | hx
  · rw [List.mem_append]
    rintro (h | h)
    · exact absurd (List.mem_singleton.mp h) (by decide)
    · exact numL_free (.inl (by decide)) h
  · exact parts_free w (by decide) x hx
theorem beatN_ok {b : Nat} {ps : List (List Nat)} (h : b < 1000) : beatN (([35] ++ numL b) :: ps) = some (b : Int) := by
  unfold beatN
  show (if (some 35 : Option Nat) = some 35 then numT (numL b) else some (-1)) = _
  rw [if_pos rfl, numT_ok (by omega)]
/-- one line that is read -/
theorem line_of (w : WG W) (hr : RG1 W row) {R : List (List Int)} {pl : List (List Nat × Int)} {b : Nat} (hb : b < 1000) (hR : R.length ≤ b) (h0 : 0 < b → R ≠ []) (hp : ∀ r, bf = some r → RG1 W r ∧ ∀ j, j < W.length → look pl (W.getD j ([], 0)).1 = some (r.getD j 0)) {full : List (List Int)} (hf : R.length = b ∧ full = R ∨ ∃ r, bf = some r ∧ full = R ++ List.replicate (b - R.length) r) : ∃ pl', lineR W R pl (beatL b (partsL W bf row)) = some (full ++ [row], pl') ∧ ∀ j, j < W.length → look pl' (W.getD j ([], 0)).1 = some (row.getD j 0) := by
  obtain ⟨pl', e, hl⟩ := words_all (bf := bf) w hr (pl := pl) fun r h => (hp r h).2
  refine ⟨pl', ?_, hl⟩
  have ea : addR W pl' = some row := addR_of hr.1 fun k hk => ⟨hl k hk, hr.2 k hk⟩
  have es : stayR W pl R ((b : Int) - (R.length : Int)).toNat = some full := by
    have en : ((b : Int) - (R.length : Int)).toNat = b - R.length := by omega
    rw [en]
    unfold stayR
    rcases hf with ⟨h1, h2⟩ | ⟨r, h1, h2⟩
    · rw [if_pos (by omega), h2]
    · by_cases z : b - R.length = 0
      · rw [if_pos z, h2, z]
        simp
      · obtain ⟨p1, p2⟩ := hp r h1
        rw [if_neg z, addR_of p1.1 fun k hk => ⟨p2 k hk, p1.2 k hk⟩, h2]
        rfl
  unfold lineR
  rw [beat_spl w, beatN_ok hb]
  dsimp only
  rw [if_neg (by
    rintro (h | h | h)
    · omega
    · omega
    · exact h0 (by omega) h.2), es]
  dsimp only
  rw [List.drop_succ_cons, List.drop_zero, e]
  dsimp only
  rw [ea]
theorem lines_of (w : WG W) : ∀ (rest : List (List Int)) (bf : Option (List Int)) (R full : List (List Int)) (pl : List (List Nat × Int)) (b n : Nat), (∀ r ∈ rest, RG1 W r) → n = b + rest.length → n ≤ 1000 → full.length = b → R.length ≤ b → (0 < b → R ≠ []) → (bf = none ↔ b = 0) → (∀ r, bf = some r → RG1 W r ∧ ∀ j, j < W.length → look pl (W.getD j ([], 0)).1 = some (r.getD j 0)) → (full = R ∨ rest ≠ [] ∧ ∃ r, bf = some r ∧ full = R ++ List.replicate (b - R.length) r) → linesR W R pl (blL W n b bf rest) = some (full ++ rest)
  | [], bf, R, full, pl, b, n, hr, hn, hz, hl, hR, h0, hb, hp, hf => by
    rcases hf with h | h
    · rw [h, List.append_nil]
      rfl
    · exact absurd rfl h.1
  | row :: rest, bf, R, full, pl, b, n, hr, hn, hz, hl, hR, h0, hb, hp, hf => by
    rw [List.length_cons] at hn
    have hrow := hr row List.mem_cons_self
    have hrs : ∀ r ∈ rest, RG1 W r := fun r h => hr r (List.mem_cons_of_mem _ h)
    unfold blL
    by_cases c : partsL W bf row ≠ [] ∨ b + 1 = n
    · rw [if_pos c]
      obtain ⟨pl', e, h'⟩ := line_of (full := full) w hrow (R := R) (pl := pl) (b := b) (bf := bf) (by omega) hR h0 hp (by
        rcases hf with h | ⟨_, h⟩
        · exact .inl ⟨by rw [← h]; exact hl, h⟩
        · exact .inr h)
      rw [List.singleton_append]
      unfold linesR
      rw [e]
      dsimp only
      have ih := lines_of w rest (some row) (full ++ [row]) (full ++ [row]) pl' (b + 1) n hrs (by omega) hz (by rw [List.length_append, hl]; rfl) (by rw [List.length_append, hl]; exact Nat.le_refl _) (fun _ => by simp) (by simp) (fun r h => by cases h; exact ⟨hrow, h'⟩) (.inl rfl)
      rw [ih, List.append_assoc]
      rfl
    · rw [if_neg c, List.nil_append]
      have pn : partsL W bf row = [] := Decidable.byContradiction fun h => c (.inl h)
      have eb := parts_nil w hrow (fun r h => (hp r h).1.1) pn
      subst eb
      have rn : rest ≠ [] := fun h => c (.inr (by rw [hn, h]; rfl))
      have b0 : 0 < b := by
        cases b with
        | zero =>
          exact absurd (hb.mpr rfl) (by simp)
        | succ b => omega
      have ih := lines_of w rest (some row) R (full ++ [row]) pl (b + 1) n hrs (by omega) hz (by rw [List.length_append, hl]; rfl) (by omega) (fun _ => h0 b0) (by simp) hp (.inr ⟨rn, row, rfl, by
        rcases hf with h | ⟨_, r, hq, h⟩
        · rw [h] at hl ⊢
          rw [hl, show b + 1 - b = 1 by omega]
          rfl
        · cases hq
          rw [h, List.append_assoc, show b + 1 - R.length = (b - R.length) + 1 by omega, List.replicate_succ']⟩)
      rw [ih, List.append_assoc]
      rfl
end
end K18

set_option Elab.async false
set_option linter.all false
set_option maxRecDepth 100000
set_option maxHeartbeats 4000000
namespace K18
open PySem PySem.Spec PyProof.Rows L2 Y TL
theorem splT : ∀ {l : List (List Nat)} {rest : List Nat}, (∀ p ∈ l, 10 ∉ p) → spl [10] 0 [] ((l.map (· ++ [10])).flatten ++ rest) = l ++ spl [10] 0 [] rest
  | [], rest, _ => rfl
  | p :: l, rest, h => by
    have e : (((p :: l).map (· ++ [10])).flatten ++ rest) = p ++ ([10] ++ ((l.map (· ++ [10])).flatten ++ rest)) := by simp
    rw [e]
    have := spl_part1 (s := 10) (S := []) (p := p) (rest := (l.map (· ++ [10])).flatten ++ rest) (acc := []) (h p List.mem_cons_self)
    rw [this, splT fun q hq => h q (List.mem_cons_of_mem _ hq)]
    rfl
theorem hd_free {q : List Nat × Int} (h : q.1.all alnB = true) : 10 ∉ hdL q := by
  unfold hdL nmI
  rw [List.mem_append, List.mem_append]
  rintro ((h' | h') | h')
  · exact aln_free h (by decide) h'
  · exact absurd (List.mem_singleton.mp h') (by decide)
  · exact numL_free (.inl (by decide)) h'
theorem bl_free {W : List (List Nat × Int)} (w : WG W) : ∀ {n b : Nat} {bf : Option (List Int)} {rs : List (List Int)}, ∀ x ∈ blL W n b bf rs, 10 ∉ x
  | n, b, bf, [], x, hx => nomatch hx
  | n, b, bf, row :: r, x, hx => by
    unfold blL at hx
    rcases List.mem_append.mp hx with hx | hx
    · split at hx
      · rw [List.mem_singleton.mp hx]
        exact beat_free w (by decide)
      · cases hx
    · exact bl_free w x hx
theorem wave_spl {W : List (List Nat × Int)} (w : WG W) {rows : List (List Int)} : spl [10] 0 [] (waveT W rows) = waveL W rows ++ [[]] := by
  have h : ∀ p ∈ waveL W rows, 10 ∉ p := fun p hp => by
    unfold waveL at hp
    rcases List.mem_append.mp hp with hp | hp
    · rcases List.mem_append.mp hp with hp | hp
      · obtain ⟨q, hq, rfl⟩ := List.mem_map.mp hp
        exact hd_free (w.nm q hq).2.1
      · rw [List.mem_singleton.mp hp]
        exact fun h => nomatch h
    · exact bl_free w p hp
  have := splT (rest := []) h
  rw [List.append_nil] at this
  exact this
theorem read_wave {W : List (List Nat × Int)} (w : WG W) {rows : List (List Int)} (hr : RG W rows) : readW (waveT W rows) = some (W, rows) := by
  have sp := wave_spl w (rows := rows)
  have ln := heads_hd w.nm w.wd
  have hm : midN (waveL W rows ++ [[]]) = (W.map hdL).length := by
    unfold midN waveL
    rw [List.append_assoc, List.append_assoc, List.findIdx_append]
    have h1 : List.findIdx (fun l : List Nat => decide (l = [])) (W.map hdL) = (W.map hdL).length := by
      rw [List.findIdx_eq_length]
      intro x hx
      obtain ⟨q, _, rfl⟩ := List.mem_map.mp hx
      simp [hdL]
    rw [h1, if_neg (Nat.lt_irrefl _)]
    have h2 : ([[]] ++ (blL W rows.length 0 none rows ++ [[]]) : List (List Nat)) = [] :: (blL W rows.length 0 none rows ++ [[]]) := rfl
    rw [h2, List.findIdx_cons]
    simp
  have hl : linesR W [] [] (blL W rows.length 0 none rows) = some rows := by
    have := lines_of w rows none [] [] [] 0 rows.length hr.2 (Nat.zero_add _).symm (by have := hr.1; omega) rfl (Nat.le_refl _) (fun h => absurd h (Nat.lt_irrefl _)) (by simp) (fun r h => by cases h) (.inl rfl)
    exact this
  unfold readW
  rw [sp, List.dropLast_concat, List.getLast?_concat, hm]
  have h3 : [] ∈ waveL W rows := by
    unfold waveL
    exact List.mem_append_left _ (List.mem_append_right _ (List.mem_singleton.mpr rfl))
  rw [if_neg (by
    rintro (h | h)
    · exact h rfl
    · exact h h3)]
  have e1 : (waveL W rows ++ [[]]).take (W.map hdL).length = W.map hdL := by
    unfold waveL
    rw [List.append_assoc, List.append_assoc, List.take_left]
  have e2 : (waveL W rows).drop ((W.map hdL).length + 1) = blL W rows.length 0 none rows := by
    unfold waveL
    have : (W.map hdL).length + 1 = (W.map hdL ++ [[]]).length := by rw [List.length_append]; rfl
    rw [this, List.drop_left]
  rw [e1, e2, ln]
  dsimp only
  rw [if_neg (by rw [merge_len W [] w.nd (fun _ _ p hp => nomatch hp)]; simp), hl]
  rfl
/-! ### changes -/
/-- the changes as the law tells them -/
def chL (k : Nat) : Int → Option (List Int) → List (List Int) → List (Int × Int)
  | _, _, [] => []
  | b, bf, row :: r => (if chg bf row k = true then [(b, row.getD k 0)] else []) ++ chL k (b + 1) (some row) r
theorem ch_eq {k : Nat} : ∀ {rows : List (List Int)} {b : Int} {bf : Option (List Int)}, chR k b (bf.map fun r => r.getD k 0) rows = chL k b bf rows
  | [], _, _ => rfl
  | row :: r, b, bf => by
    unfold chR chL
    have ih := ch_eq (k := k) (rows := r) (b := b + 1) (bf := some row)
    have ih : chR k (b + 1) (some (row.getD k 0)) r = chL k (b + 1) (some row) r := ih
    cases bf with
    | none => rw [Option.map_none, if_neg (by simp), ih]; rfl
    | some q =>
      rw [Option.map_some]
      by_cases h : q.getD k 0 = row.getD k 0
      · rw [if_pos (by rw [h]), h, ih]
        have : chg (some q) row k = false := decide_eq_false (not_not_intro h)
        rw [this]
        rfl
      · rw [if_neg (fun z => h (Option.some.inj z)), ih]
        have : chg (some q) row k = true := decide_eq_true h
        rw [this]
        rfl
/-! ### the first unlike place -/
theorem fu_cons {W : List (List Nat × Int)} {b : Nat} {x y : List Int} {xs ys : List (List Int)} : fuO W b (x :: xs) (y :: ys) = match (List.range W.length).find? (unl x y) with
  | some k => some (b, k)
  | none => fuO W (b + 1) xs ys := rfl
theorem fu_refl {W : List (List Nat × Int)} : ∀ {xs : List (List Int)} {b : Nat}, fuO W b xs xs = none
  | [], _ => rfl
  | x :: xs, b => by
    rw [fu_cons, List.find?_eq_none.mpr (fun k _ => by simp [unl])]
    exact fu_refl
end K18

set_option Elab.async false
set_option linter.all false
set_option maxRecDepth 100000
set_option maxHeartbeats 4000000
namespace K18
open PySem PySem.Spec PyProof.Rows L2 Y TL
abbrev GG (x0 x1 x2 x3 x4 x5 x6 x7 x8 x9 x10 x11 x12 x13 x14 x15 x16 x17 x18 x19 : Option D) : Gm := [x0, x1, x2, x3, x4, x5, x6, x7, x8, x9, x10, x11, x12, x13, x14, x15, x16, x17, x18, x19]
theorem nx_sqr {S : Sr} {n idx : Nat} (h : idx < n) : (sqr 0 1 n).nxt idx S = some (some (.int (idx : Int))) := by
  simp [sqr, h]
theorem nx_sqrE {S : Sr} {n idx : Nat} (h : n ≤ idx) : (sqr 0 1 n).nxt idx S = some none := by
  simp [sqr, Nat.not_lt.mpr h]
section
variable {S : Sr} {i wl iw ir rl : Nat} {W : List (List Nat × Int)} {rows : List (List Int)} {row : List Int} {g : Gm} {x0 x2 x3 x4 x5 x6 x7 x8 x9 x10 x11 x12 x13 x14 x15 x16 x17 x18 x19 : Option D}
abbrev eRoll (m : ME) : ME := mCall f__law_roll 2 [] (mCons (mVar 1) (mCons m mNil))
theorem roll_e {e : ME} {m : Int} (h1 : g[1]? = some (some (.adr i))) (d : DiceAt S i) (he : e g S = .ok (.int m) S) (h0 : 0 < m) (hm : m ≤ 100000000) : ∃ r x, 0 ≤ r ∧ r < m ∧ eRoll e g S = .ok (.int r) (S.put i x) ∧ DiceAt (S.put i x) i := by
  obtain ⟨r, x, a, b, e1, d1⟩ := roll_at d h0 hm
  refine ⟨r, x, a, b, ?_, d1⟩
  simp (decide := true) only [eRoll, mCall, mCons, mNil, mVar, SM.bind, SM.pure, h1, he, e1, List.length_cons, List.length_nil, if_true, List.append_nil]
def NMS : List (List Nat) := [[97], [98, 49], [99, 108, 111, 99, 107], [120]]
/-! ### tables of rows -/
def pairT (W : List (List Nat × Int)) (row : List Int) : List (List Nat × Int) := (List.range W.length).map fun k => ((W.getD k ([], 0)).1, row.getD k 0)
theorem pairT_names : (pairT W row).map (·.1) = W.map (·.1) := by
  unfold pairT
  refine List.ext_getElem (by simp) fun k h1 h2 => ?_
  have hk : k < W.length := by simpa using h2
  rw [List.getElem_map, List.getElem_map, List.getElem_range, List.getElem_map, List.getD_eq_getElem?_getD, List.getElem?_eq_getElem hk]
  rfl
theorem look_nd : ∀ {pl : List (List Nat × Int)} {a : List Nat} {v : Int}, (pl.map (·.1)).Nodup → (a, v) ∈ pl → look pl a = some v
  | [], _, _, _, h => nomatch h
  | q :: pl, a, v, nd, h => by
    rw [List.map_cons, List.nodup_cons] at nd
    rw [look_cons']
    rcases List.mem_cons.mp h with e | h
    · rw [if_pos (by rw [← e]), ← e]
    · rw [if_neg (fun z => nd.1 (List.mem_map.mpr ⟨_, h, z.symm⟩)), look_nd nd.2 h]
theorem look_pair (nd : (W.map (·.1)).Nodup) {k : Nat} (hk : k < W.length) : look (pairT W row) (W.getD k ([], 0)).1 = some (row.getD k 0) := look_nd (by rw [pairT_names]; exact nd) (List.mem_map.mpr ⟨k, List.mem_range.mpr hk, rfl⟩)
theorem add_pair (w : WG W) (hr : RG1 W row) : addR W (pairT W row) = some row := addR_of hr.1 fun k hk => ⟨look_pair w.nd hk, hr.2 k hk⟩
theorem merge_id : ∀ (W : List (List Nat × Int)) (acc : List (Key × D)), (W.map (·.1)).Nodup → (∀ q ∈ W, ∀ p ∈ acc, p.1 ≠ Sum.inr (sg q.1)) → mergeD acc (kwW W) = acc ++ kwW W
  | [], acc, _, _ => (List.append_nil _).symm
  | q :: r, acc, nd, h => by
    rw [List.map_cons, List.nodup_cons] at nd
    have e : putD acc (Sum.inr (sg q.1)) (.int q.2) = acc ++ [(Sum.inr (sg q.1), .int q.2)] := by
      unfold putD
      rw [if_neg]
      rw [List.any_eq_true]
      rintro ⟨p, hp, hq⟩
      exact h q List.mem_cons_self p hp (of_decide_eq_true hq)
    show mergeD (putD acc (Sum.inr (sg q.1)) (.int q.2)) (kwW r) = _
    rw [e, merge_id r _ nd.2, List.append_assoc]
    · rfl
    · intro p hp z hz
      rcases List.mem_append.mp hz with hz | hz
      · exact h p (List.mem_cons_of_mem _ hp) z hz
      · rw [List.mem_singleton.mp hz]
        intro hh
        have := sg_inj.mp (Sum.inr.inj hh)
        exact nd.1 (this ▸ List.mem_map.mpr ⟨p, hp, rfl⟩)
theorem pairsD_W : ∀ W : List (List Nat × Int), pairsD (W.map widD) = some (kwW W)
  | [] => rfl
  | q :: W => by
    have ih := pairsD_W W
    rw [List.map_cons]
    unfold pairsD
    simp only [ih, keyD]
    rfl
theorem dict_W {S : Sr} {L : Nat} {pl : List (List Nat × Int)} (h : S.f L = some (.lst (pl.map widD))) (nd : (pl.map (·.1)).Nodup) : fDictB [.adr L] S = .ok (.adr S.n) (S.alloc (.dic (plD pl))) := by
  have e : mergeD [] (kwW pl) = plD pl := merge_id pl [] nd fun _ _ p hp => nomatch hp
  unfold fDictB
  show fDict [D.adr L] S = _
  simp only [fDict, h, pairsD_W, e]
abbrev ePair : ME := mTup (mCons (mB dIx (mB dIx (mVar 2) (mVar 9)) (mC (.int 0))) (mCons (mB dIx (mVar 6) (mVar 9)) mNil))
abbrev eDict : ME := mCB fDictB (mCons (mLc (mRng1 (mCons (mCB fLen (mCons (mVar 6) mNil)) mNil)) (.nm 9) mYes ePair [9]) mNil)
theorem pair_loop {S0 : Sr} {D0 : Nat} {g0 : Gm} (h2 : g0[2]? = some (some (.adr wl))) (h6 : g0[6]? = some (some (valD row))) (h9 : 9 < g0.length) (hw : S0.f wl = some (.lst (W.map widD))) (hl : wl < S0.n) (hD : S0.n ≤ D0) (hr : row.length = W.length) (hz : W.length ≤ 10) : ∀ (r idx : Nat) (acc : List (List Nat × Int)) (S : Sr), idx + r = W.length → acc.length ≤ idx → Xt S0 S → S.f D0 = some (.lst (acc.map widD)) →
    lcG (sqr 0 1 W.length) (.nm 9) mYes ePair g0 D0 r idx S = .ok () (S.put D0 (.lst ((acc ++ (pairT W row).drop idx).map widD)))
  | 0, idx, acc, S, h, _, xt, fD => by
    rw [List.drop_eq_nil_of_le (by unfold pairT; rw [List.length_map, List.length_range]; omega), List.append_nil, put_same fD]
    exact lc_end (nx_sqrE (by omega))
  | r + 1, idx, acc, S, h, hc, xt, fD => by
    have hi : idx < W.length := by omega
    have sz2 : 2 ≤ sizeLine := by rw [sizeLine_eq]; omega
    have tp : (Tg.nm 9).put (.int (idx : Int)) g0 = some (g0.set 9 (some (.int (idx : Int)))) := by
      simp [Tg.put, h9]
    have q2 : (g0.set 9 (some (.int (idx : Int))))[2]? = some (some (.adr wl)) := by
      rw [List.getElem?_set_ne (by decide)]; exact h2
    have q6 : (g0.set 9 (some (.int (idx : Int))))[6]? = some (some (valD row)) := by
      rw [List.getElem?_set_ne (by decide)]; exact h6
    have q9 : (g0.set 9 (some (.int (idx : Int))))[9]? = some (some (.int (idx : Int))) := by
      rw [List.getElem?_set_self h9]
    have fw := xt.at_ hw hl
    have i1 : dIx (.adr wl) (.int (idx : Int)) S = .ok (widD W[idx]) S := ixL fw (by omega) (by
      rw [Int.toNat_natCast, List.getElem?_map, List.getElem?_eq_getElem hi]
      rfl)
    have i2 : dIx (widD W[idx]) (.int 0) S = .ok (strL W[idx].1) S := ixT0
    have i3 : dIx (valD row) (.int (idx : Int)) S = .ok (.int row[idx]) S := ixV (by omega)
    have ee : ePair (g0.set 9 (some (.int (idx : Int)))) S = .ok (widD (W[idx].1, row[idx])) S := by
      simp (decide := true) only [ePair, mTup, mCons, mNil, mB, mVar, mC, SM.bind, SM.pure, q2, q6, q9, i1, i2, i3, List.length_cons, List.length_nil, if_true, sz2]
    have e1 := lc_nx (r := r) (mt := mYes) (nx_sqr (S := S) hi) tp rfl ee fD (by rw [List.length_map, sizeLine_eq]; omega)
    have ea : acc.map widD ++ [widD (W[idx].1, row[idx])] = (acc ++ [(W[idx].1, row[idx])]).map widD := by rw [List.map_append]; rfl
    rw [ea] at e1
    have dr : (pairT W row).drop idx = (W[idx].1, row[idx]) :: (pairT W row).drop (idx + 1) := by
      unfold pairT
      rw [List.drop_eq_getElem_cons (by rw [List.length_map, List.length_range]; exact hi)]
      congr 1
      rw [List.getElem_map, List.getElem_range, List.getD_eq_getElem?_getD, List.getElem?_eq_getElem hi, List.getD_eq_getElem?_getD, List.getElem?_eq_getElem (by omega : idx < row.length)]
      rfl
    rw [e1, pair_loop h2 h6 h9 hw hl hD hr hz r (idx + 1) (acc ++ [(W[idx].1, row[idx])]) _ (by omega) (by rw [List.length_append, List.length_singleton]; omega) (xt.put hD) at_put, put_put, List.append_assoc, dr]
    rfl
theorem eDict_ok (h2 : g[2]? = some (some (.adr wl))) (h6 : g[6]? = some (some (valD row))) (h9 : 9 < g.length) (hw : S.f wl = some (.lst (W.map widD))) (hl : wl < S.n) (hr : row.length = W.length) (w : WG W) : ∃ S', eDict g S = .ok (.adr (S.n + 1)) S' ∧ S'.f (S.n + 1) = some (.dic (plD (pairT W row))) ∧ Xt S S' ∧ S'.n = S.n + 2 := by
  have hz := w.len
  let S1 : Sr := (S.alloc (.lst [])).put S.n (.lst ((pairT W row).map widD))
  have lenE : mCB fLen (mCons (mVar 6) mNil) g S = .ok (.int (W.length : Nat)) S := by
    have : fLen [valD row] S = .ok (.int (W.length : Nat)) S := by
      simp [fLen, lenD, hr]
    simp only [mCB, mCons, mNil, mVar, SM.bind, SM.pure, h6, this]
  have er : mRng1 (mCons (mCB fLen (mCons (mVar 6) mNil)) mNil) g S = .ok (sqr 0 1 W.length) S := rng_of (by simp only [mCons, mNil, SM.bind, SM.pure, lenE]) rfl (by omega)
  have L := pair_loop (S0 := S) (D0 := S.n) (g0 := wipeD g [9]) (row := row) (W := W) (wl := wl) (by
      show ((g.set 9 none))[2]? = _
      rw [List.getElem?_set_ne (by decide)]; exact h2) (by
      show ((g.set 9 none))[6]? = _
      rw [List.getElem?_set_ne (by decide)]; exact h6) (by
      show 9 < (g.set 9 none).length
      rw [List.length_set]; exact h9) hw hl (Nat.le_refl _) hr (by omega) W.length 0 [] (S.alloc (.lst [])) (Nat.zero_add _) (Nat.le_refl _) Xt.alloc at_new
  rw [List.drop_zero, List.nil_append] at L
  have em : mLc (mRng1 (mCons (mCB fLen (mCons (mVar 6) mNil)) mNil)) (.nm 9) mYes ePair [9] g S = .ok (.adr S.n) S1 := mLc_ok er L
  have ed := dict_W (S := S1) (L := S.n) at_put (by rw [pairT_names]; exact w.nd)
  refine ⟨S1.alloc (.dic (plD (pairT W row))), ?_, at_new, (Xt.alloc.put (Nat.le_refl _)).alloc', rfl⟩
  show SM.bind (mCons _ mNil g) _ S = _
  simp only [mCons, mNil, SM.bind, SM.pure, em, ed]
  rfl
end
end K18

set_option Elab.async false
set_option linter.all false
set_option maxRecDepth 100000
set_option maxHeartbeats 4000000
namespace K18
open PySem PySem.Spec PyProof.Rows L2 Y TL
section
variable {S : Sr} {i wl iw ir rl : Nat} {W : List (List Nat × Int)} {rows : List (List Int)} {row : List Int} {g : Gm} {x0 x2 x3 x4 x5 x6 x7 x8 x9 x10 x11 x12 x13 x14 x15 x16 x17 x18 x19 : Option D}
abbrev eNms : ME := mLst (mCons (mC (.str "a")) (mCons (mC (.str "b1")) (mCons (mC (.str "clock")) (mCons (mC (.str "x")) mNil))))
theorem nms_ok : eNms g S = .ok (.adr S.n) (S.alloc (.lst (NMS.map strL))) := by
  have sz4 : 4 ≤ sizeLine := by rw [sizeLine_eq]; omega
  have e : NMS = [wd "a", wd "b1", wd "clock", wd "x"] := by decide +kernel
  rw [e]
  simp (decide := true) only [eNms, mLst, mCons, mNil, mC, SM.bind, SM.pure, List.length_cons, List.length_nil, if_true, sz4, List.map_cons, List.map_nil, strL_wd]
abbrev eWid : ME := mTup (mCons (mB dIx eNms (mVar 9)) (mCons (mB dAdd (mC (.int 1)) (eRoll (mC (.int 5)))) mNil))
theorem wid_loop {n : Nat} (hn : n ≤ 4) {S0 : Sr} {D0 : Nat} {g0 : Gm} (h1 : g0[1]? = some (some (.adr i))) (h9 : 9 < g0.length) (hi : i < S0.n) (hD : S0.n ≤ D0) : ∀ (r idx : Nat) (acc : List (List Nat × Int)) (S : Sr), idx + r = n → acc.map (·.1) = NMS.take idx → (∀ q ∈ acc, 1 ≤ q.2 ∧ q.2 ≤ 5) → Fr [i] S0 S → D0 < S.n → DiceAt S i → S.f D0 = some (.lst (acc.map widD)) →
    ∃ (W : List (List Nat × Int)) (S' : Sr), lcG (sqr 0 1 n) (.nm 9) mYes eWid g0 D0 r idx S = .ok () S' ∧ W.map (·.1) = NMS.take n ∧ (∀ q ∈ W, 1 ≤ q.2 ∧ q.2 ≤ 5) ∧ Fr [i] S0 S' ∧ D0 < S'.n ∧ DiceAt S' i ∧ S'.f D0 = some (.lst (W.map widD))
  | 0, idx, acc, S, h, hA, hB, fr, hd, d, fD => by
    have : idx = n := by omega
    subst this
    exact ⟨acc, S, lc_end (nx_sqrE (by omega)), hA, hB, fr, hd, d, fD⟩
  | r + 1, idx, acc, S, h, hA, hB, fr, hd, d, fD => by
    have hx : idx < n := by omega
    have hN : idx < NMS.length := by show idx < 4; omega
    have sz2 : 2 ≤ sizeLine := by rw [sizeLine_eq]; omega
    have aL : acc.length = idx := by
      have := congrArg List.length hA
      rw [List.length_map, List.length_take] at this
      have : NMS.length = 4 := rfl
      omega
    let g : Gm := g0.set 9 (some (.int (idx : Int)))
    have tp : (Tg.nm 9).put (.int (idx : Int)) g0 = some g := by
      simp [Tg.put, h9, g]
    have q1 : g[1]? = some (some (.adr i)) := by
      show (g0.set 9 _)[1]? = _
      rw [List.getElem?_set_ne (by decide)]; exact h1
    have q9 : g[9]? = some (some (.int (idx : Int))) := by
      show (g0.set 9 _)[9]? = _
      rw [List.getElem?_set_self h9]
    have i0 := fr.1
    let S1 : Sr := S.alloc (.lst (NMS.map strL))
    have d1 : DiceAt S1 i := dice_alloc d (by omega)
    obtain ⟨v, x, v0, v1, er, d2⟩ := roll_e (S := S1) (e := mC (.int 5)) (m := 5) q1 d1 rfl (by decide) (by decide)
    have i1 : dIx (.adr S.n) (.int (idx : Int)) S1 = .ok (strL NMS[idx]) S1 := ixL at_new (by omega) (by
      rw [Int.toNat_natCast, List.getElem?_map, List.getElem?_eq_getElem hN]
      rfl)
    have ee : eWid g S = .ok (widD (NMS[idx], 1 + v)) (S1.put i x) := by
      have e1 : mB dIx eNms (mVar 9) g S = .ok (strL NMS[idx]) S1 := by
        show SM.bind (eNms g) _ S = _
        unfold SM.bind
        rw [nms_ok]
        dsimp only
        simp only [mVar, SM.bind, q9, i1]
        exact i1
      have e2 : mB dAdd (mC (.int 1)) (eRoll (mC (.int 5))) g S1 = .ok (.int (1 + v)) (S1.put i x) := by
        simp only [mB, mC, SM.bind, SM.pure, er, dAdd, orF, okI, if_true]
      show SM.bind (mCons _ (mCons _ mNil) g) _ S = _
      simp (decide := true) only [mCons, mNil, SM.bind, SM.pure, e1, e2, List.length_cons, List.length_nil, if_true, sz2]
    have n1 : D0 ≠ i := by omega
    have e1 := lc_nx (r := r) (mt := mYes) (nx_sqr (S := S) hx) tp rfl ee (at_put_ne (at_old fD hd) n1) (by rw [List.length_map, sizeLine_eq]; omega)
    have ea : acc.map widD ++ [widD (NMS[idx], 1 + v)] = (acc ++ [(NMS[idx], 1 + v)]).map widD := by rw [List.map_append]; rfl
    rw [ea] at e1
    have fr2 : Fr [i] S0 ((S1.put i x).put D0 (.lst ((acc ++ [(NMS[idx], 1 + v)]).map widD))) := (fr.trans (Fr.alloc.trans (Fr.put (List.mem_singleton.mpr rfl)))).putNew hD
    obtain ⟨W, S', e2, r2⟩ := wid_loop hn h1 h9 hi hD r (idx + 1) (acc ++ [(NMS[idx], 1 + v)]) ((S1.put i x).put D0 (.lst ((acc ++ [(NMS[idx], 1 + v)]).map widD))) (by omega) (by
      rw [List.map_append, hA, List.map_singleton, List.take_succ_eq_append_getElem hN]) (fun q hq => by
      rcases List.mem_append.mp hq with hq | hq
      · exact hB q hq
      · rw [List.mem_singleton.mp hq]
        exact ⟨by dsimp only; omega, by dsimp only; omega⟩) fr2 (Nat.lt_succ_of_lt hd) (dice_put d2 (Ne.symm n1)) at_put
    exact ⟨W, S', e1.trans e2, r2⟩
theorem wg_of {n : Nat} (h0 : 0 < n) (hn : n ≤ 4) (hW : W.map (·.1) = NMS.take n) (hB : ∀ q ∈ W, 1 ≤ q.2 ∧ q.2 ≤ 5) : WG W := by
  have hl : W.length = n := by
    have := congrArg List.length hW
    rw [List.length_map, List.length_take] at this
    have : NMS.length = 4 := rfl
    omega
  refine ⟨fun h => ?_, by omega, ?_, fun q hq => ?_, hB⟩
  · rw [h] at hl
    simp at hl
    omega
  · rw [hW]
    exact (by decide +kernel : NMS.Nodup).sublist (List.take_sublist _ _)
  · have : q.1 ∈ NMS := List.mem_of_mem_take (hW ▸ List.mem_map.mpr ⟨q, hq, rfl⟩)
    have k : ∀ a ∈ NMS, a ≠ [] ∧ a.all alnB = true ∧ a.length ≤ 10 := by decide +kernel
    exact k _ this
theorem l110 (d : DiceAt S i) (hi : i < S.n) : ∃ (W : List (List Nat × Int)) (wl : Nat) (S' : Sr), b_law_s110 (GG x0 (some (.adr i)) x2 x3 x4 x5 x6 x7 x8 x9 x10 x11 x12 x13 x14 x15 x16 x17 x18 x19) S = .nx (GG x0 (some (.adr i)) (some (.adr wl)) x3 x4 x5 x6 x7 x8 x9 x10 x11 x12 x13 x14 x15 x16 x17 x18 x19) S' ∧ WG W ∧ S'.f wl = some (.lst (W.map widD)) ∧ S.n ≤ wl ∧ wl < S'.n ∧ Fr [i] S S' ∧ DiceAt S' i ∧ ∀ q ∈ W, q.1 ∈ NMS := by
  let g : Gm := GG x0 (some (.adr i)) x2 x3 x4 x5 x6 x7 x8 x9 x10 x11 x12 x13 x14 x15 x16 x17 x18 x19
  obtain ⟨v, x, v0, v1, er, d1⟩ := roll_e (S := S) (g := g) (e := mC (.int 4)) (m := 4) rfl d rfl (by decide) (by decide)
  let n : Nat := (1 + v).toNat
  have es : mRng1 (mCons (mB dAdd (mC (.int 1)) (eRoll (mC (.int 4)))) mNil) g S = .ok (sqr 0 1 n) (S.put i x) := by
    have : mCons (mB dAdd (mC (.int 1)) (eRoll (mC (.int 4)))) mNil g S = .ok [.int (1 + v)] (S.put i x) := by
      simp only [mCons, mNil, mB, mC, SM.bind, SM.pure, er, dAdd, orF, okI, if_true]
    have e2 : mRng1 (fun _ _ => .ok [.int (1 + v)] (S.put i x)) g (S.put i x) = .ok (sqr 0 1 n) (S.put i x) := rng_of rfl (by omega) (by omega)
    unfold mRng1 SM.bind at e2 ⊢
    rw [this]
    exact e2
  obtain ⟨W, S', e, hA, hB, fr, hd, d', fD⟩ := wid_loop (n := n) (by omega) (S0 := S.put i x) (D0 := (S.put i x).n) (g0 := wipeD g [9]) (i := i) rfl (show 9 < (20 : Nat) by decide) hi (Nat.le_refl _) n 0 [] ((S.put i x).alloc (.lst [])) (Nat.zero_add _) rfl (fun q h => nomatch h) Fr.alloc (Nat.lt_succ_self _) (dice_alloc d1 hi) at_new
  have em : mLc (mRng1 (mCons (mB dAdd (mC (.int 1)) (eRoll (mC (.int 4)))) mNil)) (.nm 9) mYes eWid [9] g S = .ok (.adr (S.put i x).n) S' := mLc_ok es e
  refine ⟨W, (S.put i x).n, S', ?_, wg_of (n := n) (by omega) (by omega) hA hB, fD, Nat.le_refl _, hd, (Fr.put (List.mem_singleton.mpr rfl)).trans fr, d', fun q hq => List.mem_of_mem_take (hA ▸ List.mem_map.mpr ⟨q, hq, rfl⟩)⟩
  show toRS _ _ = _
  unfold toRS
  rw [show (mLc (mRng1 (mCons (mB dAdd (mC (.int 1)) (eRoll (mC (.int 4)))) mNil)) (.nm 9) mYes eWid [9] g S) = _ from em]
  rfl
structure LW (S : Sr) (i wl iw ir rl : Nat) (W : List (List Nat × Int)) (rows : List (List Int)) : Prop where
  d : DiceAt S i
  w : S.f wl = some (.lst (W.map widD))
  v : WaveAt S iw ir W rows
  r : S.f rl = some (.lst (rows.map valD))
  lt : i < S.n ∧ wl < S.n ∧ rl < S.n
  ne : i ≠ wl ∧ i ≠ iw ∧ i ≠ ir ∧ i ≠ rl ∧ ir ≠ wl ∧ ir ≠ rl ∧ rl ≠ wl ∧ rl ≠ iw
theorem l111 (d : DiceAt S i) (hi : i < S.n) (hw : S.f wl = some (.lst (W.map widD))) (hl : wl < S.n) (hne : i ≠ wl) : ∃ iw ir rl S', b_law_s111 (GG x0 (some (.adr i)) (some (.adr wl)) x3 x4 x5 x6 x7 x8 x9 x10 x11 x12 x13 x14 x15 x16 x17 x18 x19) S = .nx (GG x0 (some (.adr i)) (some (.adr wl)) (some (.adr iw)) (some (.adr rl)) x5 x6 x7 x8 x9 x10 x11 x12 x13 x14 x15 x16 x17 x18 x19) S' ∧ LW S' i wl iw ir rl W [] ∧ Xt S S' ∧ S.n ≤ iw ∧ S.n ≤ ir ∧ S.n ≤ rl := by
  obtain ⟨S1, e, a, xt⟩ := e_init (S := S) (iL := wl) hw hl
  have sz2 : 2 ≤ sizeLine := by rw [sizeLine_eq]; omega
  have z0 : 0 ≤ sizeLine := Nat.zero_le _
  have lt := a.lt
  refine ⟨S.n, S.n + 1, S1.n, S1.alloc (.lst []), ?_, ⟨dice_alloc (Fr.dice (l := []) (Xt.fr xt) hi (by simp) d) (by have := xt.le; omega), xt.alloc'.at_ hw hl, a.xt Xt.alloc, at_new, ⟨by show i < S1.n + 1; omega, by show wl < S1.n + 1; omega, Nat.lt_succ_self _⟩, by omega⟩, xt.alloc', Nat.le_refl _, Nat.le_succ _, xt.le⟩
  let g : Gm := GG x0 (some (.adr i)) (some (.adr wl)) x3 x4 x5 x6 x7 x8 x9 x10 x11 x12 x13 x14 x15 x16 x17 x18 x19
  have g2 : g[2]? = some (some (.adr wl)) := rfl
  have em : mMake "Wave" f_Wave___init__ 2 [] (mCons (mVar 2) mNil) g S = .ok (.adr S.n) S1 := by
    simp (decide := true) only [mMake, mCons, mNil, mVar, SM.bind, SM.pure, g2, List.length_cons, List.length_nil, if_true, List.append_nil, e]
  have el : mLst mNil g S1 = .ok (.adr S1.n) (S1.alloc (.lst [])) := by
    simp only [mLst, mNil, SM.bind, SM.pure, List.length_nil, z0, if_true]
  have et : mTup (mCons (mMake "Wave" f_Wave___init__ 2 [] (mCons (mVar 2) mNil)) (mCons (mLst mNil) mNil)) g S = .ok (.tup [.adr S.n, .adr S1.n]) (S1.alloc (.lst [])) := by
    show SM.bind (mCons _ (mCons _ mNil) g) _ S = _
    simp (decide := true) only [mCons, SM.bind, em, el]
    simp (decide := true) only [mNil, SM.pure, List.length_cons, List.length_nil, if_true, sz2]
  show mAsg _ _ g S = _
  unfold mAsg
  rw [et]
  rfl
end
end K18

set_option Elab.async false
set_option linter.all false
set_option maxRecDepth 100000
set_option maxHeartbeats 4000000
namespace K18
open PySem PySem.Spec PyProof.Rows L2 Y TL
section
variable {S : Sr} {i wl iw ir rl : Nat} {W : List (List Nat × Int)} {rows : List (List Int)} {row : List Int} {g : Gm} {x0 x2 x3 x4 x5 x6 x7 x8 x9 x10 x11 x12 x13 x14 x15 x16 x17 x18 x19 : Option D}
theorem LW.mv {S' : Sr} {l : List Nat} (a : LW S i wl iw ir rl W rows) (f : Fr l S S') (h : wl ∉ l ∧ iw ∉ l ∧ ir ∉ l ∧ rl ∉ l) (d : DiceAt S' i) : LW S' i wl iw ir rl W rows := ⟨d, f.at a.lt.2.1 h.1 a.w, a.v.mv f h.2.1 h.2.2.1, f.at a.lt.2.2 h.2.2.2 a.r, ⟨Nat.lt_of_lt_of_le a.lt.1 f.1, Nat.lt_of_lt_of_le a.lt.2.1 f.1, Nat.lt_of_lt_of_le a.lt.2.2 f.1⟩, a.ne⟩
theorem LW.xt {S' : Sr} (a : LW S i wl iw ir rl W rows) (f : Xt S S') : LW S' i wl iw ir rl W rows := a.mv (l := []) (Xt.fr f) (by simp) (Fr.dice (l := []) (Xt.fr f) a.lt.1 (by simp) a.d)
theorem LW.fri {S' : Sr} (a : LW S i wl iw ir rl W rows) (f : Fr [i] S S') (d : DiceAt S' i) : LW S' i wl iw ir rl W rows := a.mv f (by
  obtain ⟨h1, h2, h3, h4, _⟩ := a.ne
  simp only [List.mem_singleton]
  exact ⟨Ne.symm h1, Ne.symm h2, Ne.symm h3, Ne.symm h4⟩) d
/-- a new row of drawn values -/
abbrev eVal : ME := eRoll (mB dShl (mC (.int 1)) (mVar 11))
theorem val_loop {S0 : Sr} {D0 : Nat} {g0 : Gm} (h1 : g0[1]? = some (some (.adr i))) (h9 : 11 < g0.length) (hi : i < S0.n) (hD : S0.n ≤ D0) (hw : S0.f wl = some (.lst (W.map widD))) (hl : wl < S0.n) (hne : i ≠ wl) (w : WG W) : ∀ (r idx : Nat) (acc : List Int) (S : Sr), idx + r = W.length → acc.length = idx → (∀ k, k < acc.length → 0 ≤ acc.getD k 0 ∧ acc.getD k 0 < 2 ^ ((W.getD k ([], 0)).2).toNat) → Fr [i] S0 S → D0 < S.n → DiceAt S i → S.f D0 = some (.lst (acc.map .int)) →
    ∃ (row : List Int) (S' : Sr), lcG (sqa wl W.length) (.tp [10, 11]) mYes eVal g0 D0 r idx S = .ok () S' ∧ RG1 W row ∧ Fr [i] S0 S' ∧ D0 < S'.n ∧ DiceAt S' i ∧ S'.f D0 = some (.lst (row.map .int))
  | 0, idx, acc, S, h, hA, hB, fr, hd, d, fD => by
    refine ⟨acc, S, lc_end ?_, ⟨by omega, fun k hk => hB k (by omega)⟩, fr, hd, d, fD⟩
    rw [nx_sqa (fr.at hl (by simp; omega) hw), List.getElem?_eq_none (by rw [List.length_map]; omega)]
  | r + 1, idx, acc, S, h, hA, hB, fr, hd, d, fD => by
    have hx : idx < W.length := by omega
    have wd := w.wd _ (List.getElem_mem hx)
    have wz := w.len
    let g : Gm := (g0.set 10 (some (strL W[idx].1))).set 11 (some (.int W[idx].2))
    have en : (sqa wl W.length).nxt idx S = some (some (widD W[idx])) := by
      rw [nx_sqa (fr.at hl (by simp; omega) hw), List.getElem?_map, List.getElem?_eq_getElem hx]
      rfl
    have tp : (Tg.tp [10, 11]).put (widD W[idx]) g0 = some g := by
      have : 10 < g0.length := by omega
      simp (decide := true) [Tg.put, h9, g, this, putAll]
      rfl
    have q1 : g[1]? = some (some (.adr i)) := by
      show ((g0.set 10 _).set 11 _)[1]? = _
      rw [List.getElem?_set_ne (by decide), List.getElem?_set_ne (by decide)]; exact h1
    have q11 : g[11]? = some (some (.int W[idx].2)) := by
      show ((g0.set 10 _).set 11 _)[11]? = _
      rw [List.getElem?_set_self (by rw [List.length_set]; exact h9)]
    have i0 := fr.1
    obtain ⟨k, hk⟩ : ∃ k : Nat, W[idx].2 = (k : Int) := ⟨W[idx].2.toNat, by omega⟩
    have hk5 : k ≤ 5 := by omega
    have p5 : 2 ^ k ≤ 32 := Nat.pow_le_pow_right (by decide : 2 > 0) hk5
    have p0 : 0 < 2 ^ k := Nat.pow_pos (by decide)
    have es : mB dShl (mC (.int 1)) (mVar 11) g S = .ok (.int ((2 ^ k : Nat) : Int)) S := by
      have := shl_n (k := k) (by omega) (S := S)
      simp only [mB, mC, mVar, SM.bind, SM.pure, q11, hk, this]
    obtain ⟨v, x, v0, v1, er, d2⟩ := roll_e (S := S) (e := mB dShl (mC (.int 1)) (mVar 11)) (m := ((2 ^ k : Nat) : Int)) q1 d es (by omega) (by omega)
    have n1 : D0 ≠ i := by omega
    have e1 := lc_nx (r := r) (mt := mYes) en tp rfl er (at_put_ne fD n1) (by rw [List.length_map, sizeLine_eq]; omega)
    have ea : acc.map D.int ++ [.int v] = (acc ++ [v]).map D.int := by rw [List.map_append]; rfl
    rw [ea] at e1
    have fr2 : Fr [i] S0 ((S.put i x).put D0 (.lst ((acc ++ [v]).map .int))) := (fr.trans (Fr.put (List.mem_singleton.mpr rfl))).putNew hD
    obtain ⟨row, S', e2, r2⟩ := val_loop h1 h9 hi hD hw hl hne w r (idx + 1) (acc ++ [v]) ((S.put i x).put D0 (.lst ((acc ++ [v]).map .int))) (by omega) (by rw [List.length_append, hA]; rfl) (fun j hj => by
      rw [List.length_append, List.length_singleton] at hj
      by_cases z : j < acc.length
      · have := hB j z
        rw [List.getD_eq_getElem?_getD, List.getElem?_append_left z, ← List.getD_eq_getElem?_getD]
        exact this
      · have : j = idx := by omega
        subst this
        rw [List.getD_eq_getElem?_getD, List.getElem?_append_right (by omega), hA, Nat.sub_self, List.getD_eq_getElem?_getD, List.getElem?_eq_getElem hx]
        show 0 ≤ v ∧ v < 2 ^ (W[j].2).toNat
        rw [hk, Int.toNat_natCast]
        exact ⟨v0, by exact_mod_cast v1⟩) fr2 hd (dice_put d2 (Ne.symm n1)) at_put
    exact ⟨row, S', e1.trans e2, r2⟩
theorem new_row (a : LW S i wl iw ir rl W rows) (w : WG W) (g : Gm) (h1 : g[1]? = some (some (.adr i))) (h2 : g[2]? = some (some (.adr wl))) (h9 : 11 < g.length) : ∃ (row : List Int) (S' : Sr), mCB fTupG (mCons (mLc (mSrc (mVar 2)) (.tp [10, 11]) mYes eVal [10, 11]) mNil) g S = .ok (valD row) S' ∧ RG1 W row ∧ Fr [i] S S' ∧ DiceAt S' i := by
  have es : mSrc (mVar 2) g S = .ok (sqa wl W.length) S := by
    have : mSrcD true (.adr wl) S = .ok (sqa wl W.length) S := by
      show (match S.f wl with
        | some (.lst l) => R.ok (sqa wl l.length) S
        | _ => .bad) = _
      rw [a.w]
      dsimp only
      rw [List.length_map]
    simp only [mSrc, mVar, SM.bind, h2, this]
  obtain ⟨row, S', e, hr, fr, hd, d, fD⟩ := val_loop (S0 := S) (D0 := S.n) (g0 := wipeD g [10, 11]) (i := i) (wl := wl) (W := W) (by
      show (((g.set 11 none).set 10 none))[1]? = _
      rw [List.getElem?_set_ne (by decide), List.getElem?_set_ne (by decide)]; exact h1) (by
      show 11 < ((g.set 11 none).set 10 none).length
      rw [List.length_set, List.length_set]; exact h9) a.lt.1 (Nat.le_refl _) a.w a.lt.2.1 a.ne.1 w W.length 0 [] (S.alloc (.lst [])) (Nat.zero_add _) rfl (fun k h => absurd h (Nat.not_lt_zero _)) Fr.alloc (Nat.lt_succ_self _) (dice_alloc a.d a.lt.1) at_new
  have em : mLc (mSrc (mVar 2)) (.tp [10, 11]) mYes eVal [10, 11] g S = .ok (.adr S.n) S' := mLc_ok es e
  have et : fTupG [.adr S.n] S' = .ok (valD row) S' := by
    simp [fTupG, fD]
  refine ⟨row, S', ?_, hr, fr, d⟩
  simp only [mCB, mCons, mNil, SM.bind, SM.pure, em, et]
end
end K18

set_option Elab.async false
set_option linter.all false
set_option maxRecDepth 100000
set_option maxHeartbeats 4000000
namespace K18
open PySem PySem.Spec PyProof.Rows L2 Y TL
theorem mif_t {t : MT} {u v : ME} {g : Gm} {S S1 : Sr} (h : t g S = .ok true S1) : mIf t u v g S = u g S1 := by
  unfold mIf SM.bind
  rw [h]
  rfl
theorem mif_f {t : MT} {u v : ME} {g : Gm} {S S1 : Sr} (h : t g S = .ok false S1) : mIf t u v g S = v g S1 := by
  unfold mIf SM.bind
  rw [h]
  rfl
theorem set_of {i : Nat} {a : ME} {g : Gm} {S S1 : Sr} {d : D} (h : a g S = .ok d S1) : mSet i a g S = .nx (g.set i (some d)) S1 := by
  unfold mSet
  rw [h]
  rfl
theorem drop_of {a : ME} {g : Gm} {S S1 : Sr} {d : D} (h : a g S = .ok d S1) : mDrop a g S = .nx g S1 := by
  unfold mDrop
  rw [h]
  rfl
theorem meth1 {x : Str} {f : List D → SM D} {o : ME} {a : MA} {g : Gm} {S S1 : Sr} {iw ir : Nat} {W : List (List Nat × Int)} {rows : List (List Int)} {d : D} (v : WaveAt S iw ir W rows) (ho : o g S = .ok (.adr iw) S) (ha : a g S = .ok [d] S1) (h1 : x ≠ "widths") (h2 : x ≠ "rows") : mMeth "Wave" x f 2 [] o a g S = f [.adr iw, d] S1 := by
  have lk : List.lookup x ([("widths", .gtp (W.map widD)), ("rows", .adr ir)] : List (Str × D)) = none := by
    have b1 : (x == ("widths" : Str)) = false := beq_false_of_ne h1
    have b2 : (x == ("rows" : Str)) = false := beq_false_of_ne h2
    simp [List.lookup, b1, b2]
  have w := v.w
  unfold mMeth SM.bind
  rw [ho]
  dsimp only
  rw [w]
  dsimp only
  rw [if_pos ⟨rfl, lk⟩, ha]
  rfl
theorem add_ne : ("add" : Str) ≠ "widths" ∧ ("add" : Str) ≠ "rows" := by
  constructor <;> simp (decide := true) [Y.sb]
section
variable {S : Sr} {i wl iw ir rl : Nat} {W : List (List Nat × Int)} {rows : List (List Int)} {row : List Int} {g : Gm} {x0 x2 x3 x4 x5 x6 x7 x8 x9 x10 x11 x12 x13 x14 x15 x16 x17 x18 x19 : Option D}
abbrev GH (x0 : Option D) (i wl iw rl : Nat) (x5 x6 x7 x8 x9 x10 x11 x12 x13 x14 x15 x16 x17 x18 x19 : Option D) : Gm := [x0, some (.adr i), some (.adr wl), some (.adr iw), some (.adr rl), x5, x6, x7, x8, x9, x10, x11, x12, x13, x14, x15, x16, x17, x18, x19]
theorem l113 (a : LW S i wl iw ir rl W rows) (w : WG W) (hR : ∀ r ∈ rows, RG1 W r) : ∃ (row : List Int) (S' : Sr), b_law_s113 (GH x0 i wl iw rl (some (.int (rows.length : Nat))) x6 x7 x8 x9 x10 x11 x12 x13 x14 x15 x16 x17 x18 x19) S = .nx (GH x0 i wl iw rl (some (.int (rows.length : Nat))) (some (valD row)) x7 x8 x9 x10 x11 x12 x13 x14 x15 x16 x17 x18 x19) S' ∧ RG1 W row ∧ LW S' i wl iw ir rl W rows ∧ Fr [i] S S' := by
  let g : Gm := GH x0 i wl iw rl (some (.int (rows.length : Nat))) x6 x7 x8 x9 x10 x11 x12 x13 x14 x15 x16 x17 x18 x19
  have g5 : g[5]? = some (some (.int (rows.length : Nat))) := rfl
  have g4 : g[4]? = some (some (.adr rl)) := rfl
  have t1 : mTB (mB dGt (mVar 5) (mC (.int 0))) g S = .ok (decide (0 < rows.length)) S := by
    refine tb_of ?_
    have : dGt (.int (rows.length : Nat)) (.int 0) S = .ok (.bl (decide (0 < rows.length))) S := by
      simp [dGt, okB]
    simp only [mB, mVar, mC, SM.bind, SM.pure, g5, this]
  let T : MT := mAnd (mTB (mB dGt (mVar 5) (mC (.int 0)))) (mTB (mB dEq (eRoll (mC (.int 2))) (mC (.int 0))))
  have new : ∀ S1, T g S = .ok false S1 → LW S1 i wl iw ir rl W rows → Fr [i] S S1 → ∃ (row : List Int) (S' : Sr), b_law_s113 g S = .nx (GH x0 i wl iw rl (some (.int (rows.length : Nat))) (some (valD row)) x7 x8 x9 x10 x11 x12 x13 x14 x15 x16 x17 x18 x19) S' ∧ RG1 W row ∧ LW S' i wl iw ir rl W rows ∧ Fr [i] S S' := fun S1 hT a1 f1 => by
    obtain ⟨row, S', e, hr, fr, d⟩ := new_row a1 w g rfl rfl (show 11 < (20 : Nat) by decide)
    exact ⟨row, S', set_of ((mif_f hT).trans e), hr, a1.fri fr d, f1.trans fr⟩
  by_cases h0 : 0 < rows.length
  · rw [decide_eq_true h0] at t1
    obtain ⟨v, x, v0, v1, er, d2⟩ := roll_e (S := S) (g := g) (e := mC (.int 2)) (m := 2) rfl a.d rfl (by decide) (by decide)
    have fr : Fr [i] S (S.put i x) := Fr.put (List.mem_singleton.mpr rfl)
    have a2 := a.fri fr d2
    have t2 : mTB (mB dEq (eRoll (mC (.int 2))) (mC (.int 0))) g S = .ok (decide (v = 0)) (S.put i x) := by
      refine tb_of ?_
      simp only [mB, mC, SM.bind, SM.pure, er, ev_eqI]
    by_cases hv : v = 0
    · rw [decide_eq_true hv] at t2
      have hlast : rows.length - 1 < rows.length := by omega
      refine ⟨rows[rows.length - 1], S.put i x, ?_, hR _ (List.getElem_mem hlast), a2, fr⟩
      have ix : dIx (.adr rl) (.int ((rows.length : Nat) - 1 : Int)) (S.put i x) = .ok (valD rows[rows.length - 1]) (S.put i x) := ixL a2.r (by omega) (by
        have : ((rows.length : Int) - 1).toNat = rows.length - 1 := by omega
        rw [this, List.getElem?_map, List.getElem?_eq_getElem hlast]
        rfl)
      refine set_of ((mif_t (and_t t1 t2)).trans ?_)
      show mB dIx (mVar 4) (mB dSub (mVar 5) (mC (.int 1))) g _ = _
      have su : dSub (.int (rows.length : Nat)) (.int 1) (S.put i x) = .ok (.int ((rows.length : Nat) - 1 : Int)) (S.put i x) := by
        simp [dSub, okI]
      simp only [mB, mVar, mC, SM.bind, SM.pure, g4, g5, su, ix]
    · rw [decide_eq_false hv] at t2
      exact new _ (and_t t1 t2) a2 fr
  · rw [decide_eq_false h0] at t1
    exact new _ (and_f t1) a Fr.refl
theorem wok (w : WG W) : WOk W := ⟨by have := w.len; omega, fun q hq => ⟨fun c hc => by
  have := List.all_eq_true.mp (w.nm q hq).2.1 c hc
  unfold alnB digB at this
  simp at this
  omega, (w.nm q hq).2.2, by have := w.wd q hq; omega, by have := w.wd q hq; omega⟩⟩
theorem wadd (w : WG W) : ∀ q ∈ W, Sgn q.1 ∧ 0 ≤ q.2 ∧ q.2 ≤ 100 := fun q hq => ⟨((wok w).2 q hq).1, by have := w.wd q hq; omega, by have := w.wd q hq; omega⟩
theorem l114 (h : S.f rl = some (.lst (rows.map valD))) (hz : rows.length ≤ 1000) (g4 : g[4]? = some (some (.adr rl))) (g6 : g[6]? = some (some (valD row))) : ∃ S', b_law_s114 g S = .nx g S' ∧ Fr [rl] S S' ∧ S'.n = S.n ∧ S'.f rl = some (.lst ((rows ++ [row]).map valD)) := by
  refine ⟨S.put rl (.lst ((rows ++ [row]).map valD)), ?_, Fr.put (List.mem_singleton.mpr rfl), rfl, at_put⟩
  have sz : (rows.map valD).length < sizeLine := by rw [List.length_map, sizeLine_eq]; omega
  have ap : fApp (.adr rl) [valD row] S = .ok .non (S.put rl (.lst ((rows ++ [row]).map valD))) := by
    unfold fApp
    simp only [h]
    rw [if_pos sz]
    show R.ok D.non (S.put rl (.lst (rows.map valD ++ [valD row]))) = _
    rw [show rows.map valD ++ [valD row] = (rows ++ [row]).map valD by rw [List.map_append]; rfl]
  simp (decide := true) only [b_law_s114, mDrop, mBM, mVar, mCons, mNil, SM.bind, SM.pure, g4, g6, tyF, h, ap, if_true, toRS]
theorem l115 (v : WaveAt S iw ir W rows) (h2 : S.f wl = some (.lst (W.map widD))) (hl : wl < S.n) (hz : rows.length ≤ 1000) (w : WG W) (hr : RG1 W row) (g2 : g[2]? = some (some (.adr wl))) (g3 : g[3]? = some (some (.adr iw))) (g6 : g[6]? = some (some (valD row))) (g9 : 9 < g.length) : ∃ S', b_law_s115 g S = .nx g S' ∧ Fr [ir] S S' ∧ WaveAt S' iw ir W (rows ++ [row]) := by
  obtain ⟨S3, e3, d3, x3, n3⟩ := eDict_ok (S := S) (g := g) (row := row) (wl := wl) g2 g6 g9 h2 hl hr.1 w
  have A := e_add (v.xt x3) d3 (by omega) (wadd w) (by have := w.len; omega) (by omega)
  rw [add_pair w hr] at A
  obtain ⟨S4, e4, v4, f4⟩ := A
  refine ⟨S4, ?_, (Xt.fr x3).trans f4, v4⟩
  refine drop_of (d := .non) ?_
  have ha : mCons eDict mNil g S = .ok [.adr (S.n + 1)] S3 := by
    show SM.bind (eDict g) _ S = _
    unfold SM.bind
    rw [e3]
    rfl
  have ho : mVar 3 g S = .ok (.adr iw) S := by
    simp only [mVar, g3]
  exact (meth1 v ho ha add_ne.1 add_ne.2).trans e4
theorem lL112 (a : LW S i wl iw ir rl W rows) (w : WG W) (hR : ∀ r ∈ rows, RG1 W r) (hz : rows.length ≤ 1000) : ∃ (row : List Int) (S' : Sr) (y6 : Option D), b_law_L112 (GH x0 i wl iw rl (some (.int (rows.length : Nat))) x6 x7 x8 x9 x10 x11 x12 x13 x14 x15 x16 x17 x18 x19) S = .nx (GH x0 i wl iw rl (some (.int (rows.length : Nat))) y6 x7 x8 x9 x10 x11 x12 x13 x14 x15 x16 x17 x18 x19) S' ∧ RG1 W row ∧ LW S' i wl iw ir rl W (rows ++ [row]) ∧ Fr [i, ir, rl] S S' := by
  obtain ⟨row, S1, e1, hr, a1, f1⟩ := l113 (x0 := x0) (x6 := x6) (x7 := x7) (x8 := x8) (x9 := x9) (x10 := x10) (x11 := x11) (x12 := x12) (x13 := x13) (x14 := x14) (x15 := x15) (x16 := x16) (x17 := x17) (x18 := x18) (x19 := x19) a w hR
  obtain ⟨q1, q2, q3, q4, q5, q6, q7, q8⟩ := a.ne
  obtain ⟨p1, p2, p3⟩ := a1.lt
  obtain ⟨S2, e2, f2, n2, r2⟩ := l114 (S := S1) (rl := rl) (row := row) (g := GH x0 i wl iw rl (some (.int (rows.length : Nat))) (some (valD row)) x7 x8 x9 x10 x11 x12 x13 x14 x15 x16 x17 x18 x19) a1.r hz rfl rfl
  have w2 : S2.f wl = some (.lst (W.map widD)) := f2.at p2 (fun h => q7 (List.mem_singleton.mp h).symm) a1.w
  have v2 : WaveAt S2 iw ir W rows := a1.v.mv f2 (fun h => q8 (List.mem_singleton.mp h).symm) (fun h => q6 (List.mem_singleton.mp h))
  have d2 : DiceAt S2 i := Fr.dice f2 p1 (fun h => q4 (List.mem_singleton.mp h)) a1.d
  obtain ⟨S4, e4, f4, v4⟩ := l115 (S := S2) (g := GH x0 i wl iw rl (some (.int (rows.length : Nat))) (some (valD row)) x7 x8 x9 x10 x11 x12 x13 x14 x15 x16 x17 x18 x19) v2 w2 (n2 ▸ p2) hz w hr rfl rfl rfl (show 9 < (20 : Nat) by decide)
  have m4 : S1.n ≤ S4.n := n2 ▸ f4.1
  have d4 : DiceAt S4 i := Fr.dice f4 (n2 ▸ p1) (fun h => q3 (List.mem_singleton.mp h)) d2
  have w4 : S4.f wl = some (.lst (W.map widD)) := f4.at (n2 ▸ p2) (fun h => q5 (List.mem_singleton.mp h).symm) w2
  have r4 : S4.f rl = some (.lst ((rows ++ [row]).map valD)) := f4.at (n2 ▸ p3) (fun h => q6 (List.mem_singleton.mp h).symm) r2
  refine ⟨row, S4, some (valD row), (sq_nx e1).trans ((sq_nx e2).trans e4), hr, ⟨d4, w4, v4, r4, ⟨Nat.lt_of_lt_of_le p1 m4, Nat.lt_of_lt_of_le p2 m4, Nat.lt_of_lt_of_le p3 m4⟩, a.ne⟩, ?_⟩
  have z1 : Fr [i, ir, rl] S S1 := f1.weak (by simp)
  have z2 : Fr [i, ir, rl] S1 S2 := f2.weak (by simp)
  have z4 : Fr [i, ir, rl] S2 S4 := f4.weak (by simp)
  exact (z1.trans z2).trans z4
theorem rows_loop (w : WG W) {n : Nat} (hn : n ≤ 30) : ∀ (r : Nat) (rows : List (List Int)) (S : Sr) (x5 x6 : Option D), rows.length + r = n → LW S i wl iw ir rl W rows → (∀ r ∈ rows, RG1 W r) → ∃ (rows' : List (List Int)) (S' : Sr) (y5 y6 : Option D), forG (sqr 0 1 n) (mStep (gNm 5) b_law_L112) r rows.length (GH x0 i wl iw rl x5 x6 x7 x8 x9 x10 x11 x12 x13 x14 x15 x16 x17 x18 x19) S = .nx (GH x0 i wl iw rl y5 y6 x7 x8 x9 x10 x11 x12 x13 x14 x15 x16 x17 x18 x19) S' ∧ RG W rows' ∧ LW S' i wl iw ir rl W rows' ∧ Fr [i, ir, rl] S S'
  | 0, rows, S, x5, x6, h, a, hR => ⟨rows, S, x5, x6, fo_end (nx_sqrE (by omega)), ⟨by omega, hR⟩, a, Fr.refl⟩
  | r + 1, rows, S, x5, x6, h, a, hR => by
    obtain ⟨row, S1, y6, e1, hr, a1, f1⟩ := lL112 (x0 := x0) (x6 := x6) (x7 := x7) (x8 := x8) (x9 := x9) (x10 := x10) (x11 := x11) (x12 := x12) (x13 := x13) (x14 := x14) (x15 := x15) (x16 := x16) (x17 := x17) (x18 := x18) (x19 := x19) a w hR (by omega)
    have st : mStep (gNm 5) b_law_L112 (.int (rows.length : Nat)) (GH x0 i wl iw rl x5 x6 x7 x8 x9 x10 x11 x12 x13 x14 x15 x16 x17 x18 x19) S = b_law_L112 (GH x0 i wl iw rl (some (.int (rows.length : Nat))) x6 x7 x8 x9 x10 x11 x12 x13 x14 x15 x16 x17 x18 x19) S := rfl
    have e2 := fo_nx (r := r) (nx_sqr (S := S) (n := n) (idx := rows.length) (by omega)) (st.trans e1)
    have e3 : (rows ++ [row]).length = rows.length + 1 := by rw [List.length_append]; rfl
    obtain ⟨rows', S', y5, y6', e4, h4⟩ := rows_loop w hn r (rows ++ [row]) S1 (some (.int (rows.length : Nat))) y6 (by omega) a1 (fun r hr' => by
      rcases List.mem_append.mp hr' with h | h
      · exact hR r h
      · rw [List.mem_singleton.mp h]; exact hr)
    rw [e3] at e4
    exact ⟨rows', S', y5, y6', e2.trans e4, h4.1, h4.2.1, f1.trans h4.2.2⟩
theorem l112 (w : WG W) (a : LW S i wl iw ir rl W []) : ∃ (rows : List (List Int)) (S' : Sr) (y5 y6 : Option D), b_law_s112 (GH x0 i wl iw rl x5 x6 x7 x8 x9 x10 x11 x12 x13 x14 x15 x16 x17 x18 x19) S = .nx (GH x0 i wl iw rl y5 y6 x7 x8 x9 x10 x11 x12 x13 x14 x15 x16 x17 x18 x19) S' ∧ RG W rows ∧ LW S' i wl iw ir rl W rows ∧ Fr [i, ir, rl] S S' := by
  let g : Gm := GH x0 i wl iw rl x5 x6 x7 x8 x9 x10 x11 x12 x13 x14 x15 x16 x17 x18 x19
  obtain ⟨v, x, v0, v1, er, d2⟩ := roll_e (S := S) (g := g) (e := mC (.int 31)) (m := 31) rfl a.d rfl (by decide) (by decide)
  have fr : Fr [i] S (S.put i x) := Fr.put (List.mem_singleton.mpr rfl)
  have es : mRng1 (mCons (eRoll (mC (.int 31))) mNil) g S = .ok (sqr 0 1 v.toNat) (S.put i x) := by
    have : mCons (eRoll (mC (.int 31))) mNil g S = .ok [.int v] (S.put i x) := by
      simp only [mCons, mNil, SM.bind, SM.pure, er]
    have e2 : mRng1 (fun _ _ => .ok [.int v] (S.put i x)) g (S.put i x) = .ok (sqr 0 1 v.toNat) (S.put i x) := rng_of rfl (by omega) (by omega)
    unfold mRng1 SM.bind at e2 ⊢
    rw [this]
    exact e2
  obtain ⟨rows, S', y5, y6, e, h⟩ := rows_loop (x0 := x0) (x7 := x7) (x8 := x8) (x9 := x9) (x10 := x10) (x11 := x11) (x12 := x12) (x13 := x13) (x14 := x14) (x15 := x15) (x16 := x16) (x17 := x17) (x18 := x18) (x19 := x19) w (n := v.toNat) (by omega) v.toNat [] (S.put i x) x5 x6 (Nat.zero_add _) (a.fri fr d2) (fun r h => nomatch h)
  exact ⟨rows, S', y5, y6, (mFor_of es).trans e, h.1, h.2.1, (fr.weak (by simp)).trans h.2.2⟩
end
end K18

set_option Elab.async false
set_option linter.all false
set_option maxRecDepth 100000
set_option maxHeartbeats 4000000
namespace K18
open PySem PySem.Spec PyProof.Rows L2 Y TL
section
variable {S : Sr} {x0 x1 x2 x3 x4 x5 x6 x7 x8 x9 x10 x11 x12 x13 x14 x15 x16 x17 x18 x19 : Option D} {g : Gm}
theorem told_exc {me : ME} {g : Gm} {S S' : Sr} (h : me g S = .exc "RunError" S') : mTold subT qsT clT me g S = .ok (.str "RunError") S' := by
  unfold mTold
  rw [h]
  rfl
theorem ne_run {S : Sr} : dNe (.str "RunError") (.str "RunError") S = .ok (.bl false) S := by
  have s : Sgn (tl ("RunError" : Str)) := sgn_of (by decide +kernel)
  rw [neT s s]
  simp
theorem eq_run {S : Sr} : dEq (.str "RunError") (.str "RunError") S = .ok (.bl true) S := by
  have s : Sgn (tl ("RunError" : Str)) := sgn_of (by decide +kernel)
  rw [eqT s s]
  simp
theorem l143 : b_law_s143 [x0, x1, x2, x3, x4, x5, x6, x7, x8, x9, x10, x11, x12, x13, x14, x15, x16, x17, x18, x19] S = .nx [x0, x1, x2, x3, x4, x5, x6, x7, x8, x9, x10, x11, x12, x13, x14, x15, x16, some (.adr S.n), x18, x19] (S.alloc (.lst (badT.map strL))) := by
  have sz : 18 ≤ sizeLine := by rw [sizeLine_eq]; omega
  rw [bad_strs]
  simp (decide := true) only [b_law_s143, mSet, mLst, mCons, mNil, mC, SM.bind, SM.pure, List.length_cons, List.length_nil, if_true, sz, toRS]
  rfl
theorem bad_read {b : List Nat} (hb : b ∈ badT) : ∃ S', f_read_wave [strL b] S = .exc "RunError" S' ∧ Xt S S' := by
  have h1 := List.all_eq_true.mp bad_none b hb
  have h2 := List.all_eq_true.mp bad_fit b hb
  simp only [Bool.and_eq_true, decide_eq_true_eq, List.all_eq_true] at h2
  have E := e_read (S := S) (t := b) h2.1.1.1 h2.1.1.2 h2.1.2 h2.2
  have : readW b = none := by
    cases h : readW b with
    | none => rfl
    | some q => rw [h] at h1; cases h1
  rw [this] at E
  exact E
abbrev eTb : MT := mTB (mB dNe (mTold subT qsT clT (mCall f_read_wave 1 [] (mCons (mVar 19) mNil))) (mC (.str "RunError")))
theorem bad_loop {S0 : Sr} {B D0 : Nat} {g0 : Gm} (hB : S0.f B = some (.lst (badT.map strL))) (hl : B < S0.n) (h19 : 19 < g0.length) : ∀ (r idx : Nat) (S : Sr), idx + r = badT.length → Xt S0 S → ∃ S', lcG (sqa B badT.length) (.nm 19) eTb (mVar 19) g0 D0 r idx S = .ok () S' ∧ Xt S S'
  | 0, idx, S, h, xt => ⟨S, lc_end (by rw [nx_sqa (xt.at_ hB hl), List.getElem?_eq_none (by rw [List.length_map]; omega)]), Xt.refl _⟩
  | r + 1, idx, S, h, xt => by
    have hx : idx < badT.length := by omega
    have en : (sqa B badT.length).nxt idx S = some (some (strL badT[idx])) := by
      rw [nx_sqa (xt.at_ hB hl), List.getElem?_map, List.getElem?_eq_getElem hx]
      rfl
    have tp : (Tg.nm 19).put (strL badT[idx]) g0 = some (g0.set 19 (some (strL badT[idx]))) := by
      simp [Tg.put, h19]
    have q : (g0.set 19 (some (strL badT[idx])))[19]? = some (some (strL badT[idx])) := List.getElem?_set_self h19
    obtain ⟨S1, e1, x1⟩ := bad_read (S := S) (List.getElem_mem hx)
    have et : eTb (g0.set 19 (some (strL badT[idx]))) S = .ok false S1 := by
      refine tb_of ?_
      have : mTold subT qsT clT (mCall f_read_wave 1 [] (mCons (mVar 19) mNil)) (g0.set 19 (some (strL badT[idx]))) S = .ok (.str "RunError") S1 := told_exc (by
        simp (decide := true) only [mCall, mCons, mNil, mVar, SM.bind, SM.pure, q, e1, List.length_cons, List.length_nil, if_true, List.append_nil])
      simp only [mB, mC, SM.bind, SM.pure, this, ne_run]
    obtain ⟨S2, e2, x2⟩ := bad_loop (D0 := D0) hB hl h19 r (idx + 1) S1 (by omega) (xt.trans x1)
    exact ⟨S2, (lc_skip en tp et).trans e2, x1.trans x2⟩
theorem l144 {B : Nat} (hB : S.f B = some (.lst (badT.map strL))) (hl : B < S.n) : ∃ S', b_law_s144 [x0, x1, x2, x3, x4, x5, x6, x7, x8, x9, x10, x11, x12, x13, x14, x15, x16, some (.adr B), x18, x19] S = .nx [x0, x1, x2, x3, x4, x5, x6, x7, x8, x9, x10, x11, x12, x13, x14, x15, x16, some (.adr B), x18, x19] S' := by
  let g : Gm := [x0, x1, x2, x3, x4, x5, x6, x7, x8, x9, x10, x11, x12, x13, x14, x15, x16, some (.adr B), x18, x19]
  have es : mSrc (mVar 17) g S = .ok (sqa B badT.length) S := by
    have : mSrcD true (.adr B) S = .ok (sqa B badT.length) S := by
      show (match S.f B with
        | some (.lst l) => R.ok (sqa B l.length) S
        | _ => .bad) = _
      rw [hB]
      dsimp only
      rw [List.length_map]
    have g17 : g[17]? = some (some (.adr B)) := rfl
    simp only [mSrc, mVar, SM.bind, g17, this]
  obtain ⟨S1, e1, x1⟩ := bad_loop (S0 := S) (D0 := S.n) (g0 := wipeD g [19]) hB hl (show 19 < (20 : Nat) by decide) badT.length 0 (S.alloc (.lst (([] : List (List Nat)).map strL))) (Nat.zero_add _) Xt.alloc
  have em : mLc (mSrc (mVar 17)) (.nm 19) eTb (mVar 19) [19] g S = .ok (.adr S.n) S1 := mLc_ok es e1
  have f1 : S1.f S.n = some (.lst (([] : List (List Nat)).map strL)) := x1.at_ at_new (Nat.lt_succ_self _)
  have el : mLst mNil g S1 = .ok (.adr S1.n) (S1.alloc (.lst [])) := by
    have z0 : 0 ≤ sizeLine := Nat.zero_le _
    simp only [mLst, mNil, SM.bind, SM.pure, List.length_nil, z0, if_true]
  have lt1 : S.n < S1.n := x1.le
  have nn : dNe (.adr S.n) (.adr S1.n) (S1.alloc (.lst [])) = .ok (.bl false) (S1.alloc (.lst [])) := ne_nilS (l := []) (at_old f1 lt1) at_new (fun x h => nomatch h)
  have et : mTB (mB dNe (mLc (mSrc (mVar 17)) (.nm 19) eTb (mVar 19) [19]) (mLst mNil)) g S = .ok false (S1.alloc (.lst [])) := by
    refine tb_of ?_
    show SM.bind _ _ S = _
    unfold SM.bind
    rw [em]
    dsimp only
    rw [el]
    exact nn
  exact ⟨_, ifs_f et⟩
end
end K18

set_option Elab.async false
set_option linter.all false
set_option maxRecDepth 100000
set_option maxHeartbeats 4000000
namespace K18
open PySem PySem.Spec PyProof.Rows L2 Y TL
section
variable {S : Sr} {i wl iw ir rl : Nat} {W : List (List Nat × Int)} {rows : List (List Int)} {row : List Int} {g : Gm} {x0 x2 x3 x4 x5 x6 x7 x8 x9 x10 x11 x12 x13 x14 x15 x16 x17 x18 x19 : Option D}
abbrev eHd : ME := mB dAdd (mB dAdd (mB dAdd (mVar 10) (mC (.str " "))) (mCB fStr (mCons (mVar 11) mNil))) (mC (.str "\n"))
theorem hd_loop (w : WG W) {S0 : Sr} {D0 : Nat} {g0 : Gm} (h9 : 11 < g0.length) (hw : S0.f wl = some (.lst (W.map widD))) (hl : wl < S0.n) (hD : S0.n ≤ D0) : ∀ (r idx : Nat) (acc : List (List Nat)) (S : Sr), idx + r = W.length → acc.length ≤ idx → Xt S0 S → S.f D0 = some (.lst (acc.map strL)) →
    lcG (sqa wl W.length) (.tp [10, 11]) mYes eHd g0 D0 r idx S = .ok () (S.put D0 (.lst ((acc ++ (W.drop idx).map fun q => hdL q ++ [10]).map strL)))
  | 0, idx, acc, S, h, hA, xt, fD => by
    rw [List.drop_eq_nil_of_le (by omega)]
    show lcG _ _ _ _ _ _ _ _ _ = .ok () (S.put D0 (.lst ((acc ++ []).map strL)))
    rw [List.append_nil, put_same fD]
    refine lc_end ?_
    rw [nx_sqa (xt.at_ hw hl), List.getElem?_eq_none (by rw [List.length_map]; omega)]
  | r + 1, idx, acc, S, h, hA, xt, fD => by
    have hx : idx < W.length := by omega
    have wz := w.len
    obtain ⟨_, _, n3⟩ := w.nm _ (List.getElem_mem hx)
    obtain ⟨w1, w2⟩ := w.wd _ (List.getElem_mem hx)
    have nl : (nmI W[idx].2).length ≤ 3 := nmI_len (by omega)
    let g : Gm := (g0.set 10 (some (strL W[idx].1))).set 11 (some (.int W[idx].2))
    have en : (sqa wl W.length).nxt idx S = some (some (widD W[idx])) := by
      rw [nx_sqa (xt.at_ hw hl), List.getElem?_map, List.getElem?_eq_getElem hx]
      rfl
    have tp : (Tg.tp [10, 11]).put (widD W[idx]) g0 = some g := by
      have : 10 < g0.length := by omega
      simp (decide := true) [Tg.put, h9, g, this, putAll]
      rfl
    have q10 : g[10]? = some (some (strL W[idx].1)) := by
      show ((g0.set 10 _).set 11 _)[10]? = _
      rw [List.getElem?_set_ne (by decide), List.getElem?_set_self (by omega)]
    have q11 : g[11]? = some (some (.int W[idx].2)) := by
      show ((g0.set 10 _).set 11 _)[11]? = _
      rw [List.getElem?_set_self (by rw [List.length_set]; exact h9)]
    have z1 : Str.ofString " " = sg [32] := by rw [sg_str]; decide +kernel
    have z2 : Str.ofString "\n" = sg [10] := by rw [sg_str]; decide +kernel
    have fs : fStr [.int W[idx].2] S = .ok (strL (nmI W[idx].2)) S := fStr_i (by omega) (by omega)
    have a1 : dAdd (strL W[idx].1) (strL [32]) S = .ok (strL (W[idx].1 ++ [32])) S := addT (by simp; omega)
    have a2 : dAdd (strL (W[idx].1 ++ [32])) (strL (nmI W[idx].2)) S = .ok (strL (hdL W[idx])) S := addT (by simp; omega)
    have a3 : dAdd (strL (hdL W[idx])) (strL [10]) S = .ok (strL (hdL W[idx] ++ [10])) S := addT (by simp [hdL]; omega)
    have ee : eHd g S = .ok (strL (hdL W[idx] ++ [10])) S := by
      simp only [eHd, mB, mC, mCB, mCons, mNil, mVar, SM.bind, SM.pure, q10, q11, z1, z2, fs, a1, a2, a3]
    have e1 := lc_nx (r := r) (mt := mYes) en tp rfl ee fD (by rw [List.length_map, sizeLine_eq]; omega)
    have ea : acc.map strL ++ [strL (hdL W[idx] ++ [10])] = (acc ++ [hdL W[idx] ++ [10]]).map strL := by rw [List.map_append]; rfl
    rw [ea] at e1
    rw [e1, hd_loop w h9 hw hl hD r (idx + 1) (acc ++ [hdL W[idx] ++ [10]]) _ (by omega) (by rw [List.length_append, List.length_singleton]; omega) (xt.put hD) at_put, put_put, List.append_assoc, List.drop_eq_getElem_cons hx]
    rfl
def headT2 (W : List (List Nat × Int)) : List Nat := (W.map fun q => hdL q ++ [10]).flatten ++ [10]
theorem wl_src (h : S.f wl = some (.lst (W.map widD))) (h2 : g[2]? = some (some (.adr wl))) : mSrc (mVar 2) g S = .ok (sqa wl W.length) S := by
  have : mSrcD true (.adr wl) S = .ok (sqa wl W.length) S := by
    show (match S.f wl with
      | some (.lst l) => R.ok (sqa wl l.length) S
      | _ => .bad) = _
    rw [h]
    dsimp only
    rw [List.length_map]
  simp only [mSrc, mVar, SM.bind, h2, this]
theorem hd_len (w : WG W) : ∀ x ∈ W.map fun q => hdL q ++ [10], x.length ≤ 20 := fun x hx => by
  obtain ⟨q, hq, rfl⟩ := List.mem_map.mp hx
  obtain ⟨_, _, n3⟩ := w.nm q hq
  have nl : (nmI q.2).length ≤ 3 := nmI_len (by have := w.wd q hq; omega)
  simp [hdL]
  omega
theorem l116 (a : LW S i wl iw ir rl W rows) (w : WG W) : ∃ S', b_law_s116 (GH x0 i wl iw rl x5 x6 x7 x8 x9 x10 x11 x12 x13 x14 x15 x16 x17 x18 x19) S = .nx (GH x0 i wl iw rl x5 x6 (some (strL (headT2 W))) x8 x9 x10 x11 x12 x13 x14 x15 x16 x17 x18 x19) S' ∧ Xt S S' := by
  let g : Gm := GH x0 i wl iw rl x5 x6 x7 x8 x9 x10 x11 x12 x13 x14 x15 x16 x17 x18 x19
  have L := hd_loop w (S0 := S) (D0 := S.n) (g0 := wipeD g [10, 11]) (show 11 < (20 : Nat) by decide) a.w a.lt.2.1 (Nat.le_refl _) W.length 0 [] (S.alloc (.lst [])) (Nat.zero_add _) (Nat.le_refl _) Xt.alloc at_new
  rw [List.drop_zero, List.nil_append] at L
  obtain ⟨S1, eS⟩ : ∃ S1, S1 = (S.alloc (.lst [])).put S.n (.lst ((W.map fun q => hdL q ++ [10]).map strL)) := ⟨_, rfl⟩
  have f1 : S1.f S.n = some (.lst ((W.map fun q => hdL q ++ [10]).map strL)) := by rw [eS]; exact at_put
  have x1 : Xt S S1 := by rw [eS]; exact Xt.alloc.put (Nat.le_refl _)
  rw [← eS] at L
  have em : mLc (mSrc (mVar 2)) (.tp [10, 11]) mYes eHd [10, 11] g S = .ok (.adr S.n) S1 := mLc_ok (wl_src a.w rfl) L
  have wz := w.len
  have hz := hd_len w
  have j : fJoin (strL []) [.adr S.n] S1 = .ok (strL (TL.joinL [] (W.map fun q => hdL q ++ [10]))) S1 := join_adr f1 hz (by rw [List.length_map]; simp; omega)
  rw [joinL_nil] at j
  have ez : Str.ofString "" = sg [] := by rw [sg_str]; decide +kernel
  have z2 : Str.ofString "\n" = sg [10] := by rw [sg_str]; decide +kernel
  have fl : (W.map fun q => hdL q ++ [10]).flatten.length ≤ 80 := by
    have : ∀ (l : List (List Nat)), (∀ x ∈ l, x.length ≤ 20) → l.flatten.length ≤ l.length * 20 := fun l => by
      induction l with
      | nil => exact fun _ => Nat.le_refl _
      | cons a r ih =>
        intro h
        have h1 := h a List.mem_cons_self
        have h2 := ih fun x hx => h x (List.mem_cons_of_mem _ hx)
        rw [List.flatten_cons, List.length_append, List.length_cons]
        omega
    have h3 := this _ hz
    rw [List.length_map] at h3
    omega
  have ad : dAdd (strL (W.map fun q => hdL q ++ [10]).flatten) (strL [10]) S1 = .ok (strL (headT2 W)) S1 := addT (by simp only [List.length_singleton]; omega)
  have eb : mBM "str" fJoin (mC (.str "")) (mCons (mLc (mSrc (mVar 2)) (.tp [10, 11]) mYes eHd [10, 11]) mNil) g S = .ok (strL (W.map fun q => hdL q ++ [10]).flatten) S1 := by
    simp (decide := true) only [mBM, mCons, mNil, mC, SM.bind, SM.pure, em, ez, tyF, if_true, j]
  refine ⟨S1, set_of (d := strL (headT2 W)) ?_, x1⟩
  show SM.bind _ _ S = _
  unfold SM.bind
  rw [eb]
  dsimp only
  simp only [mC, SM.pure, SM.bind, z2, ad]
end
end K18

set_option Elab.async false
set_option linter.all false
set_option maxRecDepth 100000
set_option maxHeartbeats 4000000
namespace K18
open PySem PySem.Spec PyProof.Rows L2 Y TL
section
variable {S : Sr} {i wl iw ir rl b : Nat} {W : List (List Nat × Int)} {rows : List (List Int)} {row : List Int} {g : Gm} {x0 x2 x3 x4 x5 x6 x7 x8 x9 x10 x11 x12 x13 x14 x15 x16 x17 x18 x19 : Option D}
def bfO (rows : List (List Int)) (b : Nat) : Option (List Int) := if b = 0 then none else rows[b - 1]?
theorem val_lt (w : WG W) (hr : RG1 W row) {k : Nat} (hk : k < W.length) : 0 ≤ row.getD k 0 ∧ row.getD k 0 < 32 := by
  have wd := w.wd _ (getD_mem hk)
  obtain ⟨h1, h2⟩ := hr.2 k hk
  have : (2 : Int) ^ ((W.getD k ([], 0)).2).toNat ≤ 2 ^ 5 := by
    have h5 : ((W.getD k ([], 0)).2).toNat ≤ 5 := by omega
    exact_mod_cast Nat.pow_le_pow_right (by decide : 2 > 0) h5
  have h32 : (2 : Int) ^ 5 = 32 := by decide
  omega
abbrev eCh : MT := mOr (mTB (mB dEq (mVar 5) (mC (.int 0)))) (mTB (mB dNe (mB dIx (mB dIx (mVar 4) (mB dSub (mVar 5) (mC (.int 1)))) (mVar 9)) (mB dIx (mVar 6) (mVar 9))))
theorem ch_test {k : Nat} (hr : S.f rl = some (.lst (rows.map valD))) (hR : ∀ r ∈ rows, r.length = W.length) (hb : b < rows.length) (hl : row.length = W.length) (hk : k < W.length) (g4 : g[4]? = some (some (.adr rl))) (g5 : g[5]? = some (some (.int (b : Int)))) (g6 : g[6]? = some (some (valD row))) (g9 : g[9]? = some (some (.int (k : Int)))) : eCh g S = .ok (chg (bfO rows b) row k) S := by
  have t1 : mTB (mB dEq (mVar 5) (mC (.int 0))) g S = .ok (decide ((b : Int) = 0)) S := by
    refine tb_of ?_
    simp only [mB, mVar, mC, SM.bind, SM.pure, g5, ev_eqI]
  by_cases z : b = 0
  · rw [decide_eq_true (by omega)] at t1
    have : chg (bfO rows b) row k = true := by
      unfold bfO
      rw [if_pos z]
      rfl
    rw [this]
    exact or_t t1
  · rw [decide_eq_false (by omega)] at t1
    refine or_f t1 (tb_of ?_)
    have hp : b - 1 < rows.length := by omega
    have hq : k < rows[b - 1].length := by rw [hR _ (List.getElem_mem hp)]; exact hk
    have hk2 : k < row.length := by omega
    have su : dSub (.int (b : Int)) (.int 1) S = .ok (.int ((b : Int) - 1)) S := by
      simp [dSub, okI]
    have i1 : dIx (.adr rl) (.int ((b : Int) - 1)) S = .ok (valD rows[b - 1]) S := ixL hr (by omega) (by
      have : ((b : Int) - 1).toNat = b - 1 := by omega
      rw [this, List.getElem?_map, List.getElem?_eq_getElem hp]
      rfl)
    have i2 : dIx (valD rows[b - 1]) (.int (k : Int)) S = .ok (.int (rows[b - 1])[k]) S := ixV hq
    have i3 : dIx (valD row) (.int (k : Int)) S = .ok (.int row[k]) S := ixV hk2
    have e : chg (bfO rows b) row k = decide ((rows[b - 1])[k] ≠ row[k]) := by
      unfold bfO
      rw [if_neg z, List.getElem?_eq_getElem hp]
      show decide ((rows[b - 1]).getD k 0 ≠ row.getD k 0) = _
      rw [List.getD_eq_getElem?_getD, List.getD_eq_getElem?_getD, List.getElem?_eq_getElem hq, List.getElem?_eq_getElem hk2]
      rfl
    have nn : dNe (.int (rows[b - 1])[k]) (.int row[k]) S = .ok (.bl (decide ((rows[b - 1])[k] ≠ row[k]))) S := by
      rw [ev_neI]
      congr 2
      simp
    simp only [mB, mVar, mC, SM.bind, SM.pure, g4, g5, g6, g9, su, i1, i2, i3, nn, e]
abbrev ePt : ME := mB dAdd (mB dAdd (mB dIx (mB dIx (mVar 2) (mVar 9)) (mC (.int 0))) (mC (.str "="))) (mCB fStr (mCons (mB dIx (mVar 6) (mVar 9)) mNil))
theorem pt_val {k : Nat} (w : WG W) (hr : RG1 W row) (hw : S.f wl = some (.lst (W.map widD))) (hk : k < W.length) (g2 : g[2]? = some (some (.adr wl))) (g6 : g[6]? = some (some (valD row))) (g9 : g[9]? = some (some (.int (k : Int)))) : ePt g S = .ok (strL (partL W row k)) S := by
  have hk2 : k < row.length := by rw [hr.1]; exact hk
  obtain ⟨_, _, n3⟩ := w.nm _ (List.getElem_mem hk)
  obtain ⟨v1, v2⟩ := val_lt w hr hk
  have gd : row.getD k 0 = row[k] := by
    rw [List.getD_eq_getElem?_getD, List.getElem?_eq_getElem hk2]
    rfl
  have gw : (W.getD k ([], 0)).1 = W[k].1 := by
    rw [List.getD_eq_getElem?_getD, List.getElem?_eq_getElem hk]
    rfl
  rw [gd] at v1 v2
  have i1 : dIx (.adr wl) (.int (k : Int)) S = .ok (widD W[k]) S := ixL hw (by omega) (by
    rw [Int.toNat_natCast, List.getElem?_map, List.getElem?_eq_getElem hk]
    rfl)
  have i2 : dIx (widD W[k]) (.int 0) S = .ok (strL W[k].1) S := ixT0
  have i3 : dIx (valD row) (.int (k : Int)) S = .ok (.int row[k]) S := ixV hk2
  have z1 : Str.ofString "=" = sg [61] := by rw [sg_str]; decide +kernel
  have nl : (nmI row[k]).length ≤ 3 := nmI_len (by omega)
  have fs : fStr [.int row[k]] S = .ok (strL (nmI row[k])) S := fStr_i v1 (by omega)
  have a1 : dAdd (strL W[k].1) (strL [61]) S = .ok (strL (W[k].1 ++ [61])) S := addT (by simp; omega)
  have a2 : dAdd (strL (W[k].1 ++ [61])) (strL (nmI row[k])) S = .ok (strL (W[k].1 ++ [61] ++ nmI row[k])) S := addT (by simp; omega)
  have e : partL W row k = W[k].1 ++ [61] ++ nmI row[k] := by
    unfold partL
    rw [gd, gw]
  rw [e]
  simp only [ePt, mB, mC, mCB, mCons, mNil, mVar, SM.bind, SM.pure, g2, g6, g9, i1, i2, i3, z1, fs, a1, a2]
theorem pts_loop (w : WG W) (hR : ∀ r ∈ rows, r.length = W.length) (hb : b < rows.length) (hr : RG1 W row) {S0 : Sr} {D0 : Nat} {g0 : Gm} (h2 : g0[2]? = some (some (.adr wl))) (h4 : g0[4]? = some (some (.adr rl))) (h5 : g0[5]? = some (some (.int (b : Int)))) (h6 : g0[6]? = some (some (valD row))) (h9 : 9 < g0.length) (hw : S0.f wl = some (.lst (W.map widD))) (hl : wl < S0.n) (hrl : S0.f rl = some (.lst (rows.map valD))) (hl2 : rl < S0.n) (hD : S0.n ≤ D0) : ∀ (r idx : Nat) (acc : List (List Nat)) (S : Sr), idx + r = W.length → acc.length ≤ idx → Xt S0 S → S.f D0 = some (.lst (acc.map strL)) →
    lcG (sqr 0 1 W.length) (.nm 9) eCh ePt g0 D0 r idx S = .ok () (S.put D0 (.lst ((acc ++ partsF W (bfO rows b) row ((List.range W.length).drop idx)).map strL)))
  | 0, idx, acc, S, h, hA, xt, fD => by
    rw [List.drop_eq_nil_of_le (by rw [List.length_range]; omega)]
    show lcG _ _ _ _ _ _ _ _ _ = .ok () (S.put D0 (.lst ((acc ++ []).map strL)))
    rw [List.append_nil, put_same fD]
    exact lc_end (nx_sqrE (by omega))
  | r + 1, idx, acc, S, h, hA, xt, fD => by
    have hx : idx < W.length := by omega
    have wz := w.len
    have tp : (Tg.nm 9).put (.int (idx : Int)) g0 = some (g0.set 9 (some (.int (idx : Int)))) := by
      simp [Tg.put, h9]
    have q2 : (g0.set 9 (some (.int (idx : Int))))[2]? = some (some (.adr wl)) := by
      rw [List.getElem?_set_ne (by decide)]; exact h2
    have q4 : (g0.set 9 (some (.int (idx : Int))))[4]? = some (some (.adr rl)) := by
      rw [List.getElem?_set_ne (by decide)]; exact h4
    have q5 : (g0.set 9 (some (.int (idx : Int))))[5]? = some (some (.int (b : Int))) := by
      rw [List.getElem?_set_ne (by decide)]; exact h5
    have q6 : (g0.set 9 (some (.int (idx : Int))))[6]? = some (some (valD row)) := by
      rw [List.getElem?_set_ne (by decide)]; exact h6
    have q9 : (g0.set 9 (some (.int (idx : Int))))[9]? = some (some (.int (idx : Int))) := List.getElem?_set_self h9
    have et := ch_test (S := S) (k := idx) (xt.at_ hrl hl2) hR hb hr.1 hx q4 q5 q6 q9
    have dr : (List.range W.length).drop idx = idx :: (List.range W.length).drop (idx + 1) := by
      rw [List.drop_eq_getElem_cons (by rw [List.length_range]; exact hx), List.getElem_range]
    rw [dr]
    by_cases c : chg (bfO rows b) row idx = true
    · rw [c] at et
      have ee := pt_val (S := S) w hr (xt.at_ hw hl) hx q2 q6 q9
      have e1 := lc_nx (r := r) (nx_sqr (S := S) hx) tp et ee fD (by rw [List.length_map, sizeLine_eq]; omega)
      have ea : acc.map strL ++ [strL (partL W row idx)] = (acc ++ [partL W row idx]).map strL := by rw [List.map_append]; rfl
      rw [ea] at e1
      have ef : partsF W (bfO rows b) row (idx :: (List.range W.length).drop (idx + 1)) = partL W row idx :: partsF W (bfO rows b) row ((List.range W.length).drop (idx + 1)) := by
        unfold partsF
        rw [List.filter_cons_of_pos c, List.map_cons]
      rw [e1, pts_loop w hR hb hr h2 h4 h5 h6 h9 hw hl hrl hl2 hD r (idx + 1) (acc ++ [partL W row idx]) _ (by omega) (by rw [List.length_append, List.length_singleton]; omega) (xt.put hD) at_put, put_put, List.append_assoc, ef]
      rfl
    · have cf : chg (bfO rows b) row idx = false := Bool.eq_false_iff.mpr c
      rw [cf] at et
      have ef : partsF W (bfO rows b) row (idx :: (List.range W.length).drop (idx + 1)) = partsF W (bfO rows b) row ((List.range W.length).drop (idx + 1)) := by
        unfold partsF
        rw [List.filter_cons_of_neg c]
      rw [lc_skip (nx_sqr (S := S) hx) tp et, pts_loop w hR hb hr h2 h4 h5 h6 h9 hw hl hrl hl2 hD r (idx + 1) acc S (by omega) (by omega) xt fD, ef]
theorem l118 (a : LW S i wl iw ir rl W rows) (w : WG W) (hR : RG W rows) (hb : b < rows.length) (hr : RG1 W row) : ∃ (P : Nat) (S' : Sr), b_law_s118 (GH x0 i wl iw rl (some (.int (b : Int))) (some (valD row)) x7 x8 x9 x10 x11 x12 x13 x14 x15 x16 x17 x18 x19) S = .nx (GH x0 i wl iw rl (some (.int (b : Int))) (some (valD row)) x7 (some (.adr P)) x9 x10 x11 x12 x13 x14 x15 x16 x17 x18 x19) S' ∧ S'.f P = some (.lst ((partsL W (bfO rows b) row).map strL)) ∧ P < S'.n ∧ Xt S S' := by
  let g : Gm := GH x0 i wl iw rl (some (.int (b : Int))) (some (valD row)) x7 x8 x9 x10 x11 x12 x13 x14 x15 x16 x17 x18 x19
  have wz := w.len
  have L := pts_loop w (fun r h => (hR.2 r h).1) hb hr (S0 := S) (D0 := S.n) (g0 := wipeD g [9]) (wl := wl) (rl := rl) rfl rfl rfl rfl (show 9 < (20 : Nat) by decide) a.w a.lt.2.1 a.r a.lt.2.2 (Nat.le_refl _) W.length 0 [] (S.alloc (.lst [])) (Nat.zero_add _) (Nat.le_refl _) Xt.alloc at_new
  rw [List.drop_zero, List.nil_append] at L
  have g6 : g[6]? = some (some (valD row)) := rfl
  have lenE : mCB fLen (mCons (mVar 6) mNil) g S = .ok (.int (W.length : Nat)) S := by
    have : fLen [valD row] S = .ok (.int (W.length : Nat)) S := by
      simp [fLen, lenD, hr.1]
    simp only [mCB, mCons, mNil, mVar, SM.bind, SM.pure, g6, this]
  have er : mRng1 (mCons (mCB fLen (mCons (mVar 6) mNil)) mNil) g S = .ok (sqr 0 1 W.length) S := rng_of (by simp only [mCons, mNil, SM.bind, SM.pure, lenE]) rfl (by omega)
  have em : mLc (mRng1 (mCons (mCB fLen (mCons (mVar 6) mNil)) mNil)) (.nm 9) eCh ePt [9] g S = .ok (.adr S.n) ((S.alloc (.lst [])).put S.n (.lst ((partsF W (bfO rows b) row (List.range W.length)).map strL))) := mLc_ok er L
  exact ⟨S.n, _, set_of em, at_put, Nat.lt_succ_self _, Xt.alloc.put (Nat.le_refl _)⟩
end
end K18

set_option Elab.async false
set_option linter.all false
set_option maxRecDepth 100000
set_option maxHeartbeats 4000000
namespace K18
open PySem PySem.Spec PyProof.Rows L2 Y TL
section
variable {S : Sr} {i wl iw ir rl b P : Nat} {W : List (List Nat × Int)} {rows : List (List Int)} {row : List Int} {g : Gm} {x0 x2 x3 x4 x5 x6 x7 x8 x9 x10 x11 x12 x13 x14 x15 x16 x17 x18 x19 : Option D}
theorem pts_ok (w : WG W) {bf : Option (List Int)} (hr : RG1 W row) : (partsL W bf row).length ≤ 4 ∧ ∀ x ∈ partsL W bf row, Sgn x ∧ x.length ≤ 20 := by
  have wz := w.len
  refine ⟨?_, fun x hx => ?_⟩
  · unfold partsL partsF
    rw [List.length_map]
    have := List.length_filter_le (chg bf row) (List.range W.length)
    rw [List.length_range] at this
    omega
  · unfold partsL partsF at hx
    obtain ⟨k, hk, rfl⟩ := List.mem_map.mp hx
    have hk := List.mem_range.mp (List.mem_filter.mp hk).1
    obtain ⟨s1, s2, _, _⟩ := (wok w).2 _ (getD_mem hk)
    obtain ⟨v1, v2⟩ := val_lt w hr hk
    have nl : (nmI (row.getD k 0)).length ≤ 3 := nmI_len (by omega)
    refine ⟨sgn_app (sgn_app s1 (sgn_of (by decide))) (num_sgn _), ?_⟩
    unfold partL
    rw [List.length_append, List.length_append, List.length_singleton]
    omega
theorem app_len {a b : List Nat} {n m : Nat} (h1 : a.length ≤ n) (h2 : b.length ≤ m) : (a ++ b).length ≤ n + m := by
  rw [List.length_append]
  omega
abbrev eLine : ME := mB dAdd (mBM "str" fJoin (mC (.str " ")) (mCons (mB dAdd (mLst (mCons (mB dAdd (mC (.str "#")) (mCB fStr (mCons (mVar 5) mNil))) mNil)) (mVar 8)) mNil)) (mC (.str "\n"))
theorem line_val (w : WG W) {bf : Option (List Int)} (hr : RG1 W row) (hP : S.f P = some (.lst ((partsL W bf row).map strL))) (hl : P < S.n) (hb : b ≤ 100) (g5 : g[5]? = some (some (.int (b : Int)))) (g8 : g[8]? = some (some (.adr P))) : ∃ S', eLine g S = .ok (strL (beatL b (partsL W bf row) ++ [10])) S' ∧ Xt S S' := by
  obtain ⟨p1, p2⟩ := pts_ok (bf := bf) w hr
  have z1 : Str.ofString "#" = sg [35] := by rw [sg_str]; decide +kernel
  have z2 : Str.ofString "\n" = sg [10] := by rw [sg_str]; decide +kernel
  have z3 : Str.ofString " " = sg [32] := by rw [sg_str]; decide +kernel
  have nl := numL_len (n := b) (k := 4) (by omega) (by omega)
  have fs : fStr [.int (b : Int)] S = .ok (strL (numL b)) S := fStr_n (by omega)
  have a1 : dAdd (strL [35]) (strL (numL b)) S = .ok (strL ([35] ++ numL b)) S := addT (by simp; omega)
  have sz1 : 1 ≤ sizeLine := by rw [sizeLine_eq]; omega
  obtain ⟨S1, eS1⟩ : ∃ S1, S1 = S.alloc (.lst (([[35] ++ numL b] : List (List Nat)).map strL)) := ⟨_, rfl⟩
  have n1 : S1.n = S.n + 1 := by rw [eS1]; rfl
  have el : mLst (mCons (mB dAdd (mC (.str "#")) (mCB fStr (mCons (mVar 5) mNil))) mNil) g S = .ok (.adr S.n) S1 := by
    rw [eS1]
    simp (decide := true) only [mLst, mCons, mNil, mB, mC, mCB, mVar, SM.bind, SM.pure, g5, z1, fs, a1, List.length_cons, List.length_nil, if_true, sz1]
    rfl
  have f1 : S1.f S.n = some (.lst (([[35] ++ numL b] : List (List Nat)).map strL)) := by rw [eS1]; exact at_new
  have f2 : S1.f P = some (.lst ((partsL W bf row).map strL)) := by rw [eS1]; exact at_old hP hl
  have x1 : Xt S S1 := by rw [eS1]; exact Xt.alloc
  have ca := cat_adr f1 f2 (by rw [List.length_map, List.length_map]; simp; omega)
  obtain ⟨S2, eS2⟩ : ∃ S2, S2 = S1.alloc (.lst (([[35] ++ numL b] : List (List Nat)).map strL ++ (partsL W bf row).map strL)) := ⟨_, rfl⟩
  rw [← eS2] at ca
  have f3 : S2.f S1.n = some (.lst ((([35] ++ numL b) :: partsL W bf row).map strL)) := by
    rw [eS2]
    exact at_new
  have x2 : Xt S S2 := by rw [eS2]; exact x1.alloc'
  have hB : ∀ x ∈ (([35] ++ numL b) :: partsL W bf row), x.length ≤ 20 := fun x hx => by
    rcases List.mem_cons.mp hx with rfl | hx
    · simp; omega
    · exact (p2 x hx).2
  have j : fJoin (strL [32]) [.adr S1.n] S2 = .ok (strL (beatL b (partsL W bf row))) S2 := join_adr f3 hB (by simp; omega)
  have jl := joinL_len hB
  have bl : (beatL b (partsL W bf row)).length ≤ 110 := by
    unfold beatL
    rw [List.length_cons] at jl
    omega
  have a3 : dAdd (strL (beatL b (partsL W bf row))) (strL [10]) S2 = .ok (strL (beatL b (partsL W bf row) ++ [10])) S2 := addT (by simp only [List.length_singleton]; omega)
  have ec : mB dAdd (mLst (mCons (mB dAdd (mC (.str "#")) (mCB fStr (mCons (mVar 5) mNil))) mNil)) (mVar 8) g S = .ok (.adr S1.n) S2 := by
    show SM.bind _ _ S = _
    unfold SM.bind
    rw [el]
    dsimp only
    simp only [mVar, g8, SM.bind]
    exact ca
  have ej : mBM "str" fJoin (mC (.str " ")) (mCons (mB dAdd (mLst (mCons (mB dAdd (mC (.str "#")) (mCB fStr (mCons (mVar 5) mNil))) mNil)) (mVar 8)) mNil) g S = .ok (strL (beatL b (partsL W bf row))) S2 := by
    simp (decide := true) only [mBM, mCons, mNil, mC, SM.bind, SM.pure, ec, z3, tyF, if_true, j]
  refine ⟨S2, ?_, x2⟩
  show SM.bind _ _ S = _
  unfold SM.bind
  rw [ej]
  dsimp only
  simp only [mC, SM.pure, SM.bind, z2, a3]
theorem bin_of {f : D → D → SM D} {a b : ME} {g : Gm} {S S1 S2 S3 : Sr} {x y z : D} (h1 : a g S = .ok x S1) (h2 : b g S1 = .ok y S2) (h3 : f x y S2 = .ok z S3) : mB f a b g S = .ok z S3 := by
  unfold mB SM.bind
  rw [h1]
  dsimp only
  rw [h2]
  exact h3
def addL (W : List (List Nat × Int)) (n b : Nat) (bf : Option (List Int)) (row : List Int) : List Nat := if partsL W bf row ≠ [] ∨ b + 1 = n then beatL b (partsL W bf row) ++ [10] else []
theorem l119 {du : List Nat} (a : LW S i wl iw ir rl W rows) (w : WG W) {bf : Option (List Int)} (hr : RG1 W row) (hn : rows.length ≤ 100) (hb : b < rows.length) (hP : S.f P = some (.lst ((partsL W bf row).map strL))) (hl : P < S.n) (hd : du.length ≤ 50000) : ∃ S', b_law_s119 (GH x0 i wl iw rl (some (.int (b : Int))) x6 (some (strL du)) (some (.adr P)) x9 x10 x11 x12 x13 x14 x15 x16 x17 x18 x19) S = .nx (GH x0 i wl iw rl (some (.int (b : Int))) x6 (some (strL (du ++ addL W rows.length b bf row))) (some (.adr P)) x9 x10 x11 x12 x13 x14 x15 x16 x17 x18 x19) S' ∧ Xt S S' := by
  let g : Gm := GH x0 i wl iw rl (some (.int (b : Int))) x6 (some (strL du)) (some (.adr P)) x9 x10 x11 x12 x13 x14 x15 x16 x17 x18 x19
  have g4 : g[4]? = some (some (.adr rl)) := rfl
  have g5 : g[5]? = some (some (.int (b : Int))) := rfl
  have g7 : g[7]? = some (some (strL du)) := rfl
  have g8 : g[8]? = some (some (.adr P)) := rfl
  obtain ⟨p1, p2⟩ := pts_ok (bf := bf) w hr
  obtain ⟨S1, eS1⟩ : ∃ S1, S1 = S.alloc (.lst []) := ⟨_, rfl⟩
  have x1 : Xt S S1 := by rw [eS1]; exact Xt.alloc
  have el : mLst mNil g S = .ok (.adr S.n) S1 := by
    have z0 : 0 ≤ sizeLine := Nat.zero_le _
    rw [eS1]
    simp only [mLst, mNil, SM.bind, SM.pure, List.length_nil, z0, if_true]
  have f1 : S1.f S.n = some (.lst []) := by rw [eS1]; exact at_new
  have nn := ne_nilS (x1.at_ hP hl) f1 (fun x hx => (p2 x hx).1)
  have t1 : mTB (mB dNe (mVar 8) (mLst mNil)) g S = .ok (!(partsL W bf row).isEmpty) S1 := by
    refine tb_of ?_
    simp only [mB, mVar, SM.bind, g8, el, nn]
  have fl : fLen [.adr rl] S1 = .ok (.int (rows.length : Nat)) S1 := by
    have h := x1.at_ a.r a.lt.2.2
    simp [fLen, lenD, h]
  have su : dSub (.int (rows.length : Nat)) (.int 1) S1 = .ok (.int ((rows.length : Nat) - 1 : Int)) S1 := by
    simp [dSub, okI]
  have t2 : mTB (mB dEq (mVar 5) (mB dSub (mCB fLen (mCons (mVar 4) mNil)) (mC (.int 1)))) g S1 = .ok (decide (b + 1 = rows.length)) S1 := by
    refine tb_of ?_
    have e : dEq (.int (b : Int)) (.int ((rows.length : Nat) - 1 : Int)) S1 = .ok (.bl (decide (b + 1 = rows.length))) S1 := by
      rw [ev_eqI]
      congr 2
      exact decide_eq_decide.mpr (by omega)
    simp only [mB, mVar, mC, mCB, mCons, mNil, SM.bind, SM.pure, g4, g5, fl, su, e]
  let T : MT := mOr (mTB (mB dNe (mVar 8) (mLst mNil))) (mTB (mB dEq (mVar 5) (mB dSub (mCB fLen (mCons (mVar 4) mNil)) (mC (.int 1)))))
  have fin : ∀ (l : List Nat) (S2 : Sr), l.length ≤ 1000 → Xt S S2 → mIf T eLine (mC (.str "")) g S = .ok (strL l) S2 → ∃ S', b_law_s119 g S = .nx (GH x0 i wl iw rl (some (.int (b : Int))) x6 (some (strL (du ++ l))) (some (.adr P)) x9 x10 x11 x12 x13 x14 x15 x16 x17 x18 x19) S' ∧ Xt S S' := fun l S2 h1 h2 h3 => by
    refine ⟨S2, set_of (d := strL (du ++ l)) ?_, h2⟩
    have ad : dAdd (strL du) (strL l) S2 = .ok (strL (du ++ l)) S2 := addT (by omega)
    exact bin_of (a := mVar 7) (b := mIf T eLine (mC (.str ""))) (by simp only [mVar, g7]) h3 ad
  have yes : ∀ S2, Xt S S2 → T g S = .ok true S2 → partsL W bf row ≠ [] ∨ b + 1 = rows.length → ∃ S', b_law_s119 g S = .nx (GH x0 i wl iw rl (some (.int (b : Int))) x6 (some (strL (du ++ addL W rows.length b bf row))) (some (.adr P)) x9 x10 x11 x12 x13 x14 x15 x16 x17 x18 x19) S' ∧ Xt S S' := fun S2 h1 h2 h3 => by
    obtain ⟨S3, e3, x3⟩ := line_val (S := S2) (g := g) (b := b) (bf := bf) w hr (h1.at_ hP hl) (Nat.lt_of_lt_of_le hl h1.le) (by omega) g5 g8
    have : addL W rows.length b bf row = beatL b (partsL W bf row) ++ [10] := if_pos h3
    rw [this]
    refine fin _ S3 ?_ (h1.trans x3) ((mif_t h2).trans e3)
    have nl := numL_len (n := b) (k := 4) (by omega) (by omega)
    have jl := joinL_len (ls := ([35] ++ numL b) :: partsL W bf row) (B := 20) (fun x hx => by
      rcases List.mem_cons.mp hx with rfl | hx
      · simp; omega
      · exact (p2 x hx).2)
    rw [List.length_cons] at jl
    rw [List.length_append, List.length_singleton]
    unfold beatL
    omega
  by_cases c1 : partsL W bf row = []
  · rw [c1] at t1
    have t1 : mTB (mB dNe (mVar 8) (mLst mNil)) g S = .ok false S1 := t1
    by_cases c2 : b + 1 = rows.length
    · rw [decide_eq_true c2] at t2
      exact yes S1 x1 (or_f t1 t2) (.inr c2)
    · rw [decide_eq_false c2] at t2
      have : addL W rows.length b bf row = [] := if_neg (by
        rintro (h | h)
        · exact h c1
        · exact c2 h)
      rw [this]
      have ez : Str.ofString "" = sg [] := by rw [sg_str]; decide +kernel
      refine fin [] S1 (Nat.zero_le _) x1 ((mif_f (or_f t1 t2)).trans ?_)
      simp only [mC, SM.pure, ez]
  · have : (!(partsL W bf row).isEmpty) = true := by
      cases h : partsL W bf row with
      | nil => exact absurd h c1
      | cons _ _ => rfl
    rw [this] at t1
    exact yes S1 x1 (or_t t1) (.inl c1)
end
end K18

set_option Elab.async false
set_option linter.all false
set_option maxRecDepth 100000
set_option maxHeartbeats 4000000
namespace K18
open PySem PySem.Spec PyProof.Rows L2 Y TL
section
variable {S : Sr} {g : Gm}
theorem fin_rd : ∃ S', (mB dEq (mAttr ["Wave"] "rows" (mCall f_read_wave 1 [] (mCons (mC (.str "a 2\n\n#0 a=3\n#4 a=1\n")) mNil))) (mLst (mCons (mTup (mCons (mC (.int 3)) mNil)) (mCons (mTup (mCons (mC (.int 3)) mNil)) (mCons (mTup (mCons (mC (.int 3)) mNil)) (mCons (mTup (mCons (mC (.int 3)) mNil)) (mCons (mTup (mCons (mC (.int 1)) mNil)) mNil))))))) g S = .ok (.bl true) S' := by
  have E := e_read (S := S) (t := finT) (sgn_of (by decide +kernel)) (by decide +kernel) (fun l hl => by
    have h : (spl [10] 0 [] finT).all (fun l => decide (l.length ≤ 1000)) = true := by decide +kernel
    exact of_decide_eq_true (List.all_eq_true.mp h l hl)) (by decide +kernel)
  rw [fin_read] at E
  obtain ⟨S1, iw, ir, e, a, xt, _⟩ := E
  rw [fin_str] at e
  have w := a.w
  have r := a.r
  have e1 : mAttr ["Wave"] "rows" (mCall f_read_wave 1 [] (mCons (mC (.str "a 2\n\n#0 a=3\n#4 a=1\n")) mNil)) g S = .ok (.adr ir) S1 := by
    have h0 : mCall f_read_wave 1 [] (mCons (mC (.str "a 2\n\n#0 a=3\n#4 a=1\n")) mNil) g S = .ok (.adr iw) S1 := by
      simp (decide := true) only [mCall, mCons, mNil, mC, SM.bind, SM.pure, List.length_cons, List.length_nil, if_true, List.append_nil, e]
    unfold mAttr
    simp (decide := true) [SM.bind, h0, w, List.lookup, Y.sb]
  let L : List D := [.tup [.int 3], .tup [.int 3], .tup [.int 3], .tup [.int 3], .tup [.int 1]]
  have sz1 : 1 ≤ sizeLine := by rw [sizeLine_eq]; omega
  have sz5 : 5 ≤ sizeLine := by rw [sizeLine_eq]; omega
  have e2 : (mLst (mCons (mTup (mCons (mC (.int 3)) mNil)) (mCons (mTup (mCons (mC (.int 3)) mNil)) (mCons (mTup (mCons (mC (.int 3)) mNil)) (mCons (mTup (mCons (mC (.int 3)) mNil)) (mCons (mTup (mCons (mC (.int 1)) mNil)) mNil)))))) g S1 = .ok (.adr S1.n) (S1.alloc (.lst L)) := by
    simp (decide := true) only [mLst, mTup, mCons, mNil, mC, SM.bind, SM.pure, List.length_cons, List.length_nil, if_true, sz1, sz5]
    rfl
  let P : PyData := .list [.tuple [.int 3], .tuple [.int 3], .tuple [.int 3], .tuple [.int 3], .tuple [.int 1]]
  have p1 : toPy (S1.alloc (.lst L)) 9 (.adr ir) = some P := by
    have r' : (S1.alloc (.lst L)).f ir = some (.lst ([[3], [3], [3], [3], [1]].map valD)) := at_old r a.lt.2.1
    show (match (S1.alloc (.lst L)).f ir with
      | some (.lst l) => (mapO (toPy (S1.alloc (.lst L)) 8) l).map PyData.list
      | _ => none) = _
    rw [r']
    rfl
  have p2 : toPy (S1.alloc (.lst L)) 9 (.adr S1.n) = some P := by
    have r' : (S1.alloc (.lst L)).f S1.n = some (.lst L) := at_new
    show (match (S1.alloc (.lst L)).f S1.n with
      | some (.lst l) => (mapO (toPy (S1.alloc (.lst L)) 8) l).map PyData.list
      | _ => none) = _
    rw [r']
    rfl
  have sh : SeqAt.shaped P = true := by decide +kernel
  have nn : dNe (.adr ir) (.adr S1.n) (S1.alloc (.lst L)) = .ok (.bl false) (S1.alloc (.lst L)) := ne_refl2 p1 p2 sh
  have ee : dEq (.adr ir) (.adr S1.n) (S1.alloc (.lst L)) = .ok (.bl true) (S1.alloc (.lst L)) := by
    have hp : P.plain = true := PyData.plain_of_canLay0 P (SeqAt.canLay_of_shaped sh)
    rw [ev_eqP p1 p2 sh sh, SeqAt.eqv_refl_plain P hp]
  refine ⟨S1.alloc (.lst L), ?_⟩
  show SM.bind _ _ S = _
  unfold SM.bind
  rw [e1]
  dsimp only
  rw [e2]
  exact ee
theorem fin_h : (mB dEq (mCall f_head_of 1 [] (mCons (mC (.str "a 4")) mNil)) (mTup (mCons (mC (.str "a")) (mCons (mC (.int 4)) mNil)))) g S = .ok (.bl true) S := by
  have e := e_head (S := S) (l := [97, 32, 52]) (sgn_of (by decide +kernel)) (by decide)
  rw [fin_head] at e
  have e : f_head_of [strL [97, 32, 52]] S = .ok (.tup [strL [97], .int 4]) S := e
  have w1 : [97, 32, 52] = wd "a 4" := by decide +kernel
  have w2 : [97] = wd "a" := by decide +kernel
  rw [w1, w2, strL_wd, strL_wd] at e
  have sz2 : 2 ≤ sizeLine := by rw [sizeLine_eq]; omega
  have p : toPy S 9 (.tup [.str "a", .int 4]) = some (.tuple [.str "a", .int 4]) := rfl
  have ee : dEq (.tup [.str "a", .int 4]) (.tup [.str "a", .int 4]) S = .ok (.bl true) S := eq_refl' p (by decide +kernel)
  simp (decide := true) only [mB, mCall, mTup, mCons, mNil, mC, SM.bind, SM.pure, List.length_cons, List.length_nil, if_true, List.append_nil, sz2, e, ee]
theorem fin_n : (mB dEq (mCall f_number_of_text 1 [] (mCons (mC (.str "10")) mNil)) (mC (.int 10))) g S = .ok (.bl true) S := by
  have e := e_num (S := S) (t := [49, 48]) (sgn_of (by decide +kernel)) (by decide)
  rw [fin_num] at e
  have e : f_number_of_text [strL [49, 48]] S = .ok (.int 10) S := e
  have w1 : [49, 48] = wd "10" := by decide +kernel
  rw [w1, strL_wd] at e
  have ee : dEq (.int 10) (.int 10) S = .ok (.bl true) S := by rw [ev_eqI]; rfl
  simp (decide := true) only [mB, mCall, mCons, mNil, mC, SM.bind, SM.pure, List.length_cons, List.length_nil, if_true, List.append_nil, e, ee]
theorem fin_t : (mB dEq (mTold subT qsT clT (mCall f_number_of_text 1 [] (mCons (mC (.str "12345678901")) mNil))) (mC (.str "RunError"))) g S = .ok (.bl true) S := by
  have e := e_num (S := S) (t := [49, 50, 51, 52, 53, 54, 55, 56, 57, 48, 49]) (sgn_of (by decide +kernel)) (by decide)
  rw [fin_num2] at e
  have e : f_number_of_text [strL [49, 50, 51, 52, 53, 54, 55, 56, 57, 48, 49]] S = .exc "RunError" S := e
  have w1 : [49, 50, 51, 52, 53, 54, 55, 56, 57, 48, 49] = wd "12345678901" := by decide +kernel
  rw [w1, strL_wd] at e
  have t : mTold subT qsT clT (mCall f_number_of_text 1 [] (mCons (mC (.str "12345678901")) mNil)) g S = .ok (.str "RunError") S := told_exc (by
    simp (decide := true) only [mCall, mCons, mNil, mC, SM.bind, SM.pure, List.length_cons, List.length_nil, if_true, List.append_nil, e])
  simp (decide := true) only [mB, mC, SM.bind, SM.pure, t, eq_run]
theorem andV_t {a b : ME} {S S1 : Sr} (h : a g S = .ok (.bl true) S1) : mAndV a b g S = b g S1 := by
  unfold mAndV SM.bind
  rw [h]
theorem l147 : ∃ S', b_law_s147 g S = .rt (.bl true) S' := by
  obtain ⟨S1, e1⟩ := fin_rd (S := S) (g := g)
  refine ⟨S1, ?_⟩
  have e := (andV_t e1).trans ((andV_t fin_h).trans ((andV_t fin_n).trans fin_t))
  unfold b_law_s147 mRet
  rw [e]
  all_goals rfl
end
end K18

set_option Elab.async false
set_option linter.all false
set_option maxRecDepth 100000
set_option maxHeartbeats 4000000
namespace K18
open PySem PySem.Spec PyProof.Rows L2 Y TL
section
variable {S : Sr} {i wl iw ir rl b P : Nat} {W : List (List Nat × Int)} {rows : List (List Int)} {row : List Int} {g : Gm} {x0 x2 x3 x4 x5 x6 x7 x8 x9 x10 x11 x12 x13 x14 x15 x16 x17 x18 x19 : Option D}
theorem addL_len (w : WG W) {bf : Option (List Int)} (hr : RG1 W row) {n : Nat} (hb : b ≤ 100) : (addL W n b bf row).length ≤ 200 := by
  obtain ⟨p1, p2⟩ := pts_ok (bf := bf) w hr
  have nl := numL_len (n := b) (k := 4) (by omega) (by omega)
  have jl := joinL_len (ls := ([35] ++ numL b) :: partsL W bf row) (B := 20) (fun x hx => by
    rcases List.mem_cons.mp hx with rfl | hx
    · simp; omega
    · exact (p2 x hx).2)
  rw [List.length_cons] at jl
  unfold addL
  split
  · rw [List.length_append, List.length_singleton]
    unfold beatL
    omega
  · exact Nat.zero_le _
theorem bl_cons {n : Nat} {bf : Option (List Int)} {r : List (List Int)} : ((blL W n b bf (row :: r)).map (· ++ [10])).flatten = addL W n b bf row ++ ((blL W n (b + 1) (some row) r).map (· ++ [10])).flatten := by
  show (((if partsL W bf row ≠ [] ∨ b + 1 = n then [beatL b (partsL W bf row)] else []) ++ blL W n (b + 1) (some row) r).map (· ++ [10])).flatten = _
  unfold addL
  split <;> simp
theorem st117 {d : D} {x5 x6 x7 : Option D} {n : Int} : mStep (gTp 2 (gCn (gNm 5) (gCn (gNm 6) gNl))) b_law_L117 (.tup [.int n, d]) (GH x0 i wl iw rl x5 x6 x7 x8 x9 x10 x11 x12 x13 x14 x15 x16 x17 x18 x19) S = b_law_L117 (GH x0 i wl iw rl (some (.int n)) (some d) x7 x8 x9 x10 x11 x12 x13 x14 x15 x16 x17 x18 x19) S := by
  simp (decide := true) [mStep, mSeq, mPass, mBrk, mCnt, mDrop, mRet, mRetN, mIfS, mRaise, mSet, mAsg, mPar, mPar3, mAug, mFld, mFldAug, gNm, gSub', gFld, gNl, gCn, gTp, setA, putFD, mVar, mC, mB, mU, mTB, mAnd, mOr, mNot, mIf, mAndV, mOrV, mNotV, mChain, mNil, mCons, mTup, mLst, mSl, oNo, oE, mCB, fAbs, fMax2, fMin2, fInt, lenD, fLen, fTuple, fList, itemsD, fIsi, tyD, mAttr, mCall, mMeth, mMake, mBM, tyF, SM.bind, SM.pure, toRS, toRSA, toRST, Y.sb, List.lookup, put_f, put_n, alloc_f, alloc_n, put_put, alloc_put, okI, okB, orF, dSub, dFdiv, dMod, dPow, dShl, dShr, dAnd, dOr, dXor, dNeg, dLt, dLe, dGt, dGe, dIs]
theorem lL117 {idx : Nat} {du : List Nat} (w : WG W) (hR : RG W rows) (a : LW S i wl iw ir rl W rows) (hx : idx < rows.length) (hr : RG1 W row) (zdu : du.length ≤ 50000) : ∃ (P : Nat) (S' : Sr), b_law_L117 (GH x0 i wl iw rl (some (.int (idx : Int))) (some (valD row)) (some (strL du)) x8 x9 x10 x11 x12 x13 x14 x15 x16 x17 x18 x19) S = .nx (GH x0 i wl iw rl (some (.int (idx : Int))) (some (valD row)) (some (strL (du ++ addL W rows.length idx (bfO rows idx) row))) (some (.adr P)) x9 x10 x11 x12 x13 x14 x15 x16 x17 x18 x19) S' ∧ Xt S S' := by
  have h30 := hR.1
  have z100 : rows.length ≤ 100 := by omega
  obtain ⟨P, S1, e1, hP, lP, x1⟩ := l118 (x0 := x0) (x7 := some (strL du)) (x8 := x8) (x9 := x9) (x10 := x10) (x11 := x11) (x12 := x12) (x13 := x13) (x14 := x14) (x15 := x15) (x16 := x16) (x17 := x17) (x18 := x18) (x19 := x19) a w hR hx hr
  obtain ⟨S2, e2, x2⟩ := l119 (x0 := x0) (x6 := some (valD row)) (du := du) (x9 := x9) (x10 := x10) (x11 := x11) (x12 := x12) (x13 := x13) (x14 := x14) (x15 := x15) (x16 := x16) (x17 := x17) (x18 := x18) (x19 := x19) (a.xt x1) w (bf := bfO rows idx) (row := row) (b := idx) (P := P) hr z100 hx hP lP zdu
  exact ⟨P, S2, (sq_nx e1).trans e2, x1.trans x2⟩
theorem due_loop (w : WG W) (hR : RG W rows) : ∀ (r idx : Nat) (du : List Nat) (S : Sr) (x5 x6 x8 : Option D), idx + r = rows.length → du.length ≤ 200 + 200 * idx → LW S i wl iw ir rl W rows →
    ∃ (S' : Sr) (y5 y6 y8 : Option D), forG (sqe (sqa rl rows.length)) (mStep (gTp 2 (gCn (gNm 5) (gCn (gNm 6) gNl))) b_law_L117) r idx (GH x0 i wl iw rl x5 x6 (some (strL du)) x8 x9 x10 x11 x12 x13 x14 x15 x16 x17 x18 x19) S = .nx (GH x0 i wl iw rl y5 y6 (some (strL (du ++ ((blL W rows.length idx (bfO rows idx) (rows.drop idx)).map (· ++ [10])).flatten))) y8 x9 x10 x11 x12 x13 x14 x15 x16 x17 x18 x19) S' ∧ Xt S S' := by
  intro r
  induction r with
  | zero =>
    intro idx du S x5 x6 x8 h hd a
    rw [List.drop_eq_nil_of_le (by omega)]
    refine ⟨S, x5, x6, x8, ?_, Xt.refl _⟩
    show forG _ _ 0 idx _ S = .nx (GH x0 i wl iw rl x5 x6 (some (strL (du ++ []))) x8 x9 x10 x11 x12 x13 x14 x15 x16 x17 x18 x19) S
    rw [List.append_nil]
    refine fo_end ?_
    show (match (sqa rl rows.length).nxt idx S with
      | some (some d) => some (some (D.tup [.int (idx : Int), d]))
      | some none => some none
      | none => none) = _
    rw [nx_sqa a.r, List.getElem?_eq_none (by rw [List.length_map]; omega)]
  | succ r ih =>
    intro idx du S x5 x6 x8 h hd a
    have hx : idx < rows.length := by omega
    have h30 := hR.1
    have hr := hR.2 _ (List.getElem_mem hx)
    have en : (sqe (sqa rl rows.length)).nxt idx S = some (some (.tup [.int (idx : Int), valD rows[idx]])) := by
      show (match (sqa rl rows.length).nxt idx S with
        | some (some d) => some (some (D.tup [.int (idx : Int), d]))
        | some none => some none
        | none => none) = _
      rw [nx_sqa a.r, List.getElem?_map, List.getElem?_eq_getElem hx]
      rfl
    have zdu : du.length ≤ 50000 := by omega
    obtain ⟨P, S2, body, x2⟩ := lL117 (x0 := x0) (x8 := x8) (x9 := x9) (x10 := x10) (x11 := x11) (x12 := x12) (x13 := x13) (x14 := x14) (x15 := x15) (x16 := x16) (x17 := x17) (x18 := x18) (x19 := x19) (row := rows[idx]) (du := du) w hR a hx hr zdu
    have al := addL_len w (b := idx) (bf := bfO rows idx) (n := rows.length) hr (by omega)
    obtain ⟨S3, y5, y6, y8, e3, x3⟩ := ih (idx + 1) (du ++ addL W rows.length idx (bfO rows idx) rows[idx]) S2 (some (.int (idx : Int))) (some (valD rows[idx])) (some (.adr P)) (by omega) (by rw [List.length_append]; omega) (a.xt x2)
    refine ⟨S3, y5, y6, y8, (fo_nx en (st117.trans body)).trans (e3.trans ?_), x2.trans x3⟩
    have eb : bfO rows (idx + 1) = some rows[idx] := by
      unfold bfO
      rw [if_neg (Nat.succ_ne_zero _), Nat.add_sub_cancel, List.getElem?_eq_getElem hx]
    rw [List.drop_eq_getElem_cons hx, bl_cons, eb, List.append_assoc]
theorem head2_len (w : WG W) : (headT2 W).length ≤ 200 := by
  have wz := w.len
  have hz := hd_len w
  have : ∀ (l : List (List Nat)), (∀ x ∈ l, x.length ≤ 20) → l.flatten.length ≤ l.length * 20 := fun l => by
    induction l with
    | nil => exact fun _ => Nat.le_refl _
    | cons a r ih =>
      intro h
      have h1 := h a List.mem_cons_self
      have h2 := ih fun x hx => h x (List.mem_cons_of_mem _ hx)
      rw [List.flatten_cons, List.length_append, List.length_cons]
      omega
  have h3 := this _ hz
  rw [List.length_map] at h3
  unfold headT2
  rw [List.length_append, List.length_singleton]
  omega
theorem due_eq : headT2 W ++ ((blL W rows.length 0 none rows).map (· ++ [10])).flatten = waveT W rows := by
  unfold waveT waveL headT2
  rw [List.map_append, List.map_append, List.flatten_append, List.flatten_append, List.map_map]
  rfl
theorem l117 (a : LW S i wl iw ir rl W rows) (w : WG W) (hR : RG W rows) : ∃ (S' : Sr) (y5 y6 y8 : Option D), b_law_s117 (GH x0 i wl iw rl x5 x6 (some (strL (headT2 W))) x8 x9 x10 x11 x12 x13 x14 x15 x16 x17 x18 x19) S = .nx (GH x0 i wl iw rl y5 y6 (some (strL (waveT W rows))) y8 x9 x10 x11 x12 x13 x14 x15 x16 x17 x18 x19) S' ∧ Xt S S' := by
  obtain ⟨S', y5, y6, y8, e, xt⟩ := due_loop (x0 := x0) (x9 := x9) (x10 := x10) (x11 := x11) (x12 := x12) (x13 := x13) (x14 := x14) (x15 := x15) (x16 := x16) (x17 := x17) (x18 := x18) (x19 := x19) w hR rows.length 0 (headT2 W) S x5 x6 x8 (Nat.zero_add _) (by have := head2_len w; omega) a
  have b0 : bfO rows 0 = none := rfl
  rw [List.drop_zero, b0, due_eq] at e
  have es : mEnu (mCons (mVar 4) mNil) (GH x0 i wl iw rl x5 x6 (some (strL (headT2 W))) x8 x9 x10 x11 x12 x13 x14 x15 x16 x17 x18 x19) S = .ok (sqe (sqa rl rows.length)) S := by
    have h := a.r
    simp (decide := true) [mEnu, mSrcD, mCons, mNil, mVar, SM.bind, SM.pure, h]
  exact ⟨S', y5, y6, y8, (mFor_of es).trans e, xt⟩
end
end K18

set_option Elab.async false
set_option linter.all false
set_option maxRecDepth 100000
set_option maxHeartbeats 4000000
namespace K18
open PySem PySem.Spec PyProof.Rows L2 Y TL
section
variable {S : Sr} {i wl iw ir rl : Nat} {W : List (List Nat × Int)} {rows : List (List Int)} {g : Gm}
theorem rows_of {o : ME} {S S1 : Sr} {jw jr : Nat} (v : WaveAt S1 jw jr W rows) (ho : o g S = .ok (.adr jw) S1) : mAttr ["Wave"] "rows" o g S = .ok (.adr jr) S1 := by
  have w := v.w
  unfold mAttr
  simp (decide := true) [SM.bind, ho, w, List.lookup, Y.sb]
theorem wids_of {o : ME} {S S1 : Sr} {jw jr : Nat} (v : WaveAt S1 jw jr W rows) (ho : o g S = .ok (.adr jw) S1) : mAttr ["Wave"] "widths" o g S = .ok (.gtp (W.map widD)) S1 := by
  have w := v.w
  unfold mAttr
  simp (decide := true) [SM.bind, ho, w, List.lookup, Y.sb]
theorem meth0 {x : Str} {f : List D → SM D} {o : ME} {g : Gm} {S : Sr} {iw ir : Nat} (v : WaveAt S iw ir W rows) (ho : o g S = .ok (.adr iw) S) (h1 : x ≠ "widths") (h2 : x ≠ "rows") : mMeth "Wave" x f 1 [] o mNil g S = f [.adr iw] S := by
  have lk : List.lookup x ([("widths", .gtp (W.map widD)), ("rows", .adr ir)] : List (Str × D)) = none := by
    have b1 : (x == ("widths" : Str)) = false := beq_false_of_ne h1
    have b2 : (x == ("rows" : Str)) = false := beq_false_of_ne h2
    simp [List.lookup, b1, b2]
  have w := v.w
  unfold mMeth SM.bind
  rw [ho]
  dsimp only
  rw [w]
  dsimp only
  rw [if_pos ⟨rfl, lk⟩]
  rfl
theorem text_ne : ("wave_text" : Str) ≠ "widths" ∧ ("wave_text" : Str) ≠ "rows" := by
  constructor <;> simp (decide := true) [Y.sb]
theorem rok (w : WG W) (hR : RG W rows) : RowsOk W rows := by
  have h30 := hR.1
  refine ⟨by omega, fun r hr => ⟨(hR.2 r hr).1, fun v hv => ?_⟩⟩
  obtain ⟨k, hk, rfl⟩ := List.mem_iff_getElem.mp hv
  have hW : k < W.length := by rw [← (hR.2 r hr).1]; exact hk
  obtain ⟨h1, h2⟩ := (hR.2 r hr).2 k hW
  have wd := w.wd _ (getD_mem hW)
  have p : (2 : Int) ^ ((W.getD k ([], 0)).2).toNat ≤ 2 ^ 5 := by
    have h5 : ((W.getD k ([], 0)).2).toNat ≤ 5 := by omega
    exact_mod_cast Nat.pow_le_pow_right (by decide : 2 > 0) h5
  have h32 : (2 : Int) ^ 5 = 32 := by decide
  rw [List.getD_eq_getElem?_getD, List.getElem?_eq_getElem hk] at h1 h2
  have h1 : 0 ≤ r[k] := h1
  have h2 : r[k] < 2 ^ ((W.getD k ([], 0)).2).toNat := h2
  omega
theorem t120b (a : LW S i wl iw ir rl W rows) (w : WG W) (hR : RG W rows) (hs : Sgn (waveT W rows)) (g3 : g[3]? = some (some (.adr iw))) (g7 : g[7]? = some (some (strL (waveT W rows)))) : ∃ S', mTB (mB dNe (mMeth "Wave" "wave_text" f_Wave_wave_text 1 [] (mVar 3) mNil) (mVar 7)) g S = .ok false S' ∧ Xt S S' := by
  obtain ⟨S1, e, x1⟩ := e_text (wok w) (rok w hR) a.v
  have em : mMeth "Wave" "wave_text" f_Wave_wave_text 1 [] (mVar 3) mNil g S = .ok (strL (waveT W rows)) S1 := (meth0 a.v (by simp only [mVar, g3]) text_ne.1 text_ne.2).trans e
  refine ⟨S1, tb_of ?_, x1⟩
  have nn : dNe (strL (waveT W rows)) (strL (waveT W rows)) S1 = .ok (.bl false) S1 := by
    rw [neT hs hs]
    simp
  simp only [mB, mVar, SM.bind, em, g7, nn]
end
end K18

set_option Elab.async false
set_option linter.all false
set_option maxRecDepth 100000
set_option maxHeartbeats 4000000
namespace K18
open PySem PySem.Spec PyProof.Rows L2 Y TL
section
variable {S : Sr} {W : List (List Nat × Int)} {rows : List (List Int)}
theorem join_sgn : ∀ {ls : List (List Nat)}, (∀ x ∈ ls, Sgn x) → Sgn (TL.joinL [32] ls)
  | [], _ => fun c h => nomatch h
  | [a], h => h a List.mem_cons_self
  | a :: b :: r, h => by
    show Sgn (a ++ ([32] ++ TL.joinL [32] (b :: r)))
    exact sgn_app (h a List.mem_cons_self) (sgn_app (sgn_of (by decide)) (join_sgn fun x hx => h x (List.mem_cons_of_mem _ hx)))
theorem bl_sgn (w : WG W) : ∀ {rs : List (List Int)} {n b : Nat} {bf : Option (List Int)}, (∀ r ∈ rs, RG1 W r) → ∀ x ∈ blL W n b bf rs, Sgn x
  | [], n, b, bf, _, x, hx => nomatch hx
  | row :: r, n, b, bf, hR, x, hx => by
    unfold blL at hx
    rcases List.mem_append.mp hx with hx | hx
    · split at hx
      · rw [List.mem_singleton.mp hx]
        obtain ⟨_, p2⟩ := pts_ok (bf := bf) w (hR row List.mem_cons_self)
        refine join_sgn fun y hy => ?_
        rcases List.mem_cons.mp hy with rfl | hy
        · exact sgn_app (sgn_of (by decide)) (numL_sgn _)
        · exact (p2 y hy).1
      · cases hx
    · exact bl_sgn w (fun r hr => hR r (List.mem_cons_of_mem _ hr)) x hx
theorem line_sgn (w : WG W) (hR : RG W rows) : ∀ x ∈ waveL W rows, Sgn x := fun x hx => by
  unfold waveL at hx
  rcases List.mem_append.mp hx with hx | hx
  · rcases List.mem_append.mp hx with hx | hx
    · obtain ⟨q, hq, rfl⟩ := List.mem_map.mp hx
      exact sgn_app (sgn_app ((wok w).2 q hq).1 (sgn_of (by decide))) (num_sgn _)
    · rw [List.mem_singleton.mp hx]
      exact sgn_nil
  · exact bl_sgn w hR.2 x hx
theorem wave_sgn (w : WG W) (hR : RG W rows) : Sgn (waveT W rows) := fun c hc => by
  unfold waveT at hc
  obtain ⟨l, hl, hcl⟩ := List.mem_flatten.mp hc
  obtain ⟨x, hx, rfl⟩ := List.mem_map.mp hl
  exact sgn_app (line_sgn w hR x hx) (sgn_of (by decide)) c hcl
theorem flat_le {B : Nat} : ∀ {l : List (List Nat)}, (∀ x ∈ l, x.length ≤ B) → l.flatten.length ≤ l.length * B
  | [], _ => Nat.zero_le _
  | a :: r, h => by
    have h1 := h a List.mem_cons_self
    have h2 := flat_le fun x hx => h x (List.mem_cons_of_mem _ hx)
    rw [List.flatten_cons, List.length_append, List.length_cons, Nat.succ_mul]
    omega
theorem wave_cnt (w : WG W) (hR : RG W rows) : (waveL W rows).length ≤ 36 := by
  have h1 := w.len
  have h2 := hR.1
  have h3 := blL_len (W := W) (n := rows.length) (b := 0) (bf := none) (rs := rows)
  unfold waveL
  rw [List.length_append, List.length_append, List.length_map, List.length_singleton]
  omega
theorem read_due (w : WG W) (hR : RG W rows) : ∃ S' jw jr, f_read_wave [strL (waveT W rows)] S = .ok (.adr jw) S' ∧ WaveAt S' jw jr W rows ∧ Xt S S' := by
  have k := (waveL_ok (wok w) (rok w hR)).1
  have c := wave_cnt w hR
  have fl : (waveT W rows).length ≤ 50000 := by
    have := flat_le (l := (waveL W rows).map (· ++ [10])) (B := 301) (fun x hx => by
      obtain ⟨y, hy, rfl⟩ := List.mem_map.mp hx
      have := k y hy
      rw [List.length_append, List.length_singleton]
      omega)
    rw [List.length_map] at this
    unfold waveT
    omega
  have sp := wave_spl w (rows := rows)
  have E := e_read (S := S) (wave_sgn w hR) fl (fun l hl => by
    rw [sp] at hl
    rcases List.mem_append.mp hl with h | h
    · have := k l h
      omega
    · rw [List.mem_singleton.mp h]
      exact Nat.zero_le _) (by
    rw [sp, List.length_append, List.length_singleton]
    omega)
  rw [read_wave w hR] at E
  obtain ⟨S', iw, ir, e, a, xt, _⟩ := E
  exact ⟨S', iw, ir, e, a, xt⟩
end
end K18

set_option Elab.async false
set_option linter.all false
set_option maxRecDepth 100000
set_option maxHeartbeats 4000000
namespace K18
open PySem PySem.Spec PyProof.Rows L2 Y TL
def pyRow (r : List Nat × Int) : PyData := .tuple [.str (sg r.1), .int r.2]
theorem py_row {S : Sr} {k : Nat} (r : List Nat × Int) : toPy S (k + 2) (widD r) = some (pyRow r) := rfl
theorem py_rows {S : Sr} {a : Nat} {rows : List (List Nat × Int)} (h : S.f a = some (.lst (rows.map widD))) : toPy S 9 (.adr a) = some (.list (rows.map pyRow)) := by
  show (match S.f a with
    | some (.lst l) => (mapO (toPy S 8) l).map PyData.list
    | _ => none) = _
  rw [h]
  show (mapO (toPy S 8) (rows.map widD)).map PyData.list = _
  rw [mapO_map (h := pyRow) (fun r => py_row r)]
  rfl
theorem lay_rows : ∀ l : List (List Nat × Int), (∀ r ∈ l, Sgn r.1) → PyData.canLayAll0 (l.map pyRow) = true ∧ PyData.depthAll (l.map pyRow) ≤ 1
  | [], _ => ⟨rfl, by show (0 : Nat) ≤ 1; omega⟩
  | r :: l, h => by
    obtain ⟨h1, h2⟩ := lay_rows l fun x hx => h x (List.mem_cons_of_mem _ hx)
    have hs := strOk_of (x := sg r.1) (h r List.mem_cons_self)
    refine ⟨?_, ?_⟩
    · show (PyData.canLay0 (pyRow r) && PyData.canLayAll0 (l.map pyRow)) = true
      rw [h1, Bool.and_true]
      show ((PyData.canLay0 (.str (sg r.1))) && (PyData.canLay0 (.int r.2) && PyData.canLayAll0 [])) = true
      show (PyData.strOk (sg r.1) && (true && true)) = true
      rw [hs]
      rfl
    · show max (PyData.depth (pyRow r)) (PyData.depthAll (l.map pyRow)) ≤ 1
      have : PyData.depth (pyRow r) = 1 := rfl
      rw [this]
      omega
theorem shaped_rows {l : List (List Nat × Int)} (h : ∀ r ∈ l, Sgn r.1) : SeqAt.shaped (.list (l.map pyRow)) = true := by
  obtain ⟨h1, h2⟩ := lay_rows l h
  unfold SeqAt.shaped
  have e1 : PyData.canLay0 (.list (l.map pyRow)) = true := h1
  have e2 : PyData.depth (.list (l.map pyRow)) = PyData.depthAll (l.map pyRow) + 1 := rfl
  rw [e1, e2, Bool.true_and]
  exact decide_eq_true (by omega)
theorem ne_rows {S : Sr} {a b : Nat} {l : List (List Nat × Int)} (h : S.f a = some (.lst (l.map widD))) (h2 : S.f b = some (.lst (l.map widD))) (hs : ∀ r ∈ l, Sgn r.1) : dNe (.adr a) (.adr b) S = .ok (.bl false) S := by
  have hp := PyData.plain_of_canLay0 _ (SeqAt.canLay_of_shaped (shaped_rows hs))
  rw [ev_neP (py_rows h) (py_rows h2) (shaped_rows hs) (shaped_rows hs), SeqAt.eqv_refl_plain _ hp]
  rfl
section
variable {S : Sr} {i wl iw ir rl : Nat} {W : List (List Nat × Int)} {rows : List (List Int)} {x0 x5 x6 x8 x9 x10 x11 x12 x13 x14 x15 x16 x17 x18 x19 : Option D}
abbrev eRd : ME := mCall f_read_wave 1 [] (mCons (mVar 7) mNil)
theorem rd_val {g : Gm} (w : WG W) (hR : RG W rows) (g7 : g[7]? = some (some (strL (waveT W rows)))) : ∃ S' jw jr, eRd g S = .ok (.adr jw) S' ∧ WaveAt S' jw jr W rows ∧ Xt S S' := by
  obtain ⟨S', jw, jr, e, v, xt⟩ := read_due (S := S) w hR
  refine ⟨S', jw, jr, ?_, v, xt⟩
  simp (decide := true) only [eRd, mCall, mCons, mNil, mVar, SM.bind, SM.pure, g7, List.length_cons, List.length_nil, if_true, List.append_nil, e]
theorem l120 (a : LW S i wl iw ir rl W rows) (w : WG W) (hR : RG W rows) : ∃ S', b_law_s120 (GH x0 i wl iw rl x5 x6 (some (strL (waveT W rows))) x8 x9 x10 x11 x12 x13 x14 x15 x16 x17 x18 x19) S = .nx (GH x0 i wl iw rl x5 x6 (some (strL (waveT W rows))) x8 x9 x10 x11 x12 x13 x14 x15 x16 x17 x18 x19) S' ∧ Xt S S' := by
  obtain ⟨g, eg⟩ : ∃ g : Gm, g = GH x0 i wl iw rl x5 x6 (some (strL (waveT W rows))) x8 x9 x10 x11 x12 x13 x14 x15 x16 x17 x18 x19 := ⟨_, rfl⟩
  have g2 : g[2]? = some (some (.adr wl)) := by rw [eg]; rfl
  have g3 : g[3]? = some (some (.adr iw)) := by rw [eg]; rfl
  have g4 : g[4]? = some (some (.adr rl)) := by rw [eg]; rfl
  have g7 : g[7]? = some (some (strL (waveT W rows))) := by rw [eg]; rfl
  rw [← eg]
  have v4 : ∀ Sx, mVar 4 g Sx = .ok (.adr rl) Sx := fun Sx => by simp only [mVar, g4]
  have v2 : ∀ Sx, mVar 2 g Sx = .ok (.adr wl) Sx := fun Sx => by simp only [mVar, g2]
  have t1 : mTB (mB dNe (mAttr ["Wave"] "rows" (mVar 3)) (mVar 4)) g S = .ok false S := tb_of (bin_of (rows_of a.v (by simp only [mVar, g3])) (v4 S) (ne_vals a.v.r a.r))
  obtain ⟨S2, t2, x2⟩ := t120b a w hR (wave_sgn w hR) g3 g7
  have a2 := a.xt x2
  obtain ⟨S3, jw, jr, e3, v3, x3⟩ := rd_val (S := S2) w hR g7
  have a3 := a2.xt x3
  have t3 : mTB (mB dNe (mAttr ["Wave"] "rows" eRd) (mVar 4)) g S2 = .ok false S3 := tb_of (bin_of (rows_of v3 e3) (v4 S3) (ne_vals v3.r a3.r))
  obtain ⟨S4, kw, kr, e4, v4', x4⟩ := rd_val (S := S3) w hR g7
  have a4 := a3.xt x4
  obtain ⟨S5, e5⟩ : ∃ S5, S5 = S4.alloc (.lst (W.map widD)) := ⟨_, rfl⟩
  have x5' : Xt S4 S5 := by rw [e5]; exact Xt.alloc
  have f5 : S5.f S4.n = some (.lst (W.map widD)) := by rw [e5]; exact at_new
  have el : mCB fList (mCons (mAttr ["Wave"] "widths" eRd) mNil) g S3 = .ok (.adr S4.n) S5 := by
    have h := wids_of v4' e4
    have fl : fList [.gtp (W.map widD)] S4 = .ok (.adr S4.n) S5 := by
      rw [e5]
      simp [fList, itemsD]
    simp only [mCB, mCons, mNil, SM.bind, SM.pure, h, fl]
  have t4 : mTB (mB dNe (mCB fList (mCons (mAttr ["Wave"] "widths" eRd) mNil)) (mVar 2)) g S3 = .ok false S5 := tb_of (bin_of el (v2 S5) (ne_rows f5 (x5'.at_ a4.w a4.lt.2.1) fun q hq => ((wok w).2 q hq).1))
  exact ⟨S5, ifs_f (or_f t1 (or_f t2 (or_f t3 t4))), ((x2.trans x3).trans x4).trans x5'⟩
end
end K18

set_option Elab.async false
set_option linter.all false
set_option maxRecDepth 100000
set_option maxHeartbeats 4000000
namespace K18
open PySem PySem.Spec PyProof.Rows L2 Y TL
section
variable {S : Sr} {i wl iw ir rl k : Nat} {W : List (List Nat × Int)} {rows : List (List Int)} {g : Gm}
abbrev ePr : ME := mTup (mCons (mVar 5) (mCons (mB dIx (mVar 6) (mVar 9)) mNil))
theorem chL_cons {b : Int} {bf : Option (List Int)} {row : List Int} {r : List (List Int)} : chL k b bf (row :: r) = (if chg bf row k = true then [(b, row.getD k 0)] else []) ++ chL k (b + 1) (some row) r := rfl
theorem pr_loop (hR : ∀ r ∈ rows, r.length = W.length) (h30 : rows.length ≤ 100) (hk : k < W.length) {S0 : Sr} {D0 : Nat} {g0 : Gm} (h4 : g0[4]? = some (some (.adr rl))) (h9 : g0[9]? = some (some (.int (k : Int)))) (hg : 9 < g0.length) (hrl : S0.f rl = some (.lst (rows.map valD))) (hl2 : rl < S0.n) (hD : S0.n ≤ D0) : ∀ (r idx : Nat) (acc : List (Int × Int)) (S : Sr), idx + r = rows.length → acc.length ≤ idx → Xt S0 S → S.f D0 = some (.lst (acc.map prD)) →
    lcG (sqe (sqa rl rows.length)) (.tp [5, 6]) eCh ePr g0 D0 r idx S = .ok () (S.put D0 (.lst ((acc ++ chL k (idx : Int) (bfO rows idx) (rows.drop idx)).map prD))) := by
  intro r
  induction r with
  | zero =>
    intro idx acc S h hA xt fD
    rw [List.drop_eq_nil_of_le (by omega)]
    show lcG _ _ _ _ _ _ _ _ _ = .ok () (S.put D0 (.lst ((acc ++ []).map prD)))
    rw [List.append_nil, put_same fD]
    refine lc_end ?_
    show (match (sqa rl rows.length).nxt idx S with
      | some (some d) => some (some (D.tup [.int (idx : Int), d]))
      | some none => some none
      | none => none) = _
    rw [nx_sqa (xt.at_ hrl hl2), List.getElem?_eq_none (by rw [List.length_map]; omega)]
  | succ r ih =>
    intro idx acc S h hA xt fD
    have hx : idx < rows.length := by omega
    have hlr := hR _ (List.getElem_mem hx)
    have sz2 : 2 ≤ sizeLine := by rw [sizeLine_eq]; omega
    have en : (sqe (sqa rl rows.length)).nxt idx S = some (some (.tup [.int (idx : Int), valD rows[idx]])) := by
      show (match (sqa rl rows.length).nxt idx S with
        | some (some d) => some (some (D.tup [.int (idx : Int), d]))
        | some none => some none
        | none => none) = _
      rw [nx_sqa (xt.at_ hrl hl2), List.getElem?_map, List.getElem?_eq_getElem hx]
      rfl
    obtain ⟨g, eg⟩ : ∃ g : Gm, g = (g0.set 5 (some (.int (idx : Int)))).set 6 (some (valD rows[idx])) := ⟨_, rfl⟩
    have tp : (Tg.tp [5, 6]).put (.tup [.int (idx : Int), valD rows[idx]]) g0 = some g := by
      have z1 : 5 < g0.length := by omega
      have z2 : 6 < g0.length := by omega
      rw [eg]
      simp (decide := true) [Tg.put, z1, z2, putAll]
      rfl
    have q4 : g[4]? = some (some (.adr rl)) := by
      rw [eg, List.getElem?_set_ne (by decide), List.getElem?_set_ne (by decide)]; exact h4
    have q9 : g[9]? = some (some (.int (k : Int))) := by
      rw [eg, List.getElem?_set_ne (by decide), List.getElem?_set_ne (by decide)]; exact h9
    have q5 : g[5]? = some (some (.int (idx : Int))) := by
      rw [eg, List.getElem?_set_ne (by decide), List.getElem?_set_self (by omega)]
    have q6 : g[6]? = some (some (valD rows[idx])) := by
      rw [eg, List.getElem?_set_self (by rw [List.length_set]; omega)]
    have et := ch_test (S := S) (k := k) (b := idx) (row := rows[idx]) (xt.at_ hrl hl2) hR hx hlr hk q4 q5 q6 q9
    have eb : bfO rows (idx + 1) = some rows[idx] := by
      unfold bfO
      rw [if_neg (Nat.succ_ne_zero _), Nat.add_sub_cancel, List.getElem?_eq_getElem hx]
    rw [List.drop_eq_getElem_cons hx, chL_cons]
    have ci : ((idx : Int) + 1) = ((idx + 1 : Nat) : Int) := rfl
    rw [ci, ← eb]
    by_cases c : chg (bfO rows idx) rows[idx] k = true
    · rw [c] at et
      rw [if_pos c]
      have hk2 : k < rows[idx].length := by omega
      have gd : rows[idx].getD k 0 = rows[idx][k] := by
        rw [List.getD_eq_getElem?_getD, List.getElem?_eq_getElem hk2]
        rfl
      have i3 : dIx (valD rows[idx]) (.int (k : Int)) S = .ok (.int rows[idx][k]) S := ixV hk2
      have ee : ePr g S = .ok (prD ((idx : Int), rows[idx].getD k 0)) S := by
        rw [gd]
        simp (decide := true) only [ePr, mTup, mCons, mNil, mB, mVar, SM.bind, SM.pure, q5, q6, q9, i3, List.length_cons, List.length_nil, if_true, sz2]
      have e1 := lc_nx (r := r) en tp et ee fD (by rw [List.length_map, sizeLine_eq]; omega)
      have ea : acc.map prD ++ [prD ((idx : Int), rows[idx].getD k 0)] = (acc ++ [((idx : Int), rows[idx].getD k 0)]).map prD := by rw [List.map_append]; rfl
      rw [ea] at e1
      rw [e1, ih (idx + 1) (acc ++ [((idx : Int), rows[idx].getD k 0)]) _ (by omega) (by rw [List.length_append, List.length_singleton]; omega) (xt.put hD) at_put, put_put, List.append_assoc]
    · rw [if_neg c, List.nil_append]
      rw [Bool.eq_false_iff.mpr c] at et
      rw [lc_skip en tp et, ih (idx + 1) acc S (by omega) (by omega) xt fD]
end
end K18

set_option Elab.async false
set_option linter.all false
set_option maxRecDepth 100000
set_option maxHeartbeats 4000000
namespace K18
open PySem PySem.Spec PyProof.Rows L2 Y TL
section
variable {S : Sr} {i wl iw ir rl k : Nat} {W : List (List Nat × Int)} {rows : List (List Int)} {g : Gm}
theorem chg_ne : ("changes" : Str) ≠ "widths" ∧ ("changes" : Str) ≠ "rows" := by
  constructor <;> simp (decide := true) [Y.sb]
theorem l123 (a : LW S i wl iw ir rl W rows) (w : WG W) (hR : RG W rows) (hk : k < W.length) (g3 : g[3]? = some (some (.adr iw))) (g4 : g[4]? = some (some (.adr rl))) (g9 : g[9]? = some (some (.int (k : Int)))) (g10 : g[10]? = some (some (strL (W.getD k ([], 0)).1))) (hg : 9 < g.length) : ∃ S', b_law_s123 g S = .nx g S' ∧ Xt S S' := by
  have h30 := hR.1
  obtain ⟨S1, e1, x1⟩ := e_changes (wok w) w.nd (rok w hR) hk a.v
  have ce : chR k 0 none rows = chL k 0 none rows := ch_eq (bf := none)
  rw [ce] at e1
  have ha : mCons (mVar 10) mNil g S = .ok [strL (W.getD k ([], 0)).1] S := by
    simp only [mCons, mNil, mVar, SM.bind, SM.pure, g10]
  have em : mMeth "Wave" "changes" f_Wave_changes 2 [] (mVar 3) (mCons (mVar 10) mNil) g S = .ok (.gtp ((chL k 0 none rows).map prD)) S1 := (meth1 a.v (by simp only [mVar, g3]) ha chg_ne.1 chg_ne.2).trans e1
  obtain ⟨S2, eS2⟩ : ∃ S2, S2 = S1.alloc (.lst ((chL k 0 none rows).map prD)) := ⟨_, rfl⟩
  have x2 : Xt S1 S2 := by rw [eS2]; exact Xt.alloc
  have f2 : S2.f S1.n = some (.lst ((chL k 0 none rows).map prD)) := by rw [eS2]; exact at_new
  have n2 : S1.n < S2.n := by rw [eS2]; exact Nat.lt_succ_self _
  have el : mCB fList (mCons (mMeth "Wave" "changes" f_Wave_changes 2 [] (mVar 3) (mCons (mVar 10) mNil)) mNil) g S = .ok (.adr S1.n) S2 := by
    have fl : fList [.gtp ((chL k 0 none rows).map prD)] S1 = .ok (.adr S1.n) S2 := by
      rw [eS2]
      simp [fList, itemsD]
    simp only [mCB, mCons, mNil, SM.bind, SM.pure, em, fl]
  have a2 := (a.xt x1).xt x2
  have es : mEnu (mCons (mVar 4) mNil) g S2 = .ok (sqe (sqa rl rows.length)) S2 := by
    have h := a2.r
    simp (decide := true) [mEnu, mSrcD, mCons, mNil, mVar, SM.bind, SM.pure, h, g4]
  have q4 : (wipeD g [5, 6])[4]? = some (some (.adr rl)) := by
    show ((g.set 6 none).set 5 none)[4]? = _
    rw [List.getElem?_set_ne (by decide), List.getElem?_set_ne (by decide)]; exact g4
  have q9 : (wipeD g [5, 6])[9]? = some (some (.int (k : Int))) := by
    show ((g.set 6 none).set 5 none)[9]? = _
    rw [List.getElem?_set_ne (by decide), List.getElem?_set_ne (by decide)]; exact g9
  have ql : 9 < (wipeD g [5, 6]).length := by
    show 9 < ((g.set 6 none).set 5 none).length
    rw [List.length_set, List.length_set]; exact hg
  have L := pr_loop (fun r h => (hR.2 r h).1) (by omega) hk (S0 := S2) (D0 := S2.n) q4 q9 ql a2.r a2.lt.2.2 (Nat.le_refl _) rows.length 0 [] (S2.alloc (.lst [])) (Nat.zero_add _) (Nat.le_refl _) Xt.alloc at_new
  have b0 : bfO rows 0 = none := rfl
  rw [List.drop_zero, b0, List.nil_append] at L
  obtain ⟨S3, eS3⟩ : ∃ S3, S3 = (S2.alloc (.lst [])).put S2.n (.lst ((chL k ((0 : Nat) : Int) none rows).map prD)) := ⟨_, rfl⟩
  rw [← eS3] at L
  have x3 : Xt S2 S3 := by rw [eS3]; exact Xt.alloc.put (Nat.le_refl _)
  have f3 : S3.f S2.n = some (.lst ((chL k 0 none rows).map prD)) := by rw [eS3]; exact at_put
  have ec : mLc (mEnu (mCons (mVar 4) mNil)) (.tp [5, 6]) eCh ePr [5, 6] g S2 = .ok (.adr S2.n) S3 := mLc_ok es L
  have t := tb_of (bin_of (f := dNe) el ec (ne_prs (x3.at_ f2 n2) f3))
  exact ⟨S3, ifs_f t, (x1.trans x2).trans x3⟩
end
end K18

set_option Elab.async false
set_option linter.all false
set_option maxRecDepth 100000
set_option maxHeartbeats 4000000
namespace K18
open PySem PySem.Spec PyProof.Rows L2 Y TL
section
variable {S : Sr} {i wl iw ir rl k : Nat} {W : List (List Nat × Int)} {rows : List (List Int)} {g : Gm} {x0 x5 x6 x7 x8 x9 x10 x11 x12 x13 x14 x15 x16 x17 x18 x19 : Option D}
theorem st122 {n m : Int} {d : D} : mStep (gTp 2 (gCn (gNm 9) (gCn (gTp 2 (gCn (gNm 10) (gCn (gNm 11) gNl))) gNl))) b_law_L122 (.tup [.int n, .tup [d, .int m]]) (GH x0 i wl iw rl x5 x6 x7 x8 x9 x10 x11 x12 x13 x14 x15 x16 x17 x18 x19) S = b_law_L122 (GH x0 i wl iw rl x5 x6 x7 x8 (some (.int n)) (some d) (some (.int m)) x12 x13 x14 x15 x16 x17 x18 x19) S := by
  simp (decide := true) [mStep, mSeq, mPass, mBrk, mCnt, mDrop, mRet, mRetN, mIfS, mRaise, mSet, mAsg, mPar, mPar3, mAug, mFld, mFldAug, gNm, gSub', gFld, gNl, gCn, gTp, setA, putFD, mVar, mC, mB, mU, mTB, mAnd, mOr, mNot, mIf, mAndV, mOrV, mNotV, mChain, mNil, mCons, mTup, mLst, mSl, oNo, oE, mCB, fAbs, fMax2, fMin2, fInt, lenD, fLen, fTuple, fList, itemsD, fIsi, tyD, mAttr, mCall, mMeth, mMake, mBM, tyF, SM.bind, SM.pure, toRS, toRSA, toRST, Y.sb, List.lookup, put_f, put_n, alloc_f, alloc_n, put_put, alloc_put, okI, okB, orF, dSub, dFdiv, dMod, dPow, dShl, dShr, dAnd, dOr, dXor, dNeg, dLt, dLe, dGt, dGe, dIs]
theorem chW_loop (w : WG W) (hR : RG W rows) : ∀ (r idx : Nat) (S : Sr) (x9 x10 x11 : Option D), idx + r = W.length → LW S i wl iw ir rl W rows → ∃ (S' : Sr) (y9 y10 y11 : Option D), forG (sqe (sqa wl W.length)) (mStep (gTp 2 (gCn (gNm 9) (gCn (gTp 2 (gCn (gNm 10) (gCn (gNm 11) gNl))) gNl))) b_law_L122) r idx (GH x0 i wl iw rl x5 x6 x7 x8 x9 x10 x11 x12 x13 x14 x15 x16 x17 x18 x19) S = .nx (GH x0 i wl iw rl x5 x6 x7 x8 y9 y10 y11 x12 x13 x14 x15 x16 x17 x18 x19) S' ∧ Xt S S' := by
  intro r
  induction r with
  | zero =>
    intro idx S x9 x10 x11 h a
    refine ⟨S, x9, x10, x11, fo_end ?_, Xt.refl _⟩
    show (match (sqa wl W.length).nxt idx S with
      | some (some d) => some (some (D.tup [.int (idx : Int), d]))
      | some none => some none
      | none => none) = _
    rw [nx_sqa a.w, List.getElem?_eq_none (by rw [List.length_map]; omega)]
  | succ r ih =>
    intro idx S x9 x10 x11 h a
    have hx : idx < W.length := by omega
    have en : (sqe (sqa wl W.length)).nxt idx S = some (some (.tup [.int (idx : Int), .tup [strL W[idx].1, .int W[idx].2]])) := by
      show (match (sqa wl W.length).nxt idx S with
        | some (some d) => some (some (D.tup [.int (idx : Int), d]))
        | some none => some none
        | none => none) = _
      rw [nx_sqa a.w, List.getElem?_map, List.getElem?_eq_getElem hx]
      rfl
    have gw : (W.getD idx ([], 0)).1 = W[idx].1 := by
      rw [List.getD_eq_getElem?_getD, List.getElem?_eq_getElem hx]
      rfl
    obtain ⟨S1, e1, x1⟩ := l123 (g := GH x0 i wl iw rl x5 x6 x7 x8 (some (.int (idx : Int))) (some (strL W[idx].1)) (some (.int W[idx].2)) x12 x13 x14 x15 x16 x17 x18 x19) a w hR hx rfl rfl rfl (by rw [gw]; rfl) (show 9 < (20 : Nat) by decide)
    obtain ⟨S2, y9, y10, y11, e2, x2⟩ := ih (idx + 1) S1 (some (.int (idx : Int))) (some (strL W[idx].1)) (some (.int W[idx].2)) (by omega) (a.xt x1)
    exact ⟨S2, y9, y10, y11, (fo_nx en (st122.trans e1)).trans e2, x1.trans x2⟩
theorem l122 (a : LW S i wl iw ir rl W rows) (w : WG W) (hR : RG W rows) : ∃ (S' : Sr) (y9 y10 y11 : Option D), b_law_s122 (GH x0 i wl iw rl x5 x6 x7 x8 x9 x10 x11 x12 x13 x14 x15 x16 x17 x18 x19) S = .nx (GH x0 i wl iw rl x5 x6 x7 x8 y9 y10 y11 x12 x13 x14 x15 x16 x17 x18 x19) S' ∧ Xt S S' := by
  obtain ⟨S', y9, y10, y11, e, xt⟩ := chW_loop (x0 := x0) (x5 := x5) (x6 := x6) (x7 := x7) (x8 := x8) (x12 := x12) (x13 := x13) (x14 := x14) (x15 := x15) (x16 := x16) (x17 := x17) (x18 := x18) (x19 := x19) w hR W.length 0 S x9 x10 x11 (Nat.zero_add _) a
  have es : mEnu (mCons (mVar 2) mNil) (GH x0 i wl iw rl x5 x6 x7 x8 x9 x10 x11 x12 x13 x14 x15 x16 x17 x18 x19) S = .ok (sqe (sqa wl W.length)) S := by
    have h := a.w
    simp (decide := true) [mEnu, mSrcD, mCons, mNil, mVar, SM.bind, SM.pure, h]
  exact ⟨S', y9, y10, y11, (mFor_of es).trans e, xt⟩
end
end K18

set_option Elab.async false
set_option linter.all false
set_option maxRecDepth 100000
set_option maxHeartbeats 4000000
namespace K18
open PySem PySem.Spec PyProof.Rows L2 Y TL
section
variable {S : Sr} {i wl iw ir rl k : Nat} {W : List (List Nat × Int)} {rows : List (List Int)} {g : Gm} {x0 x5 x6 x7 x8 x9 x10 x11 x12 x13 x14 x15 x16 x17 x18 x19 : Option D}
theorem l125 (a : LW S i wl iw ir rl W rows) : ∃ (S' : Sr) (ow : Nat), b_law_s125 (GH x0 i wl iw rl x5 x6 x7 x8 x9 x10 x11 x12 x13 x14 x15 x16 x17 x18 x19) S = .nx (GH x0 i wl iw rl x5 x6 x7 x8 x9 x10 x11 (some (.adr ow)) x13 x14 x15 x16 x17 x18 x19) S' ∧ WaveAt S' ow (ow + 1) W [] ∧ S.n ≤ ow ∧ Xt S S' := by
  obtain ⟨S1, e, v, xt⟩ := e_init (S := S) (iL := wl) a.w a.lt.2.1
  refine ⟨S1, S.n, set_of (d := .adr S.n) ?_, v, Nat.le_refl _, xt⟩
  have h2 : mVar 2 (GH x0 i wl iw rl x5 x6 x7 x8 x9 x10 x11 x12 x13 x14 x15 x16 x17 x18 x19) S = .ok (.adr wl) S := rfl
  simp (decide := true) only [mMake, mCons, mNil, SM.bind, SM.pure, h2, List.length_cons, List.length_nil, if_true, List.append_nil, e]
theorem len_wl (a : LW S i wl iw ir rl W rows) (g2 : g[2]? = some (some (.adr wl))) : mCB fLen (mCons (mVar 2) mNil) g S = .ok (.int (W.length : Nat)) S := by
  have h := a.w
  have fl : fLen [.adr wl] S = .ok (.int (W.length : Nat)) S := by
    simp [fLen, lenD, h]
  simp only [mCB, mCons, mNil, mVar, SM.bind, SM.pure, g2, fl]
theorem len_rl (a : LW S i wl iw ir rl W rows) (g4 : g[4]? = some (some (.adr rl))) : mCB fLen (mCons (mVar 4) mNil) g S = .ok (.int (rows.length : Nat)) S := by
  have h := a.r
  have fl : fLen [.adr rl] S = .ok (.int (rows.length : Nat)) S := by
    simp [fLen, lenD, h]
  simp only [mCB, mCons, mNil, mVar, SM.bind, SM.pure, g4, fl]
end
end K18

set_option Elab.async false
set_option linter.all false
set_option maxRecDepth 100000
set_option maxHeartbeats 4000000
namespace K18
open PySem PySem.Spec PyProof.Rows L2 Y TL
section
variable {S : Sr} {i wl iw ir rl k : Nat} {W : List (List Nat × Int)} {rows : List (List Int)} {g : Gm} {x0 x5 x6 x7 x8 x9 x10 x11 x12 x13 x14 x15 x16 x17 x18 x19 : Option D}
theorem l135 (a : LW S i wl iw ir rl W rows) (w : WG W) : ∃ (S' : Sr) (k : Nat), k < W.length ∧ b_law_s135 (GH x0 i wl iw rl x5 x6 x7 x8 x9 x10 x11 x12 x13 x14 x15 x16 x17 x18 x19) S = .nx (GH x0 i wl iw rl x5 x6 x7 x8 x9 (some (strL (W.getD k ([], 0)).1)) (some (.int (W.getD k ([], 0)).2)) x12 x13 x14 x15 x16 x17 x18 x19) S' ∧ LW S' i wl iw ir rl W rows ∧ Fr [i] S S' := by
  obtain ⟨g, eg⟩ : ∃ g : Gm, g = GH x0 i wl iw rl x5 x6 x7 x8 x9 x10 x11 x12 x13 x14 x15 x16 x17 x18 x19 := ⟨_, rfl⟩
  have g1 : g[1]? = some (some (.adr i)) := by rw [eg]; rfl
  have g2 : g[2]? = some (some (.adr wl)) := by rw [eg]; rfl
  have l0 : 0 < W.length := List.length_pos_iff.mpr w.ne
  have wz := w.len
  obtain ⟨v, x, v0, v1, er, d2⟩ := roll_e (S := S) (g := g) (e := mCB fLen (mCons (mVar 2) mNil)) (m := ((W.length : Nat) : Int)) g1 a.d (len_wl a g2) (by omega) (by omega)
  have fr : Fr [i] S (S.put i x) := Fr.put (List.mem_singleton.mpr rfl)
  have a2 := a.fri fr d2
  obtain ⟨k, rfl⟩ : ∃ k : Nat, v = (k : Int) := ⟨v.toNat, by omega⟩
  have hk : k < W.length := by omega
  have gd : W.getD k ([], 0) = W[k] := by
    rw [List.getD_eq_getElem?_getD, List.getElem?_eq_getElem hk]
    rfl
  have ix : dIx (.adr wl) (.int (k : Int)) (S.put i x) = .ok (widD W[k]) (S.put i x) := ixL a2.w (by omega) (by
    rw [Int.toNat_natCast, List.getElem?_map, List.getElem?_eq_getElem hk]
    rfl)
  have ee : mB dIx (mVar 2) (eRoll (mCB fLen (mCons (mVar 2) mNil))) g S = .ok (widD W[k]) (S.put i x) := bin_of (by simp only [mVar, g2]) er ix
  refine ⟨S.put i x, k, hk, ?_, a2, fr⟩
  rw [gd]
  rw [eg] at ee
  unfold b_law_s135 mAsg
  rw [ee]
  rfl
end
end K18

set_option Elab.async false
set_option linter.all false
set_option maxRecDepth 100000
set_option maxHeartbeats 4000000
namespace K18
open PySem PySem.Spec PyProof.Rows L2 Y TL
section
variable {S : Sr} {i wl iw ir rl k : Nat} {W : List (List Nat × Int)} {rows : List (List Int)} {g : Gm} {x0 x5 x6 x7 x8 x9 x10 x11 x12 x13 x14 x15 x16 x17 x18 x19 : Option D}
abbrev eZ : ME := mTup (mCons (mVar 10) (mCons (mC (.int 0)) mNil))
theorem z_loop (wz : W.length ≤ 4) {S0 : Sr} {D0 : Nat} {g0 : Gm} (h9 : 11 < g0.length) (hw : S0.f wl = some (.lst (W.map widD))) (hl : wl < S0.n) (hD : S0.n ≤ D0) : ∀ (r idx : Nat) (acc : List (List Nat × Int)) (S : Sr), idx + r = W.length → acc.length ≤ idx → Xt S0 S → S.f D0 = some (.lst (acc.map widD)) →
    lcG (sqa wl W.length) (.tp [10, 11]) mYes eZ g0 D0 r idx S = .ok () (S.put D0 (.lst ((acc ++ (W.drop idx).map fun q => (q.1, (0 : Int))).map widD))) := by
  intro r
  induction r with
  | zero =>
    intro idx acc S h hA xt fD
    rw [List.drop_eq_nil_of_le (by omega)]
    show lcG _ _ _ _ _ _ _ _ _ = .ok () (S.put D0 (.lst ((acc ++ []).map widD)))
    rw [List.append_nil, put_same fD]
    refine lc_end ?_
    rw [nx_sqa (xt.at_ hw hl), List.getElem?_eq_none (by rw [List.length_map]; omega)]
  | succ r ih =>
    intro idx acc S h hA xt fD
    have hx : idx < W.length := by omega
    have sz2 : 2 ≤ sizeLine := by rw [sizeLine_eq]; omega
    obtain ⟨g, eg⟩ : ∃ g : Gm, g = (g0.set 10 (some (strL W[idx].1))).set 11 (some (.int W[idx].2)) := ⟨_, rfl⟩
    have en : (sqa wl W.length).nxt idx S = some (some (widD W[idx])) := by
      rw [nx_sqa (xt.at_ hw hl), List.getElem?_map, List.getElem?_eq_getElem hx]
      rfl
    have tp : (Tg.tp [10, 11]).put (widD W[idx]) g0 = some g := by
      have : 10 < g0.length := by omega
      rw [eg]
      simp (decide := true) [Tg.put, h9, this, putAll]
      rfl
    have q10 : g[10]? = some (some (strL W[idx].1)) := by
      rw [eg, List.getElem?_set_ne (by decide), List.getElem?_set_self (by omega)]
    have ee : eZ g S = .ok (widD (W[idx].1, 0)) S := by
      simp (decide := true) only [eZ, mTup, mCons, mNil, mVar, mC, SM.bind, SM.pure, q10, List.length_cons, List.length_nil, if_true, sz2]
    have e1 := lc_nx (r := r) (mt := mYes) en tp rfl ee fD (by rw [List.length_map, sizeLine_eq]; omega)
    have ea : acc.map widD ++ [widD (W[idx].1, 0)] = (acc ++ [(W[idx].1, (0 : Int))]).map widD := by rw [List.map_append]; rfl
    rw [ea] at e1
    rw [e1, ih (idx + 1) (acc ++ [(W[idx].1, (0 : Int))]) _ (by omega) (by rw [List.length_append, List.length_singleton]; omega) (xt.put hD) at_put, put_put, List.append_assoc, List.drop_eq_getElem_cons hx]
    rfl
end
end K18

set_option Elab.async false
set_option linter.all false
set_option maxRecDepth 100000
set_option maxHeartbeats 4000000
namespace K18
open PySem PySem.Spec PyProof.Rows L2 Y TL
section
variable {S : Sr} {i wl iw ir rl k : Nat} {W : List (List Nat × Int)} {rows : List (List Int)} {g : Gm} {x0 x5 x6 x7 x8 x9 x10 x11 x12 x13 x14 x15 x16 x17 x18 x19 : Option D}
def zeroT (W : List (List Nat × Int)) : List (List Nat × Int) := W.map fun q => (q.1, (0 : Int))
theorem l134 (a : LW S i wl iw ir rl W rows) (w : WG W) : ∃ (S' : Sr) (it : Nat), b_law_s134 (GH x0 i wl iw rl x5 x6 x7 x8 x9 x10 x11 x12 x13 x14 x15 x16 x17 x18 x19) S = .nx (GH x0 i wl iw rl x5 x6 x7 x8 x9 x10 x11 x12 x13 x14 (some (.adr it)) x16 x17 x18 x19) S' ∧ S'.f it = some (.dic (plD (zeroT W))) ∧ it < S'.n ∧ Xt S S' := by
  obtain ⟨g, eg⟩ : ∃ g : Gm, g = GH x0 i wl iw rl x5 x6 x7 x8 x9 x10 x11 x12 x13 x14 x15 x16 x17 x18 x19 := ⟨_, rfl⟩
  have g2 : g[2]? = some (some (.adr wl)) := by rw [eg]; rfl
  have L := z_loop w.len (S0 := S) (D0 := S.n) (g0 := wipeD g [10, 11]) (by rw [eg]; exact (show 11 < (20 : Nat) by decide)) a.w a.lt.2.1 (Nat.le_refl _) W.length 0 [] (S.alloc (.lst [])) (Nat.zero_add _) (Nat.le_refl _) Xt.alloc at_new
  rw [List.drop_zero, List.nil_append] at L
  obtain ⟨S1, eS⟩ : ∃ S1, S1 = (S.alloc (.lst [])).put S.n (.lst ((zeroT W).map widD)) := ⟨_, rfl⟩
  have L : lcG _ _ _ _ _ _ _ _ _ = R.ok () ((S.alloc (.lst [])).put S.n (.lst ((zeroT W).map widD))) := L
  rw [← eS] at L
  have f1 : S1.f S.n = some (.lst ((zeroT W).map widD)) := by rw [eS]; exact at_put
  have x1 : Xt S S1 := by rw [eS]; exact Xt.alloc.put (Nat.le_refl _)
  have em : mLc (mSrc (mVar 2)) (.tp [10, 11]) mYes eZ [10, 11] g S = .ok (.adr S.n) S1 := mLc_ok (wl_src a.w g2) L
  have nd : ((zeroT W).map (·.1)).Nodup := by
    have : (zeroT W).map (·.1) = W.map (·.1) := by
      unfold zeroT
      rw [List.map_map]
      rfl
    rw [this]
    exact w.nd
  have ed := dict_W f1 nd
  have ee : mCB fDictB (mCons (mLc (mSrc (mVar 2)) (.tp [10, 11]) mYes eZ [10, 11]) mNil) g S = .ok (.adr S1.n) (S1.alloc (.dic (plD (zeroT W)))) := by
    simp only [mCB, mCons, mNil, SM.bind, SM.pure, em, ed]
  rw [eg] at ee
  exact ⟨_, S1.n, set_of ee, at_new, Nat.lt_succ_self _, x1.alloc'⟩
end
end K18

set_option Elab.async false
set_option linter.all false
set_option maxRecDepth 100000
set_option maxHeartbeats 4000000
namespace K18
open PySem PySem.Spec PyProof.Rows L2 Y TL
section
variable {S : Sr} {i wl iw ir rl k : Nat} {W : List (List Nat × Int)} {rows : List (List Int)} {g : Gm} {x0 x5 x6 x7 x8 x9 x10 x11 x12 x13 x14 x15 x16 x17 x18 x19 : Option D}
theorem var_of {j : Nat} {g : Gm} {S : Sr} {d : D} (h : g[j]? = some (some d)) : mVar j g S = .ok d S := by
  unfold mVar
  rw [h]
theorem ne_nilV {S : Sr} {i j : Nat} {l : List (List Int)} (h : S.f i = some (.lst (l.map valD))) (h2 : S.f j = some (.lst [])) : dNe (.adr i) (.adr j) S = .ok (.bl (!l.isEmpty)) S := by
  rw [ev_neP (py_vals h) (py_vals (l := []) h2) shaped_vals (shaped_vals (l := []))]
  have := eqv_nil (ps := l.map pyV)
  rw [show ([] : List (List Int)).map pyV = [] from rfl, this]
  cases l <;> rfl
theorem t_rows (a : LW S i wl iw ir rl W rows) (g4 : g[4]? = some (some (.adr rl))) : mTB (mB dNe (mVar 4) (mLst mNil)) g S = .ok (!rows.isEmpty) (S.alloc (.lst [])) := by
  have el : mLst mNil g S = .ok (.adr S.n) (S.alloc (.lst [])) := by
    have z0 : 0 ≤ sizeLine := Nat.zero_le _
    simp only [mLst, mNil, SM.bind, SM.pure, List.length_nil, z0, if_true]
  exact tb_of (bin_of (var_of g4) el (ne_nilV (at_old a.r a.lt.2.2) at_new))
abbrev eSP : ME := mIf (mTB (mB dNe (mVar 4) (mLst mNil))) (mTup (mCons (eRoll (mCB fLen (mCons (mVar 4) mNil))) (mCons (eRoll (mCB fLen (mCons (mVar 2) mNil))) mNil))) (mTup (mCons (mC (.int 0)) (mCons (mC (.int 0)) mNil)))
theorem sp_val (a : LW S i wl iw ir rl W rows) (w : WG W) (hz : rows.length ≤ 1000) (g1 : g[1]? = some (some (.adr i))) (g2 : g[2]? = some (some (.adr wl))) (g4 : g[4]? = some (some (.adr rl))) : ∃ (S' : Sr) (s k : Nat), eSP g S = .ok (.tup [.int (s : Int), .int (k : Int)]) S' ∧ LW S' i wl iw ir rl W rows ∧ Fr [i] S S' ∧ k < W.length ∧ (rows ≠ [] → s < rows.length) := by
  have t := t_rows a g4
  have a1 := a.xt (S' := S.alloc (.lst [])) Xt.alloc
  have sz2 : 2 ≤ sizeLine := by rw [sizeLine_eq]; omega
  have l0 : 0 < W.length := List.length_pos_iff.mpr w.ne
  have wz := w.len
  obtain ⟨S1, eS⟩ : ∃ S1, S1 = S.alloc (.lst []) := ⟨_, rfl⟩
  rw [← eS] at t a1
  have f1 : Fr [i] S S1 := by rw [eS]; exact Fr.alloc
  cases hr : rows with
  | nil =>
    rw [hr] at t
    have t : mTB (mB dNe (mVar 4) (mLst mNil)) g S = .ok false S1 := t
    refine ⟨S1, 0, 0, ?_, hr ▸ a1, f1, l0, fun h => absurd rfl h⟩
    refine (mif_f t).trans ?_
    simp (decide := true) only [mTup, mCons, mNil, mC, SM.bind, SM.pure, List.length_cons, List.length_nil, if_true, sz2]
    rfl
  | cons r0 rs =>
    have hp : 0 < rows.length := by rw [hr]; exact Nat.succ_pos _
    rw [hr] at t
    have t : mTB (mB dNe (mVar 4) (mLst mNil)) g S = .ok true S1 := t
    obtain ⟨v, x, v0, v1, er, d2⟩ := roll_e (S := S1) (g := g) (e := mCB fLen (mCons (mVar 4) mNil)) (m := ((rows.length : Nat) : Int)) g1 a1.d (len_rl a1 g4) (by omega) (by omega)
    obtain ⟨S2, eS2⟩ : ∃ S2, S2 = S1.put i x := ⟨_, rfl⟩
    have f2 : Fr [i] S1 S2 := by rw [eS2]; exact Fr.put (List.mem_singleton.mpr rfl)
    rw [← eS2] at er d2
    have a2 := a1.fri f2 d2
    obtain ⟨u, y, u0, u1, er2, d3⟩ := roll_e (S := S2) (g := g) (e := mCB fLen (mCons (mVar 2) mNil)) (m := ((W.length : Nat) : Int)) g1 a2.d (len_wl a2 g2) (by omega) (by omega)
    obtain ⟨S3, eS3⟩ : ∃ S3, S3 = S2.put i y := ⟨_, rfl⟩
    have f3 : Fr [i] S2 S3 := by rw [eS3]; exact Fr.put (List.mem_singleton.mpr rfl)
    rw [← eS3] at er2 d3
    have a3 := a2.fri f3 d3
    obtain ⟨s, rfl⟩ : ∃ k : Nat, v = (k : Int) := ⟨v.toNat, by omega⟩
    obtain ⟨k, rfl⟩ : ∃ k : Nat, u = (k : Int) := ⟨u.toNat, by omega⟩
    refine ⟨S3, s, k, ?_, hr ▸ a3, (f1.trans f2).trans f3, by omega, fun _ => by rw [← hr]; omega⟩
    refine (mif_t t).trans ?_
    show SM.bind (mCons _ (mCons _ mNil) g) _ S1 = _
    simp (decide := true) only [mCons, mNil, SM.bind, SM.pure, er, er2, List.length_cons, List.length_nil, if_true, sz2]
theorem l126 (a : LW S i wl iw ir rl W rows) (w : WG W) (hz : rows.length ≤ 1000) : ∃ (S' : Sr) (s k : Nat), b_law_s126 (GH x0 i wl iw rl x5 x6 x7 x8 x9 x10 x11 x12 x13 x14 x15 x16 x17 x18 x19) S = .nx (GH x0 i wl iw rl x5 x6 x7 x8 x9 x10 x11 x12 (some (.int (s : Int))) (some (.int (k : Int))) x15 x16 x17 x18 x19) S' ∧ LW S' i wl iw ir rl W rows ∧ Fr [i] S S' ∧ k < W.length ∧ (rows ≠ [] → s < rows.length) := by
  obtain ⟨S', s, k, e, h⟩ := sp_val (g := GH x0 i wl iw rl x5 x6 x7 x8 x9 x10 x11 x12 x13 x14 x15 x16 x17 x18 x19) a w hz rfl rfl rfl
  refine ⟨S', s, k, ?_, h⟩
  have e : mIf _ _ _ _ S = _ := e
  unfold b_law_s126 mAsg
  rw [e]
  rfl
end
end K18

set_option Elab.async false
set_option linter.all false
set_option maxRecDepth 100000
set_option maxHeartbeats 4000000
namespace K18
open PySem PySem.Spec PyProof.Rows L2 Y TL
section
variable {S : Sr} {i wl iw ir rl k : Nat} {W : List (List Nat × Int)} {rows : List (List Int)} {row : List Int} {g : Gm} {x0 x5 x6 x7 x8 x9 x10 x11 x12 x13 x14 x15 x16 x17 x18 x19 : Option D}
/-- the number at k turned over -/
def ovr (W : List (List Nat × Int)) (k : Nat) (r : List Int) : Int := 2 ^ ((W.getD k ([], 0)).2).toNat - 1 - r.getD k 0
def flipR (W : List (List Nat × Int)) (s k b : Nat) (r : List Int) : List Int := if b = s then r.set k (ovr W k r) else r
theorem getD_set {l : List Int} {k j : Nat} {v : Int} (hk : k < l.length) : (l.set k v).getD j 0 = if k = j then v else l.getD j 0 := by
  rw [List.getD_eq_getElem?_getD, List.getD_eq_getElem?_getD, List.getElem?_set]
  by_cases h : k = j
  · subst h
    rw [if_pos rfl, if_pos hk, if_pos rfl]
    rfl
  · rw [if_neg h, if_neg h]
theorem flip_ok {s b : Nat} (hr : RG1 W row) (hk : k < W.length) : RG1 W (flipR W s k b row) := by
  unfold flipR
  by_cases h : b = s
  · rw [if_pos h]
    refine ⟨by rw [List.length_set]; exact hr.1, fun j hj => ?_⟩
    rw [getD_set (by rw [hr.1]; exact hk)]
    by_cases h2 : k = j
    · subst h2
      rw [if_pos rfl]
      have := hr.2 k hk
      unfold ovr
      omega
    · rw [if_neg h2]
      exact hr.2 j hj
  · rw [if_neg h]; exact hr
theorem add_flip {s b : Nat} (w : WG W) (hr : RG1 W row) (hk : k < W.length) : addR W (putP (pairT W row) (W.getD k ([], 0)).1 ((flipR W s k b row).getD k 0)) = some (flipR W s k b row) := by
  have fo := flip_ok (s := s) (b := b) hr hk
  refine addR_of fo.1 fun j hj => ⟨?_, fo.2 j hj⟩
  rw [lookT_put]
  by_cases h : (W.getD k ([], 0)).1 = (W.getD j ([], 0)).1
  · have := nm_inj w.nd hk hj h
    subst this
    rw [if_pos rfl]
  · rw [if_neg h, look_pair w.nd hj]
    have hne : k ≠ j := fun e => h (by rw [e])
    congr 1
    unfold flipR
    by_cases h2 : b = s
    · rw [if_pos h2, getD_set (by rw [hr.1]; exact hk), if_neg hne]
    · rw [if_neg h2]
theorem l128 (h2 : g[2]? = some (some (.adr wl))) (h6 : g[6]? = some (some (valD row))) (h9 : 9 < g.length) (hw : S.f wl = some (.lst (W.map widD))) (hl : wl < S.n) (hr : row.length = W.length) (w : WG W) : ∃ S', b_law_s128 g S = .nx (g.set 15 (some (.adr (S.n + 1)))) S' ∧ S'.f (S.n + 1) = some (.dic (plD (pairT W row))) ∧ Xt S S' ∧ S'.n = S.n + 2 := by
  obtain ⟨S', e, h⟩ := eDict_ok h2 h6 h9 hw hl hr w
  exact ⟨S', set_of e, h⟩
theorem l129 (hw : S.f wl = some (.lst (W.map widD))) (hk : k < W.length) (h2 : g[2]? = some (some (.adr wl))) (h14 : g[14]? = some (some (.int (k : Int)))) : b_law_s129 g S = .nx (g.set 10 (some (strL (W.getD k ([], 0)).1))) S := by
  have gd : W.getD k ([], 0) = W[k] := by
    rw [List.getD_eq_getElem?_getD, List.getElem?_eq_getElem hk]
    rfl
  rw [gd]
  have i1 : dIx (.adr wl) (.int (k : Int)) S = .ok (widD W[k]) S := ixL hw (by omega) (by
    rw [Int.toNat_natCast, List.getElem?_map, List.getElem?_eq_getElem hk]
    rfl)
  exact set_of (bin_of (bin_of (var_of h2) (var_of h14) i1) rfl ixT0)
abbrev eTN : ME := mB dIx (mVar 15) (mVar 10)
abbrev eOv : ME := mB dSub (mB dSub (mB dShl (mC (.int 1)) (mB dIx (mB dIx (mVar 2) (mVar 14)) (mC (.int 1)))) (mC (.int 1))) (mB dIx (mVar 15) (mVar 10))
theorem sub_i {a b : Int} {S : Sr} : dSub (.int a) (.int b) S = .ok (.int (a - b)) S := by simp [dSub, okI]
theorem ov_val {it : Nat} (w : WG W) (hr : RG1 W row) (hk : k < W.length) (hw : S.f wl = some (.lst (W.map widD))) (ht : S.f it = some (.dic (plD (pairT W row)))) (h2 : g[2]? = some (some (.adr wl))) (h10 : g[10]? = some (some (strL (W.getD k ([], 0)).1))) (h14 : g[14]? = some (some (.int (k : Int)))) (h15 : g[15]? = some (some (.adr it))) : eTN g S = .ok (.int (row.getD k 0)) S ∧ eOv g S = .ok (.int (ovr W k row)) S := by
  have gd : W.getD k ([], 0) = W[k] := by
    rw [List.getD_eq_getElem?_getD, List.getElem?_eq_getElem hk]
    rfl
  have i1 : dIx (.adr wl) (.int (k : Int)) S = .ok (widD W[k]) S := ixL hw (by omega) (by
    rw [Int.toNat_natCast, List.getElem?_map, List.getElem?_eq_getElem hk]
    rfl)
  have t1 : eTN g S = .ok (.int (row.getD k 0)) S := bin_of (var_of h15) (var_of h10) (ix_pl ht (look_pair w.nd hk))
  refine ⟨t1, ?_⟩
  have wd := w.wd _ (getD_mem hk)
  obtain ⟨m, hm⟩ : ∃ m : Nat, (W.getD k ([], 0)).2 = (m : Int) := ⟨(W.getD k ([], 0)).2.toNat, by omega⟩
  have sh := shl_n (k := m) (by omega) (S := S)
  have e2 : mB dIx (mB dIx (mVar 2) (mVar 14)) (mC (.int 1)) g S = .ok (.int (m : Int)) S := by
    rw [← hm, gd]
    exact bin_of (bin_of (var_of h2) (var_of h14) i1) rfl ixT1
  have e3 : mB dShl (mC (.int 1)) (mB dIx (mB dIx (mVar 2) (mVar 14)) (mC (.int 1))) g S = .ok (.int ((2 ^ m : Nat) : Int)) S := bin_of rfl e2 sh
  have e4 := bin_of (bin_of e3 (b := mC (.int 1)) rfl sub_i) t1 sub_i
  have eo : ovr W k row = ((2 ^ m : Nat) : Int) - 1 - row.getD k 0 := by
    unfold ovr
    rw [hm, Int.toNat_natCast]
    push_cast
    rfl
  rw [eo]
  exact e4
theorem l130 {it s b : Nat} (w : WG W) (hr : RG1 W row) (hk : k < W.length) (hw : S.f wl = some (.lst (W.map widD))) (ht : S.f it = some (.dic (plD (pairT W row)))) (h2 : g[2]? = some (some (.adr wl))) (h5 : g[5]? = some (some (.int (b : Int)))) (h13 : g[13]? = some (some (.int (s : Int)))) (h10 : g[10]? = some (some (strL (W.getD k ([], 0)).1))) (h14 : g[14]? = some (some (.int (k : Int)))) (h15 : g[15]? = some (some (.adr it))) : b_law_s130 g S = .nx g (S.put it (.dic (plD (putP (pairT W row) (W.getD k ([], 0)).1 ((flipR W s k b row).getD k 0))))) := by
  obtain ⟨t1, t2⟩ := ov_val w hr hk hw ht h2 h10 h14 h15
  have tt : mTB (mB dEq (mVar 5) (mVar 13)) g S = .ok (decide (b = s)) S := by
    refine tb_of (bin_of (var_of h5) (var_of h13) ?_)
    rw [ev_eqI]
    congr 2
    exact decide_eq_decide.mpr (by omega)
  have ev : mIf (mTB (mB dEq (mVar 5) (mVar 13))) eOv eTN g S = .ok (.int ((flipR W s k b row).getD k 0)) S := by
    unfold flipR
    by_cases h : b = s
    · rw [decide_eq_true h] at tt
      rw [if_pos h, getD_set (by rw [hr.1]; exact hk), if_pos rfl]
      exact (mif_t tt).trans t2
    · rw [decide_eq_false h] at tt
      rw [if_neg h]
      exact (mif_f tt).trans t1
  have ev : mIf (mTB (mB dEq (mVar 5) (mVar 13))) (mB dSub (mB dSub (mB dShl (mC (.int 1)) (mB dIx (mB dIx (mVar 2) (mVar 14)) (mC (.int 1)))) (mC (.int 1))) (mB dIx (mVar 15) (mVar 10))) (mB dIx (mVar 15) (mVar 10)) g S = .ok (.int ((flipR W s k b row).getD k 0)) S := ev
  have wz := w.len
  have sz : (plD (pairT W row)).length < sizeLine := by
    have : (plD (pairT W row)).length = W.length := by simp [plD, pairT]
    rw [this, sizeLine_eq]; omega
  have pp := put_pl (pl := pairT W row) (a := (W.getD k ([], 0)).1) (v := (flipR W s k b row).getD k 0)
  unfold b_law_s130 mAsg
  rw [ev]
  simp (decide := true) [-List.getD_eq_getElem?_getD, gSub', mVar, SM.bind, SM.pure, h15, h10, toRS, Y.putAt, putSeq, putDic, ht, sz, keyD, pp]
theorem l131 {it ow : Nat} {rows2 : List (List Int)} {pl : List (List Nat × Int)} (v : WaveAt S ow (ow + 1) W rows2) (ht : S.f it = some (.dic (plD pl))) (hi : it < S.n) (w : WG W) (hz : rows2.length ≤ 1000) (ha : addR W pl = some row) (g12 : g[12]? = some (some (.adr ow))) (h15 : g[15]? = some (some (.adr it))) : ∃ S', b_law_s131 g S = .nx g S' ∧ Fr [ow + 1] S S' ∧ WaveAt S' ow (ow + 1) W (rows2 ++ [row]) := by
  have A := e_add v ht hi (wadd w) (by have := w.len; omega) (by omega)
  rw [ha] at A
  obtain ⟨S4, e4, v4, f4⟩ := A
  refine ⟨S4, ?_, f4, v4⟩
  have hA : mCons (mVar 15) mNil g S = .ok [.adr it] S := by
    simp only [mCons, mNil, mVar, SM.bind, SM.pure, h15]
  have ho : mVar 12 g S = .ok (.adr ow) S := by
    simp only [mVar, g12]
  exact drop_of (d := .non) ((meth1 v ho hA add_ne.1 add_ne.2).trans e4)
end
end K18

set_option Elab.async false
set_option linter.all false
set_option maxRecDepth 100000
set_option maxHeartbeats 4000000
namespace K18
open PySem PySem.Spec PyProof.Rows L2 Y TL
section
variable {S : Sr} {i wl iw ir rl k ow s : Nat} {W : List (List Nat × Int)} {rows : List (List Int)} {row : List Int} {g : Gm} {x0 x5 x6 x7 x8 x9 x10 x11 x12 x13 x14 x15 x16 x17 x18 x19 : Option D}
abbrev GK (x0 : Option D) (i wl iw rl : Nat) (x5 x6 x7 x8 x9 x10 x11 : Option D) (ow s k : Nat) (x15 x16 x17 x18 x19 : Option D) : Gm := [x0, some (.adr i), some (.adr wl), some (.adr iw), some (.adr rl), x5, x6, x7, x8, x9, x10, x11, some (.adr ow), some (.int (s : Int)), some (.int (k : Int)), x15, x16, x17, x18, x19]
theorem st127 {n : Int} {d : D} : mStep (gTp 2 (gCn (gNm 5) (gCn (gNm 6) gNl))) b_law_L127 (.tup [.int n, d]) (GK x0 i wl iw rl x5 x6 x7 x8 x9 x10 x11 ow s k x15 x16 x17 x18 x19) S = b_law_L127 (GK x0 i wl iw rl (some (.int n)) (some d) x7 x8 x9 x10 x11 ow s k x15 x16 x17 x18 x19) S := by
  simp (decide := true) [mStep, mSeq, mPass, mBrk, mCnt, mDrop, mRet, mRetN, mIfS, mRaise, mSet, mAsg, mPar, mPar3, mAug, mFld, mFldAug, gNm, gSub', gFld, gNl, gCn, gTp, setA, putFD, mVar, mC, mB, mU, mTB, mAnd, mOr, mNot, mIf, mAndV, mOrV, mNotV, mChain, mNil, mCons, mTup, mLst, mSl, oNo, oE, mCB, fAbs, fMax2, fMin2, fInt, lenD, fLen, fTuple, fList, itemsD, fIsi, tyD, mAttr, mCall, mMeth, mMake, mBM, tyF, SM.bind, SM.pure, toRS, toRSA, toRST, Y.sb, List.lookup, put_f, put_n, alloc_f, alloc_n, put_put, alloc_put, okI, okB, orF, dSub, dFdiv, dMod, dPow, dShl, dShr, dAnd, dOr, dXor, dNeg, dLt, dLe, dGt, dGe, dIs]
theorem lL127 {b : Nat} {rows2 : List (List Int)} (a : LW S i wl iw ir rl W rows) (w : WG W) (hr : RG1 W row) (hk : k < W.length) (v : WaveAt S ow (ow + 1) W rows2) (hz : rows2.length ≤ 1000) (ho : i < ow ∧ wl < ow ∧ iw < ow ∧ ir < ow ∧ rl < ow) : ∃ (S' : Sr) (y10 y15 : Option D), b_law_L127 (GK x0 i wl iw rl (some (.int (b : Int))) (some (valD row)) x7 x8 x9 x10 x11 ow s k x15 x16 x17 x18 x19) S = .nx (GK x0 i wl iw rl (some (.int (b : Int))) (some (valD row)) x7 x8 x9 y10 x11 ow s k y15 x16 x17 x18 x19) S' ∧ LW S' i wl iw ir rl W rows ∧ WaveAt S' ow (ow + 1) W (rows2 ++ [flipR W s k b row]) ∧ Fr [ow + 1] S S' := by
  obtain ⟨S1, e1, t1, x1, n1⟩ := l128 (S := S) (g := GK x0 i wl iw rl (some (.int (b : Int))) (some (valD row)) x7 x8 x9 x10 x11 ow s k x15 x16 x17 x18 x19) (wl := wl) (row := row) (W := W) rfl rfl (show 9 < (20 : Nat) by decide) a.w a.lt.2.1 hr.1 w
  have a1 := a.xt x1
  have v1 := v.xt x1
  have vl := v.lt
  have e2 := l129 (S := S1) (g := GK x0 i wl iw rl (some (.int (b : Int))) (some (valD row)) x7 x8 x9 x10 x11 ow s k (some (.adr (S.n + 1))) x16 x17 x18 x19) (wl := wl) a1.w hk rfl rfl
  have e3 := l130 (S := S1) (g := GK x0 i wl iw rl (some (.int (b : Int))) (some (valD row)) x7 x8 x9 (some (strL (W.getD k ([], 0)).1)) x11 ow s k (some (.adr (S.n + 1))) x16 x17 x18 x19) (wl := wl) (it := S.n + 1) (s := s) (b := b) w hr hk a1.w t1 rfl rfl rfl rfl rfl rfl
  obtain ⟨S2, eS2⟩ : ∃ S2, S2 = S1.put (S.n + 1) (.dic (plD (putP (pairT W row) (W.getD k ([], 0)).1 ((flipR W s k b row).getD k 0)))) := ⟨_, rfl⟩
  rw [← eS2] at e3
  have x2 : Xt S S2 := by rw [eS2]; exact x1.put (Nat.le_succ _)
  have t2 : S2.f (S.n + 1) = some (.dic (plD (putP (pairT W row) (W.getD k ([], 0)).1 ((flipR W s k b row).getD k 0)))) := by rw [eS2]; exact at_put
  have n2 : S2.n = S.n + 2 := by rw [eS2]; exact n1
  obtain ⟨S3, e4, f4, v4⟩ := l131 (S := S2) (g := GK x0 i wl iw rl (some (.int (b : Int))) (some (valD row)) x7 x8 x9 (some (strL (W.getD k ([], 0)).1)) x11 ow s k (some (.adr (S.n + 1))) x16 x17 x18 x19) (it := S.n + 1) (v.xt x2) t2 (by omega) w hz (add_flip (s := s) (b := b) w hr hk) rfl rfl
  have d4 := Fr.dice f4 (Nat.lt_of_lt_of_le a.lt.1 x2.le) (fun h => by have := List.mem_singleton.mp h; omega) (a.xt x2).d
  have a4 := (a.xt x2).mv f4 ⟨fun h => by have := List.mem_singleton.mp h; omega, fun h => by have := List.mem_singleton.mp h; omega, fun h => by have := List.mem_singleton.mp h; omega, fun h => by have := List.mem_singleton.mp h; omega⟩ d4
  exact ⟨S3, _, _, (sq_nx e1).trans ((sq_nx e2).trans ((sq_nx e3).trans e4)), a4, v4, (Xt.fr x2).trans f4⟩
def flipAll (W : List (List Nat × Int)) (s k : Nat) : Nat → List (List Int) → List (List Int)
  | _, [] => []
  | b, r :: rs => flipR W s k b r :: flipAll W s k (b + 1) rs
theorem flip_loop (w : WG W) (hR : RG W rows) (hk : k < W.length) (ho : i < ow ∧ wl < ow ∧ iw < ow ∧ ir < ow ∧ rl < ow) : ∀ (r idx : Nat) (rows2 : List (List Int)) (S : Sr) (x5 x6 x10 x15 : Option D), idx + r = rows.length → rows2.length ≤ idx → LW S i wl iw ir rl W rows → WaveAt S ow (ow + 1) W rows2 →
    ∃ (S' : Sr) (y5 y6 y10 y15 : Option D), forG (sqe (sqa rl rows.length)) (mStep (gTp 2 (gCn (gNm 5) (gCn (gNm 6) gNl))) b_law_L127) r idx (GK x0 i wl iw rl x5 x6 x7 x8 x9 x10 x11 ow s k x15 x16 x17 x18 x19) S = .nx (GK x0 i wl iw rl y5 y6 x7 x8 x9 y10 x11 ow s k y15 x16 x17 x18 x19) S' ∧ LW S' i wl iw ir rl W rows ∧ WaveAt S' ow (ow + 1) W (rows2 ++ flipAll W s k idx (rows.drop idx)) ∧ Fr [ow + 1] S S' := by
  intro r
  induction r with
  | zero =>
    intro idx rows2 S x5 x6 x10 x15 h hz a v
    refine ⟨S, x5, x6, x10, x15, fo_end ?_, a, ?_, Fr.refl⟩
    · show (match (sqa rl rows.length).nxt idx S with
        | some (some d) => some (some (D.tup [.int (idx : Int), d]))
        | some none => some none
        | none => none) = _
      rw [nx_sqa a.r, List.getElem?_eq_none (by rw [List.length_map]; omega)]
    · rw [List.drop_eq_nil_of_le (by omega)]
      show WaveAt S ow (ow + 1) W (rows2 ++ [])
      rw [List.append_nil]
      exact v
  | succ r ih =>
    intro idx rows2 S x5 x6 x10 x15 h hz a v
    have hx : idx < rows.length := by omega
    have h30 := hR.1
    have en : (sqe (sqa rl rows.length)).nxt idx S = some (some (.tup [.int (idx : Int), valD rows[idx]])) := by
      show (match (sqa rl rows.length).nxt idx S with
        | some (some d) => some (some (D.tup [.int (idx : Int), d]))
        | some none => some none
        | none => none) = _
      rw [nx_sqa a.r, List.getElem?_map, List.getElem?_eq_getElem hx]
      rfl
    obtain ⟨S1, y10, y15, e1, a1, v1, f1⟩ := lL127 (x0 := x0) (x7 := x7) (x8 := x8) (x9 := x9) (x10 := x10) (x11 := x11) (x15 := x15) (x16 := x16) (x17 := x17) (x18 := x18) (x19 := x19) (s := s) (b := idx) a w (hR.2 _ (List.getElem_mem hx)) hk v (by omega) ho
    obtain ⟨S2, y5, y6, z10, z15, e2, a2, v2, f2⟩ := ih (idx + 1) _ S1 (some (.int (idx : Int))) (some (valD rows[idx])) y10 y15 (by omega) (by rw [List.length_append, List.length_singleton]; omega) a1 v1
    refine ⟨S2, y5, y6, z10, z15, (fo_nx en (st127.trans e1)).trans e2, a2, ?_, f1.trans f2⟩
    rw [List.drop_eq_getElem_cons hx]
    rw [List.append_assoc] at v2
    exact v2
theorem l127 (a : LW S i wl iw ir rl W rows) (w : WG W) (hR : RG W rows) (hk : k < W.length) (v : WaveAt S ow (ow + 1) W []) (ho : i < ow ∧ wl < ow ∧ iw < ow ∧ ir < ow ∧ rl < ow) : ∃ (S' : Sr) (y5 y6 y10 y15 : Option D), b_law_s127 (GK x0 i wl iw rl x5 x6 x7 x8 x9 x10 x11 ow s k x15 x16 x17 x18 x19) S = .nx (GK x0 i wl iw rl y5 y6 x7 x8 x9 y10 x11 ow s k y15 x16 x17 x18 x19) S' ∧ LW S' i wl iw ir rl W rows ∧ WaveAt S' ow (ow + 1) W (flipAll W s k 0 rows) ∧ Fr [ow + 1] S S' := by
  obtain ⟨S', y5, y6, y10, y15, e, a', v', f'⟩ := flip_loop (x0 := x0) (x7 := x7) (x8 := x8) (x9 := x9) (x11 := x11) (x16 := x16) (x17 := x17) (x18 := x18) (x19 := x19) (s := s) w hR hk ho rows.length 0 [] S x5 x6 x10 x15 (Nat.zero_add _) (Nat.le_refl _) a v
  have es : mEnu (mCons (mVar 4) mNil) (GK x0 i wl iw rl x5 x6 x7 x8 x9 x10 x11 ow s k x15 x16 x17 x18 x19) S = .ok (sqe (sqa rl rows.length)) S := by
    have h := a.r
    simp (decide := true) [mEnu, mSrcD, mCons, mNil, mVar, SM.bind, SM.pure, h]
  rw [List.drop_zero, List.nil_append] at v'
  exact ⟨S', y5, y6, y10, y15, (mFor_of es).trans e, a', v', f'⟩
/-! ### what the other wave says -/
theorem flipAll_len : ∀ {rows : List (List Int)} {b : Nat}, (flipAll W s k b rows).length = rows.length
  | [], _ => rfl
  | r :: rs, b => by
    show (flipAll W s k (b + 1) rs).length + 1 = _
    rw [flipAll_len]
    rfl
theorem flipAll_ok (hk : k < W.length) : ∀ {rows : List (List Int)} {b : Nat}, (∀ r ∈ rows, RG1 W r) → ∀ r ∈ flipAll W s k b rows, RG1 W r
  | [], _, _, _, h => nomatch h
  | r :: rs, b, hR, q, h => by
    rcases List.mem_cons.mp h with e | h
    · rw [e]; exact flip_ok (hR r List.mem_cons_self) hk
    · exact flipAll_ok hk (fun r h => hR r (List.mem_cons_of_mem _ h)) q h
theorem ovr_ne (w : WG W) (hk : k < W.length) : ovr W k row ≠ row.getD k 0 := by
  have wd := w.wd _ (getD_mem hk)
  obtain ⟨m, hm⟩ : ∃ m : Nat, ((W.getD k ([], 0)).2).toNat = m + 1 := ⟨((W.getD k ([], 0)).2).toNat - 1, by omega⟩
  unfold ovr
  rw [hm, Int.pow_succ]
  omega
theorem find_unl (w : WG W) (hr : RG1 W row) (hk : k < W.length) {b : Nat} : (List.range W.length).find? (unl row (flipR W s k b row)) = if b = s then some k else none := by
  by_cases h : b = s
  · rw [if_pos h]
    have e : ∀ j, unl row (flipR W s k b row) j = decide (j = k) := fun j => by
      unfold unl flipR
      rw [if_pos h, getD_set (by rw [hr.1]; exact hk)]
      by_cases h2 : k = j
      · subst h2
        rw [if_pos rfl]
        simp [ (ovr_ne (row := row) w hk).symm, -List.getD_eq_getElem?_getD]
      · rw [if_neg h2]
        simp [Ne.symm h2]
    rw [show unl row (flipR W s k b row) = fun j => decide (j = k) from funext e]
    rw [List.find?_eq_some_iff_append]
    refine ⟨by simp, List.range k, (List.range' (k + 1) (W.length - (k + 1))), ?_, fun a ha => ?_⟩
    · have := List.range_eq_range' (n := W.length)
      have e3 : W.length = k + (1 + (W.length - (k + 1))) := by omega
      rw [this, e3, ← List.range'_append_1, ← List.range'_append_1, ← List.range_eq_range']
      simp
      omega
    · have := List.mem_range.mp ha
      simp
      omega
  · rw [if_neg h]
    have e : flipR W s k b row = row := by unfold flipR; rw [if_neg h]
    rw [e]
    rw [List.find?_eq_none]
    intro j _
    unfold unl
    simp
theorem fu_flip (w : WG W) (hk : k < W.length) : ∀ {rows : List (List Int)} {b : Nat}, (∀ r ∈ rows, RG1 W r) → fuO W b rows (flipAll W s k b rows) = if b ≤ s ∧ s < b + rows.length then some (s, k) else none
  | [], b, _ => by
    rw [if_neg (by rw [List.length_nil]; omega)]
    rfl
  | r :: rs, b, hR => by
    show fuO W b (r :: rs) (flipR W s k b r :: flipAll W s k (b + 1) rs) = _
    rw [fu_cons, find_unl w (hR r List.mem_cons_self) hk]
    by_cases h : b = s
    · rw [if_pos h, if_pos (by rw [List.length_cons]; omega), ← h]
    · rw [if_neg h]
      dsimp only
      rw [fu_flip w hk (fun r h => hR r (List.mem_cons_of_mem _ h))]
      rw [List.length_cons]
      by_cases h2 : b + 1 ≤ s ∧ s < b + 1 + rs.length
      · rw [if_pos h2, if_pos (by omega)]
      · rw [if_neg h2, if_neg (by omega)]
end
end K18

set_option Elab.async false
set_option linter.all false
set_option maxRecDepth 100000
set_option maxHeartbeats 4000000
namespace K18
open PySem PySem.Spec PyProof.Rows L2 Y TL
section
variable {S : Sr} {i wl iw ir rl k ow s : Nat} {W : List (List Nat × Int)} {rows : List (List Int)} {row : List Int} {g : Gm} {x0 x5 x6 x7 x8 x9 x10 x11 x12 x13 x14 x15 x16 x17 x18 x19 : Option D}
theorem unl_ne : ("first_unlike" : Str) ≠ "widths" ∧ ("first_unlike" : Str) ≠ "rows" := by
  constructor <;> simp (decide := true) [Y.sb]
theorem ne_spot {nm : List Nat} (hs : Sgn nm) {S : Sr} {b : Int} : dNe (.tup [.int b, strL nm]) (.tup [.int b, strL nm]) S = .ok (.bl false) S := by
  have e : SeqAt.shaped (.tuple [.int b, .str (sg nm)]) = true := by
    have hs := strOk_of (x := sg nm) hs
    unfold SeqAt.shaped
    have e1 : PyData.canLay0 (.tuple [.int b, .str (sg nm)]) = true := by
      show (true && (PyData.strOk (sg nm) && true)) = true
      rw [hs]
      rfl
    rw [e1]
    rfl
  exact ne_refl2 (a := .tuple [.int b, .str (sg nm)]) rfl rfl e
theorem ne_non {S : Sr} : dNe .non .non S = .ok (.bl false) S := ne_refl2 (a := .none) rfl rfl rfl
abbrev eDue : ME := mIf (mTB (mB dNe (mVar 4) (mLst mNil))) (mTup (mCons (mVar 13) (mCons (mB dIx (mB dIx (mVar 2) (mVar 14)) (mC (.int 0))) mNil))) (mC .non)
theorem l132 (a : LW S i wl iw ir rl W rows) (w : WG W) (hR : RG W rows) (hk : k < W.length) (hs : rows ≠ [] → s < rows.length) (v : WaveAt S ow (ow + 1) W (flipAll W s k 0 rows)) : ∃ S', b_law_s132 (GK x0 i wl iw rl x5 x6 x7 x8 x9 x10 x11 ow s k x15 x16 x17 x18 x19) S = .nx (GK x0 i wl iw rl x5 x6 x7 x8 x9 x10 x11 ow s k x15 x16 x17 x18 x19) S' ∧ Xt S S' := by
  obtain ⟨g, eg⟩ : ∃ g : Gm, g = GK x0 i wl iw rl x5 x6 x7 x8 x9 x10 x11 ow s k x15 x16 x17 x18 x19 := ⟨_, rfl⟩
  have g2 : g[2]? = some (some (.adr wl)) := by rw [eg]; rfl
  have g3 : g[3]? = some (some (.adr iw)) := by rw [eg]; rfl
  have g4 : g[4]? = some (some (.adr rl)) := by rw [eg]; rfl
  have g12 : g[12]? = some (some (.adr ow)) := by rw [eg]; rfl
  have g13 : g[13]? = some (some (.int (s : Int))) := by rw [eg]; rfl
  have g14 : g[14]? = some (some (.int (k : Int))) := by rw [eg]; rfl
  have sz2 : 2 ≤ sizeLine := by rw [sizeLine_eq]; omega
  have hx : ∀ r ∈ rows, r.length = W.length := fun r h => (hR.2 r h).1
  have U := e_unlike a.v v flipAll_len.symm hx (fun r h => (flipAll_ok hk hR.2 r h).1)
  rw [fu_flip w hk hR.2] at U
  have U2 := e_unlike a.v a.v rfl hx hx
  rw [fu_refl] at U2
  have U2 : f_Wave_first_unlike [.adr iw, .adr iw] S = .ok .non S := U2
  have m1 : mMeth "Wave" "first_unlike" f_Wave_first_unlike 2 [] (mVar 3) (mCons (mVar 12) mNil) g S = f_Wave_first_unlike [.adr iw, .adr ow] S := meth1 a.v (var_of g3) (by
    simp only [mCons, mNil, mVar, SM.bind, SM.pure, g12]) unl_ne.1 unl_ne.2
  have m2 : ∀ S', LW S' i wl iw ir rl W rows → mTB (mB (dIs true) (mMeth "Wave" "first_unlike" f_Wave_first_unlike 2 [] (mVar 3) (mCons (mVar 3) mNil)) (mC .non)) g S' = .ok false S' := fun S' a' => by
    have U2 := e_unlike a'.v a'.v rfl hx hx
    rw [fu_refl] at U2
    have U2 : f_Wave_first_unlike [.adr iw, .adr iw] S' = .ok .non S' := U2
    have mm : mMeth "Wave" "first_unlike" f_Wave_first_unlike 2 [] (mVar 3) (mCons (mVar 3) mNil) g S' = .ok .non S' := (meth1 a'.v (var_of g3) (by
      simp only [mCons, mNil, mVar, SM.bind, SM.pure, g3]) unl_ne.1 unl_ne.2).trans U2
    exact tb_of (bin_of mm rfl (by simp [dIs]))
  have a1 := a.xt (S' := S.alloc (.lst [])) Xt.alloc
  have t := t_rows a g4
  obtain ⟨S1, eS⟩ : ∃ S1, S1 = S.alloc (.lst []) := ⟨_, rfl⟩
  have x1 : Xt S S1 := by rw [eS]; exact Xt.alloc
  rw [← eS] at t a1
  have fin : mTB (mB dNe (mMeth "Wave" "first_unlike" f_Wave_first_unlike 2 [] (mVar 3) (mCons (mVar 12) mNil)) eDue) g S = .ok false S1 := by
    refine tb_of ?_
    cases hr : rows with
    | nil =>
      rw [hr] at t U
      rw [if_neg (by rw [List.length_nil]; omega)] at U
      have U : f_Wave_first_unlike [.adr iw, .adr ow] S = .ok .non S := U
      have t : mTB (mB dNe (mVar 4) (mLst mNil)) g S = .ok false S1 := t
      exact bin_of (m1.trans U) ((mif_f t).trans rfl) ne_non
    | cons r0 rs =>
      have hp := hs (by rw [hr]; simp)
      rw [if_pos ⟨Nat.zero_le _, by omega⟩] at U
      rw [hr] at t
      have t : mTB (mB dNe (mVar 4) (mLst mNil)) g S = .ok true S1 := t
      have gd : W.getD k ([], 0) = W[k] := by
        rw [List.getD_eq_getElem?_getD, List.getElem?_eq_getElem hk]
        rfl
      have U : f_Wave_first_unlike [.adr iw, .adr ow] S = .ok (.tup [.int (s : Int), strL (W.getD k ([], 0)).1]) S := U
      have i1 : dIx (.adr wl) (.int (k : Int)) S1 = .ok (widD W[k]) S1 := ixL a1.w (by omega) (by
        rw [Int.toNat_natCast, List.getElem?_map, List.getElem?_eq_getElem hk]
        rfl)
      have e1 : mB dIx (mB dIx (mVar 2) (mVar 14)) (mC (.int 0)) g S1 = .ok (strL (W.getD k ([], 0)).1) S1 := by
        rw [gd]
        exact bin_of (bin_of (var_of g2) (var_of g14) i1) rfl ixT0
      have e2 : mTup (mCons (mVar 13) (mCons (mB dIx (mB dIx (mVar 2) (mVar 14)) (mC (.int 0))) mNil)) g S1 = .ok (.tup [.int (s : Int), strL (W.getD k ([], 0)).1]) S1 := by
        have v13 := var_of (S := S1) g13
        simp (decide := true) only [mTup, mCons, mNil, SM.bind, SM.pure, v13, e1, List.length_cons, List.length_nil, if_true, sz2]
      exact bin_of (m1.trans U) ((mif_t t).trans e2) (ne_spot ((wok w).2 _ (getD_mem hk)).1)
  have fin : mTB (mB dNe (mMeth "Wave" "first_unlike" f_Wave_first_unlike 2 [] (mVar 3) (mCons (mVar 12) mNil)) (mIf (mTB (mB dNe (mVar 4) (mLst mNil))) (mTup (mCons (mVar 13) (mCons (mB dIx (mB dIx (mVar 2) (mVar 14)) (mC (.int 0))) mNil))) (mC .non))) g S = .ok false S1 := fin
  refine ⟨S1, ?_, x1⟩
  rw [← eg]
  unfold b_law_s132
  rw [ifs_f (or_f fin (m2 S1 a1))]
  rfl
end
end K18

set_option Elab.async false
set_option linter.all false
set_option maxRecDepth 100000
set_option maxHeartbeats 4000000
namespace K18
open PySem PySem.Spec PyProof.Rows L2 Y TL
section
variable {S : Sr} {i wl iw ir rl k ow s it : Nat} {W : List (List Nat × Int)} {rows : List (List Int)} {row : List Int} {g : Gm}
/-- what stays while wrong things are tried -/
structure LT (S : Sr) (i wl iw ir rl it : Nat) (W : List (List Nat × Int)) (rows : List (List Int)) : Prop where
  a : LW S i wl iw ir rl W rows
  t : S.f it = some (.dic (plD (zeroT W)))
  l : it < S.n
theorem LT.xt {S' : Sr} (h : LT S i wl iw ir rl it W rows) (x : Xt S S') : LT S' i wl iw ir rl it W rows := ⟨h.a.xt x, x.at_ h.t h.l, Nat.lt_of_lt_of_le h.l x.le⟩
structure Bad (i wl iw ir rl it : Nat) (W : List (List Nat × Int)) (rows : List (List Int)) (g : Gm) (me : ME) : Prop where
  on : ∀ S : Sr, LT S i wl iw ir rl it W rows → ∃ S', me g S = .exc "RunError" S' ∧ Xt S S'
theorem lam_ok : ∀ {l : List ME} {S : Sr}, (∀ me ∈ l, Bad i wl iw ir rl it W rows g me) → LT S i wl iw ir rl it W rows → ∃ S', lamTurns subT qsT clT "RunError" g l S = .ok () S' ∧ Xt S S'
  | [], S, _, _ => ⟨S, rfl, Xt.refl _⟩
  | me :: r, S, h, hz => by
    obtain ⟨S1, e, f1⟩ := (h me (List.mem_cons_self ..)).on S hz
    obtain ⟨S2, e2, f2⟩ := lam_ok (l := r) (S := S1) (fun x hx => h x (List.mem_cons_of_mem _ hx)) (hz.xt f1)
    refine ⟨S2, ?_, f1.trans f2⟩
    unfold lamTurns
    rw [told_exc e]
    show (if ("RunError" : Str) = "RunError" then _ else _) = _
    rw [if_pos rfl]
    exact e2
theorem addR_no : ∀ {W : List (List Nat × Int)} {pl : List (List Nat × Int)} {k : Nat} {v : Int}, k < W.length → look pl (W.getD k ([], 0)).1 = some v → ¬ (0 ≤ v ∧ v < 2 ^ ((W.getD k ([], 0)).2).toNat) → addR W pl = none
  | [], _, _, _, h, _, _ => absurd h (Nat.not_lt_zero _)
  | q :: r, pl, 0, v, _, h1, h2 => by
    have h1 : look pl q.1 = some v := h1
    have h2 : ¬ (0 ≤ v ∧ v < 2 ^ (q.2).toNat) := h2
    unfold addR
    rw [h1]
    dsimp only
    rw [if_neg h2]
  | q :: r, pl, k + 1, v, h, h1, h2 => by
    have ih := addR_no (W := r) (pl := pl) (k := k) (v := v) (Nat.lt_of_succ_lt_succ h) h1 h2
    unfold addR
    rw [ih]
    cases look pl q.1 with
    | none => rfl
    | some u =>
      dsimp only
      by_cases z : 0 ≤ u ∧ u < 2 ^ (q.2).toNat
      · rw [if_pos z]; rfl
      · rw [if_neg z]
theorem addR_nil {W : List (List Nat × Int)} (h : W ≠ []) : addR W [] = none := by
  cases W with
  | nil => exact absurd rfl h
  | cons q r => rfl
theorem bad_add {pl : List (List Nat × Int)} {ea : ME} {S S1 : Sr} {jt : Nat} (h : LT S i wl iw ir rl it W rows) (w : WG W) (hR : RG W rows) (g3 : g[3]? = some (some (.adr iw))) (he : ea g S = .ok (.adr jt) S1) (x1 : Xt S S1) (ht : S1.f jt = some (.dic (plD pl))) (hj : jt < S1.n) (hA : addR W pl = none) : ∃ S', mMeth "Wave" "add" f_Wave_add 2 [] (mVar 3) (mCons ea mNil) g S = .exc "RunError" S' ∧ Xt S S' := by
  have h30 := hR.1
  have A := e_add (h.a.v.xt x1) ht hj (wadd w) (by have := w.len; omega) (by omega)
  rw [hA] at A
  obtain ⟨S4, e4, f4⟩ := A
  have ha : mCons ea mNil g S = .ok [.adr jt] S1 := by
    simp only [mCons, mNil, SM.bind, SM.pure, he]
  exact ⟨S4, (meth1 h.a.v (var_of g3) ha add_ne.1 add_ne.2).trans e4, x1.trans f4⟩
theorem bad0 (w : WG W) (hR : RG W rows) (g3 : g[3]? = some (some (.adr iw))) : Bad i wl iw ir rl it W rows g (mMeth "Wave" "add" f_Wave_add 2 [] (mVar 3) (mCons mEmp mNil)) := ⟨fun S h =>
  bad_add (pl := []) (jt := S.n) (S1 := S.alloc (.dic [])) h w hR g3 rfl Xt.alloc at_new (Nat.lt_succ_self _) (addR_nil w.ne)⟩
theorem merge_app {a : List (Key × D)} {pl : List (List Nat × Int)} {q : List Nat × Int} : mergeD a (kwW (pl ++ [q])) = putD (mergeD a (kwW pl)) (Sum.inr (sg q.1)) (.int q.2) := by
  unfold mergeD kwW
  rw [List.map_append, List.foldl_append]
  rfl
abbrev eTab (e : ME) : ME := mCB fDictB (mCons (mB dAdd (mLi (mVar 15)) (mLst (mCons (mTup (mCons (mVar 10) (mCons e mNil))) mNil))) mNil)
theorem zero_nd (w : WG W) : ((zeroT W).map (·.1)).Nodup := by
  have : (zeroT W).map (·.1) = W.map (·.1) := by
    unfold zeroT
    rw [List.map_map]
    rfl
  rw [this]
  exact w.nd
theorem tab_val {e : ME} {v : Int} {nm : List Nat} {S : Sr} (h : LT S i wl iw ir rl it W rows) (w : WG W) (g10 : g[10]? = some (some (strL nm))) (g15 : g[15]? = some (some (.adr it))) (he : ∀ S, e g S = .ok (.int v) S) : ∃ S' jt, eTab e g S = .ok (.adr jt) S' ∧ Xt S S' ∧ S'.f jt = some (.dic (plD (putP (zeroT W) nm v))) ∧ jt < S'.n := by
  have sz2 : 2 ≤ sizeLine := by rw [sizeLine_eq]; omega
  have sz1 : 1 ≤ sizeLine := by rw [sizeLine_eq]; omega
  have wz := w.len
  have zl : ((zeroT W).map widD).length ≤ 4 := by
    rw [List.length_map]
    unfold zeroT
    rw [List.length_map]
    exact wz
  obtain ⟨S1, eS1⟩ : ∃ S1, S1 = S.alloc (.lst ((zeroT W).map widD)) := ⟨_, rfl⟩
  have x1 : Xt S S1 := by rw [eS1]; exact Xt.alloc
  have f1 : S1.f S.n = some (.lst ((zeroT W).map widD)) := by rw [eS1]; exact at_new
  have n1 : S1.n = S.n + 1 := by rw [eS1]; rfl
  have e1 : mLi (mVar 15) g S = .ok (.adr S.n) S1 := by
    have ht := h.t
    have em : (plD (zeroT W)).map (fun q => D.tup [kD q.1, q.2]) = (zeroT W).map widD := by
      unfold plD
      rw [List.map_map]
      rfl
    simp only [mLi, SM.bind, mVar, g15, ht, em, eS1]
  obtain ⟨S2, eS2⟩ : ∃ S2, S2 = S1.alloc (.lst [widD (nm, v)]) := ⟨_, rfl⟩
  have x2 : Xt S1 S2 := by rw [eS2]; exact Xt.alloc
  have f2 : S2.f S1.n = some (.lst [widD (nm, v)]) := by rw [eS2]; exact at_new
  have n2 : S2.n = S1.n + 1 := by rw [eS2]; rfl
  have e2 : mLst (mCons (mTup (mCons (mVar 10) (mCons e mNil))) mNil) g S1 = .ok (.adr S1.n) S2 := by
    have v10 := var_of (S := S1) g10
    have hh := he S1
    have e3 : mTup (mCons (mVar 10) (mCons e mNil)) g S1 = .ok (widD (nm, v)) S1 := by
      simp (decide := true) only [mTup, mCons, mNil, SM.bind, SM.pure, v10, hh, List.length_cons, List.length_nil, if_true, sz2]
    simp (decide := true) only [mLst, mCons, mNil, SM.bind, SM.pure, e3, List.length_cons, List.length_nil, if_true, sz1, eS2]
  have e3 : dAdd (.adr S.n) (.adr S1.n) S2 = .ok (.adr S2.n) (S2.alloc (.lst ((zeroT W).map widD ++ [widD (nm, v)]))) := cat_adr (x2.at_ f1 (by omega)) f2 (by rw [List.length_singleton]; omega)
  have ea : (zeroT W).map widD ++ [widD (nm, v)] = (zeroT W ++ [(nm, v)]).map widD := by rw [List.map_append]; rfl
  rw [ea] at e3
  obtain ⟨S3, eS3⟩ : ∃ S3, S3 = S2.alloc (.lst ((zeroT W ++ [(nm, v)]).map widD)) := ⟨_, rfl⟩
  have x3 : Xt S2 S3 := by rw [eS3]; exact Xt.alloc
  have f3 : S3.f S2.n = some (.lst ((zeroT W ++ [(nm, v)]).map widD)) := by rw [eS3]; exact at_new
  rw [← eS3] at e3
  have e4 : mB dAdd (mLi (mVar 15)) (mLst (mCons (mTup (mCons (mVar 10) (mCons e mNil))) mNil)) g S = .ok (.adr S2.n) S3 := bin_of e1 e2 e3
  have e5 : fDictB [.adr S2.n] S3 = .ok (.adr S3.n) (S3.alloc (.dic (plD (putP (zeroT W) nm v)))) := by
    have em : mergeD [] (kwW (zeroT W ++ [(nm, v)])) = plD (putP (zeroT W) nm v) := by
      rw [merge_app, ← put_pl]
      congr 1
      exact merge_id (zeroT W) [] (zero_nd w) fun _ _ p hp => nomatch hp
    unfold fDictB
    show fDict [D.adr S2.n] S3 = _
    simp only [fDict, f3, pairsD_W, em]
  refine ⟨_, S3.n, ?_, ((x1.trans x2).trans x3).alloc', at_new, Nat.lt_succ_self _⟩
  show SM.bind (mCons _ mNil g) _ S = _
  simp only [mCons, mNil, SM.bind, SM.pure, e4, e5]
theorem bad_tab {e : ME} {v : Int} (w : WG W) (hR : RG W rows) (hk : k < W.length) (hv : ¬ (0 ≤ v ∧ v < 2 ^ ((W.getD k ([], 0)).2).toNat)) (g3 : g[3]? = some (some (.adr iw))) (g10 : g[10]? = some (some (strL (W.getD k ([], 0)).1))) (g15 : g[15]? = some (some (.adr it))) (he : ∀ S, e g S = .ok (.int v) S) : Bad i wl iw ir rl it W rows g (mMeth "Wave" "add" f_Wave_add 2 [] (mVar 3) (mCons (eTab e) mNil)) := ⟨fun S h => by
  obtain ⟨S', jt, e1, x1, f1, l1⟩ := tab_val h w g10 g15 he
  exact bad_add h w hR g3 e1 x1 f1 l1 (addR_no hk (by rw [lookT_put, if_pos rfl]) hv)⟩
theorem bad_ch (w : WG W) (hN : ∀ q ∈ W, q.1 ∈ NMS) (g3 : g[3]? = some (some (.adr iw))) : Bad i wl iw ir rl it W rows g (mMeth "Wave" "changes" f_Wave_changes 2 [] (mVar 3) (mCons (mC (.str "zz")) mNil)) := ⟨fun S h => by
  obtain ⟨S1, e1, x1⟩ := e_changes_no (S := S) (nm := wd "zz") (wok w) (sgn_of (by decide +kernel)) (fun j hj hh => by
    have := hN _ (getD_mem hj)
    rw [hh] at this
    exact absurd this (by decide +kernel)) h.a.v
  refine ⟨S1, (meth1 h.a.v (var_of g3) ?_ chg_ne.1 chg_ne.2).trans e1, x1⟩
  simp only [mCons, mNil, SM.bind, SM.pure, mC_strL]⟩
end
end K18

set_option Elab.async false
set_option linter.all false
set_option maxRecDepth 100000
set_option maxHeartbeats 4000000
namespace K18
open PySem PySem.Spec PyProof.Rows L2 Y TL
section
variable {S : Sr} {i wl iw ir rl k ow s it : Nat} {W : List (List Nat × Int)} {rows : List (List Int)} {row : List Int} {x0 x2 x3 x4 x5 x6 x7 x8 x9 x10 x11 x12 x13 x14 x15 x16 x17 x18 x19 : Option D}
theorem wid_t (w : WG W) (hk : k < W.length) {g : Gm} (g11 : g[11]? = some (some (.int (W.getD k ([], 0)).2))) (S : Sr) : mB dShl (mC (.int 1)) (mVar 11) g S = .ok (.int (2 ^ ((W.getD k ([], 0)).2).toNat)) S := by
  have wd := w.wd _ (getD_mem hk)
  have pw : powB 1 (W.getD k ([], 0)).2 = true := by
    unfold powB
    exact decide_eq_true ⟨by omega, by omega, by decide⟩
  refine bin_of (x := .int 1) (S1 := S) rfl (var_of g11) ?_
  simp [-List.getD_eq_getElem?_getD, dShl, okI, pw]
abbrev lams : List ME := [(mMeth "Wave" "add" f_Wave_add 2 [] (mVar 3) (mCons mEmp mNil)), (mMeth "Wave" "add" f_Wave_add 2 [] (mVar 3) (mCons (eTab (mB dShl (mC (.int 1)) (mVar 11))) mNil)), (mMeth "Wave" "add" f_Wave_add 2 [] (mVar 3) (mCons (eTab (mU dNeg (mC (.int 1)))) mNil)), (mMeth "Wave" "changes" f_Wave_changes 2 [] (mVar 3) (mCons (mC (.str "zz")) mNil))]
abbrev bLast : MS := mForget 16 (mIfS (mOr (mTB (mB dNe (mLamComp subT qsT clT "RunError" [18] lams) (mLst mNil))) (mTB (mB dNe (mAttr ["Wave"] "rows" (mVar 3)) (mVar 4)))) b_law_s142 mPass)
theorem lLast (a : LW S i wl iw ir rl W rows) (w : WG W) (hR : RG W rows) (hN : ∀ q ∈ W, q.1 ∈ NMS) (hk : k < W.length) (ht : S.f it = some (.dic (plD (zeroT W)))) (hi : it < S.n) : ∃ S' : Sr, bLast (GH x0 i wl iw rl x5 x6 x7 x8 x9 (some (strL (W.getD k ([], 0)).1)) (some (.int (W.getD k ([], 0)).2)) x12 x13 x14 (some (.adr it)) x16 x17 x18 x19) S = .nx (GH x0 i wl iw rl x5 x6 x7 x8 x9 (some (strL (W.getD k ([], 0)).1)) (some (.int (W.getD k ([], 0)).2)) x12 x13 x14 (some (.adr it)) none x17 x18 x19) S' ∧ Xt S S' := by
  obtain ⟨g, eg⟩ : ∃ g : Gm, g = GH x0 i wl iw rl x5 x6 x7 x8 x9 (some (strL (W.getD k ([], 0)).1)) (some (.int (W.getD k ([], 0)).2)) x12 x13 x14 (some (.adr it)) none x17 x18 x19 := ⟨_, rfl⟩
  obtain ⟨h, eh⟩ : ∃ h : Gm, h = wipeD g [18] := ⟨_, rfl⟩
  have g3 : g[3]? = some (some (.adr iw)) := by rw [eg]; rfl
  have g4 : g[4]? = some (some (.adr rl)) := by rw [eg]; rfl
  have h3 : h[3]? = some (some (.adr iw)) := by rw [eh, eg]; rfl
  have h10 : h[10]? = some (some (strL (W.getD k ([], 0)).1)) := by rw [eh, eg]; rfl
  have h11 : h[11]? = some (some (.int (W.getD k ([], 0)).2)) := by rw [eh, eg]; rfl
  have h15 : h[15]? = some (some (.adr it)) := by rw [eh, eg]; rfl
  obtain ⟨S1, eS1⟩ : ∃ S1, S1 = S.alloc (.lst (([] : List (List Nat)).map strL)) := ⟨_, rfl⟩
  have x1 : Xt S S1 := by rw [eS1]; exact Xt.alloc
  have f1 : S1.f S.n = some (.lst (([] : List (List Nat)).map strL)) := by rw [eS1]; exact at_new
  have n1 : S1.n = S.n + 1 := by rw [eS1]; rfl
  have L0 : LT S i wl iw ir rl it W rows := ⟨a, ht, hi⟩
  obtain ⟨S2, e2, x2⟩ := lam_ok (l := lams) (g := h) (S := S1) (fun me hm => by
    simp only [lams, List.mem_cons, List.not_mem_nil, or_false] at hm
    rcases hm with rfl | rfl | rfl | rfl
    · exact bad0 w hR h3
    · exact bad_tab (v := 2 ^ ((W.getD k ([], 0)).2).toNat) w hR hk (by omega) h3 h10 h15 (wid_t w hk h11)
    · exact bad_tab (v := -1) w hR hk (by omega) h3 h10 h15 (fun S => by simp [mU, mC, SM.bind, SM.pure, dNeg, okI])
    · exact bad_ch w hN h3) (L0.xt x1)
  have em : mLamComp subT qsT clT "RunError" [18] lams g S = .ok (.adr S.n) S2 := by
    unfold mLamComp SM.bind
    have eS1' : S.alloc (.lst []) = S1 := eS1.symm
    rw [eS1', ← eh, e2]
  have f2 := x2.at_ f1 (by omega)
  have xx := x1.trans x2
  obtain ⟨S3, eS3⟩ : ∃ S3, S3 = S2.alloc (.lst []) := ⟨_, rfl⟩
  have x3 : Xt S2 S3 := by rw [eS3]; exact Xt.alloc
  have el : mLst mNil g S2 = .ok (.adr S2.n) S3 := by
    have z0 : 0 ≤ sizeLine := Nat.zero_le _
    simp only [mLst, mNil, SM.bind, SM.pure, List.length_nil, z0, if_true, eS3]
  have f3 : S3.f S2.n = some (.lst []) := by rw [eS3]; exact at_new
  have t1 := tb_of (bin_of em el (ne_nilS (l := []) (x3.at_ f2 (by have := x2.le; omega)) f3 (fun x h => nomatch h)))
  have a3 := a.xt (xx.trans x3)
  have t2 : mTB (mB dNe (mAttr ["Wave"] "rows" (mVar 3)) (mVar 4)) g S3 = .ok false S3 := tb_of (bin_of (rows_of a3.v (var_of g3)) (var_of g4) (ne_vals a3.v.r a3.r))
  refine ⟨S3, ?_, xx.trans x3⟩
  rw [← eg]
  have t1 : mTB (mB dNe (mLamComp subT qsT clT "RunError" [18] lams) (mLst mNil)) g S = .ok false S3 := t1
  show mForget 16 _ _ S = _
  unfold mForget
  have : (GH x0 i wl iw rl x5 x6 x7 x8 x9 (some (strL (W.getD k ([], 0)).1)) (some (.int (W.getD k ([], 0)).2)) x12 x13 x14 (some (.adr it)) x16 x17 x18 x19).set 16 none = g := by rw [eg]; rfl
  rw [this, ifs_f (or_f t1 t2)]
  rfl
theorem lL109 (d : DiceAt S i) (hi : i < S.n) : ∃ (S' : Sr) (y0 y1 y2 y3 y4 y5 y6 y7 y8 y9 y10 y11 y12 y13 y14 y15 y16 y17 y18 y19 : Option D), b_law_L109 (GG x0 (some (.adr i)) x2 x3 x4 x5 x6 x7 x8 x9 x10 x11 x12 x13 x14 x15 x16 x17 x18 x19) S = .nx (GG y0 y1 y2 y3 y4 y5 y6 y7 y8 y9 y10 y11 y12 y13 y14 y15 y16 y17 y18 y19) S' ∧ (∀ j x, j < S.n → j ≠ i → S.f j = some x → S'.f j = some x) := by
  obtain ⟨W, wl, S1, e1, w, fw, hwl, lw, f1, d1, hN⟩ := l110 (x0 := x0) (x2 := x2) (x3 := x3) (x4 := x4) (x5 := x5) (x6 := x6) (x7 := x7) (x8 := x8) (x9 := x9) (x10 := x10) (x11 := x11) (x12 := x12) (x13 := x13) (x14 := x14) (x15 := x15) (x16 := x16) (x17 := x17) (x18 := x18) (x19 := x19) d hi
  have n1 := f1.1
  obtain ⟨iw, ir, rl, S2, e2, a2, x2, p1, p2, p3⟩ := l111 (x0 := x0) (x3 := x3) (x4 := x4) (x5 := x5) (x6 := x6) (x7 := x7) (x8 := x8) (x9 := x9) (x10 := x10) (x11 := x11) (x12 := x12) (x13 := x13) (x14 := x14) (x15 := x15) (x16 := x16) (x17 := x17) (x18 := x18) (x19 := x19) d1 (by omega) fw lw (by omega)
  obtain ⟨rows, S3, y5, y6, e3, hR, a3, f3⟩ := l112 (x0 := x0) (x5 := x5) (x6 := x6) (x7 := x7) (x8 := x8) (x9 := x9) (x10 := x10) (x11 := x11) (x12 := x12) (x13 := x13) (x14 := x14) (x15 := x15) (x16 := x16) (x17 := x17) (x18 := x18) (x19 := x19) w a2
  obtain ⟨S4, e4, x4'⟩ := l116 (x0 := x0) (x5 := y5) (x6 := y6) (x7 := x7) (x8 := x8) (x9 := x9) (x10 := x10) (x11 := x11) (x12 := x12) (x13 := x13) (x14 := x14) (x15 := x15) (x16 := x16) (x17 := x17) (x18 := x18) (x19 := x19) a3 w
  have a4 := a3.xt x4'
  obtain ⟨S5, z5, z6, z8, e5, x5'⟩ := l117 (x0 := x0) (x5 := y5) (x6 := y6) (x8 := x8) (x9 := x9) (x10 := x10) (x11 := x11) (x12 := x12) (x13 := x13) (x14 := x14) (x15 := x15) (x16 := x16) (x17 := x17) (x18 := x18) (x19 := x19) a4 w hR
  have a5 := a4.xt x5'
  obtain ⟨S6, e6, x6'⟩ := l120 (x0 := x0) (x5 := z5) (x6 := z6) (x8 := z8) (x9 := x9) (x10 := x10) (x11 := x11) (x12 := x12) (x13 := x13) (x14 := x14) (x15 := x15) (x16 := x16) (x17 := x17) (x18 := x18) (x19 := x19) a5 w hR
  have a6 := a5.xt x6'
  obtain ⟨S7, z9, z10, z11, e7, x7'⟩ := l122 (x0 := x0) (x5 := z5) (x6 := z6) (x7 := some (strL (waveT W rows))) (x8 := z8) (x9 := x9) (x10 := x10) (x11 := x11) (x12 := x12) (x13 := x13) (x14 := x14) (x15 := x15) (x16 := x16) (x17 := x17) (x18 := x18) (x19 := x19) a6 w hR
  have a7 := a6.xt x7'
  obtain ⟨S8, ow, e8, v8, how, x8'⟩ := l125 (x0 := x0) (x5 := z5) (x6 := z6) (x7 := some (strL (waveT W rows))) (x8 := z8) (x9 := z9) (x10 := z10) (x11 := z11) (x12 := x12) (x13 := x13) (x14 := x14) (x15 := x15) (x16 := x16) (x17 := x17) (x18 := x18) (x19 := x19) a7
  have a8 := a7.xt x8'
  have h30 := hR.1
  obtain ⟨S9, s, k, e9, a9, f9, hk, hs⟩ := l126 (x0 := x0) (x5 := z5) (x6 := z6) (x7 := some (strL (waveT W rows))) (x8 := z8) (x9 := z9) (x10 := z10) (x11 := z11) (x12 := some (.adr ow)) (x13 := x13) (x14 := x14) (x15 := x15) (x16 := x16) (x17 := x17) (x18 := x18) (x19 := x19) a8 w (by omega)
  have lt7 := a7.lt
  have vl7 := a7.v.lt
  have v9 : WaveAt S9 ow (ow + 1) W [] := v8.mv f9 (fun h => by have := List.mem_singleton.mp h; omega) (fun h => by have := List.mem_singleton.mp h; omega)
  obtain ⟨S10, w5, w6, w10, w15, e10, a10, v10, f10⟩ := l127 (x0 := x0) (x5 := z5) (x6 := z6) (x7 := some (strL (waveT W rows))) (x8 := z8) (x9 := z9) (x10 := z10) (x11 := z11) (x15 := x15) (x16 := x16) (x17 := x17) (x18 := x18) (x19 := x19) (ow := ow) (s := s) a9 w hR hk v9 (by omega)
  obtain ⟨S11, e11, x11'⟩ := l132 (x0 := x0) (x5 := w5) (x6 := w6) (x7 := some (strL (waveT W rows))) (x8 := z8) (x9 := z9) (x10 := w10) (x11 := z11) (x15 := w15) (x16 := x16) (x17 := x17) (x18 := x18) (x19 := x19) (ow := ow) (s := s) a10 w hR hk hs v10
  have a11 := a10.xt x11'
  obtain ⟨S12, it, e12, t12, l12, x12'⟩ := l134 (x0 := x0) (x5 := w5) (x6 := w6) (x7 := some (strL (waveT W rows))) (x8 := z8) (x9 := z9) (x10 := w10) (x11 := z11) (x12 := some (.adr ow)) (x13 := some (.int (s : Int))) (x14 := some (.int (k : Int))) (x15 := w15) (x16 := x16) (x17 := x17) (x18 := x18) (x19 := x19) a11 w
  have a12 := a11.xt x12'
  obtain ⟨S13, k2, hk2, e13, a13, f13⟩ := l135 (x0 := x0) (x5 := w5) (x6 := w6) (x7 := some (strL (waveT W rows))) (x8 := z8) (x9 := z9) (x10 := w10) (x11 := z11) (x12 := some (.adr ow)) (x13 := some (.int (s : Int))) (x14 := some (.int (k : Int))) (x15 := some (.adr it)) (x16 := x16) (x17 := x17) (x18 := x18) (x19 := x19) a12 w
  have t13 : S13.f it = some (.dic (plD (zeroT W))) := f13.at l12 (fun h => by
    have hh := List.mem_singleton.mp h
    obtain ⟨da, db, dc, dd⟩ := a12.d
    rw [hh, dd] at t12
    cases t12) t12
  obtain ⟨S14, e14, x14'⟩ := lLast (x0 := x0) (x5 := w5) (x6 := w6) (x7 := some (strL (waveT W rows))) (x8 := z8) (x9 := z9) (x12 := some (.adr ow)) (x13 := some (.int (s : Int))) (x14 := some (.int (k : Int))) (x16 := x16) (x17 := x17) (x18 := x18) (x19 := x19) a13 w hR hN hk2 t13 (Nat.lt_of_lt_of_le l12 f13.1)
  refine ⟨S14, x0, some (.adr i), some (.adr wl), some (.adr iw), some (.adr rl), w5, w6, some (strL (waveT W rows)), z8, z9, some (strL (W.getD k2 ([], 0)).1), some (.int (W.getD k2 ([], 0)).2), some (.adr ow), some (.int (s : Int)), some (.int (k : Int)), some (.adr it), none, x17, x18, x19, ?_, fun j x hj hne hx => ?_⟩
  · unfold b_law_L109
    rw [sq_nx e1, sq_nx e2, sq_nx e3, sq_nx e4, sq_nx e5, sq_nx e6, sq_nx e7, sq_nx e8, sq_nx e9, sq_nx e10, sq_nx e11, sq_nx e12, sq_nx e13]
    exact e14
  · have q1 : S1.f j = some x := f1.at hj (fun h => hne (List.mem_singleton.mp h)) hx
    have q2 : S2.f j = some x := x2.at_ q1 (by omega)
    have n2 := x2.le
    have q3 : S3.f j = some x := f3.at (by omega) (fun h => by
      simp only [List.mem_cons, List.not_mem_nil, or_false] at h
      omega) q2
    have n3 := f3.1
    have q8 : S8.f j = some x := ((((x4'.trans x5').trans x6').trans x7').trans x8').at_ q3 (by omega)
    have n8 := ((((x4'.trans x5').trans x6').trans x7').trans x8').le
    have n7 := (((x4'.trans x5').trans x6').trans x7').le
    have q9 : S9.f j = some x := f9.at (by omega) (fun h => hne (List.mem_singleton.mp h)) q8
    have n9 := f9.1
    have q10 : S10.f j = some x := f10.at (by omega) (fun h => by
      have := List.mem_singleton.mp h
      omega) q9
    have n10 := f10.1
    have q12 : S12.f j = some x := (x11'.trans x12').at_ q10 (by omega)
    have n12 := (x11'.trans x12').le
    have q13 : S13.f j = some x := f13.at (by omega) (fun h => hne (List.mem_singleton.mp h)) q12
    have n13 := f13.1
    exact x14'.at_ q13 (by omega)
/-- the law of a script that can be cut -/
theorem law_true {script : D} {ns : List Int} (hs : slD script none (some 1) S = .ok (.adr S.n) (S.alloc (.lst ((ns.take 1).map D.int)))) : ∃ S', f_law [script] S = .ok (.bl true) S' := by
  obtain ⟨r, S1, e1, a, i, rfl, ha, di, hi, hal, hne, hn⟩ := (e_rounds hs).get
  obtain ⟨S2, y0, y1, y2, y3, y4, y5, y6, y7, y8, y9, y10, y11, y12, y13, y14, y15, y16, y17, y18, y19, e2, kp⟩ := lL109 (S := S1) (x0 := some script) (x2 := none) (x3 := none) (x4 := none) (x5 := none) (x6 := none) (x7 := none) (x8 := none) (x9 := none) (x10 := none) (x11 := none) (x12 := none) (x13 := none) (x14 := none) (x15 := none) (x16 := none) (x17 := none) (x18 := none) (x19 := none) di hi
  have ha2 : S2.f a = some (.lst [.adr i]) := kp a _ hal hne ha
  let G0 : Gm := [some script, none, none, none, none, none, none, none, none, none, none, none, none, none, none, none, none, none, none, none]
  have es : mSrc (mCall f__law_rounds 2 [] (mCons (mVar 0) (mCons (mC (.int 1)) mNil))) G0 S = .ok (sqa a 1) S1 := by
    simp [mSrc, mCall, mCons, mNil, mVar, mC, SM.bind, SM.pure, e1, mSrcD, ha, G0]
  have n0 : (sqa a 1).nxt 0 S1 = some (some (.adr i)) := by simp [sqa, ha]
  have n1 : (sqa a 1).nxt 1 S2 = some none := by simp [sqa, ha2]
  have ef : b_law_s109 G0 S = .nx (GG y0 y1 y2 y3 y4 y5 y6 y7 y8 y9 y10 y11 y12 y13 y14 y15 y16 y17 y18 y19) S2 := by
    unfold b_law_s109
    refine (mFor_of es).trans ?_
    refine (fo_nx n0 e2).trans ?_
    exact fo_end n1
  obtain ⟨S4, e4⟩ := l144 (x0 := y0) (x1 := y1) (x2 := y2) (x3 := y3) (x4 := y4) (x5 := y5) (x6 := y6) (x7 := y7) (x8 := y8) (x9 := y9) (x10 := y10) (x11 := y11) (x12 := y12) (x13 := y13) (x14 := y14) (x15 := y15) (x16 := y16) (x18 := y18) (x19 := y19) (S := S2.alloc (.lst (badT.map strL))) (B := S2.n) at_new (Nat.lt_succ_self _)
  obtain ⟨S5, e5⟩ := l147 (S := S4) (g := GG y0 y1 y2 y3 y4 y5 y6 y7 y8 y9 y10 y11 y12 y13 y14 y15 y16 (some (.adr S2.n)) y18 y19)
  refine ⟨S5, ?_⟩
  unfold f_law
  refine fn_rt ?_
  show b_law G0 S = _
  unfold b_law
  rw [sq_nx ef, sq_nx l143, sq_nx e4, e5]
theorem p1 (ns : List Int) : ∃ S', f_law [.fro (ns.map .int)] S0 = .ok (.bl true) S' := law_true (ns := ns) (by
  show Y.R.ok (D.adr S0.n) (S0.alloc (.lst (Y.cutD (ns.map D.int) none (some 1)))) = _
  rw [cut1])
theorem p2 (ns : List Int) : ∃ S', f_law [.adr 0] (S1 (ns.map .int)) = .ok (.bl true) S' := law_true (ns := ns) (by
  show Y.R.ok (D.adr (S1 (ns.map D.int)).n) ((S1 (ns.map D.int)).alloc (.lst (Y.cutD (ns.map D.int) none (some 1)))) = _
  rw [cut1])
end
end K18

theorem PySem.Challenge.cw_chipstack_k18_waves_as_texts_holds : PySem.Challenge.rw_chipstack_k18_waves_as_texts.Holds := by
  exact K18.done (fun ns _ _ => K18.p1 ns) (fun ns _ _ => K18.p2 ns)
