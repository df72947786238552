import PyProof.Rows.All
import Wide.All
import OpenK.AllK
import Wide.FinOn
import HandS.ForMost
import HandS.ForExc
import HandS.CallSlots
import HandS.Wide
import HandS.TupAny
import HandS.Deep
import HandS.IsInst
import HandS.FStr
import HandS.TupLen
import KE.LtSeq
import KE.DataMinMax
import HandS.RaiseMore
import HandS.ReplaceLit
import HandS.HeadEnd
import HandS.HeadHook4
import HandS.Head2
import HandS.Defaults
import PySem.Challenge.RW_grantsgrow_k50_texts_of_grants
set_option Elab.async false
set_option linter.all false
set_option maxRecDepth 100000
set_option maxHeartbeats 2000000
/-! G1: plain data, what stands for them, the state's relation -/
namespace G
open PySem L2

inductive D where
  | non | bl (b : Bool) | int (i : Int) | str (x : Str)
  | tup (xs : List D) | lst (xs : List D) | dic (ks vs : List D) | ins (c : Nat) (ns : List Str) (vs : List D)
  | ref (i : Nat) | fn (i : Nat) | scr (xs : List D) | ktp (xs : List D) | ty (n : String) | cl (c : Nat)
  deriving Inhabited
inductive Ob where
  | lst (xs : List D) | dic (ks vs : List D) | ins (c : Nat) (ns : List Str) (vs : List D)
  deriving Inhabited
abbrev Sto := List Ob
structure Bas where
  K : PySem.W.Frag
  cls : Nat → Addr
  fn : Nat → Addr
structure Mp where
  mu : Nat → Addr
  n : Nat
  Z : Hp
def Mp.out (m : Mp) (a : Addr) : Prop := ∀ i, i < m.n → m.mu i ≠ a
def KTup (K : PySem.W.Frag) (a : Addr) (vs : List V) : Prop := SqT K (fun _ => none) a vs
def KLst (K : PySem.W.Frag) (a : Addr) (vs : List V) : Prop := SqL K (fun _ => none) a vs
def TupAt (m : Mp) (a : Addr) (vs : List V) : Prop := m.Z a = some (.tup vs) ∧ m.out a
def LstAt (m : Mp) (a : Addr) (vs : List V) : Prop := m.Z a = some (.lst vs) ∧ m.out a
def ScrAt (B : Bas) (m : Mp) (a : Addr) (vs : List V) : Prop := (Rd m.Z a (.lst vs) ∧ m.out a) ∨ KLst B.K a vs
def keyD : D → Option Key
  | .int i => some (.inl i)
  | .str x => some (.inr x)
  | _ => none
def keysD : List D → Option (List Key)
  | [] => some []
  | d :: r => match keyD d, keysD r with
    | some k, some ks => some (k :: ks)
    | _, _ => none
def tkeyD : D → Option (List Key)
  | .tup ds => keysD ds
  | _ => none
def tkeysD : List D → Option (List (List Key))
  | [] => some []
  | d :: r => match tkeyD d, tkeysD r with
    | some k, some ks => some (k :: ks)
    | _, _ => none
/-- a dict's object: by its keys and its values' list -/
def DicAt (o : Option HO) (ks : List D) (vs : List V) : Prop :=
  ks.length = vs.length ∧ ((∃ q, keysD ks = some q ∧ o = some (.dK (q.zip vs))) ∨ ∃ q, tkeysD ks = some q ∧ o = some (.dT (q.zip vs)))
mutual
def Rep (B : Bas) (m : Mp) : D → V → Prop
  | .non, v => v = .non
  | .bl b, v => v = .bl b
  | .int i, v => v = .int i
  | .str x, v => v = .str x
  | .tup ds, v => ∃ a vs, v = .ref a ∧ TupAt m a vs ∧ Reps B m ds vs
  | .lst ds, v => ∃ a vs, v = .ref a ∧ LstAt m a vs ∧ Reps B m ds vs
  | .dic ks ds, v => ∃ a vs, v = .ref a ∧ m.out a ∧ DicAt (m.Z a) ks vs ∧ Reps B m ds vs
  | .ins c ns ds, v => ∃ a dx vs, v = .ref a ∧ m.out a ∧ m.Z a = some (.ins (B.cls c) dx (ns.zip vs)) ∧ ns.length = vs.length ∧ Reps B m ds vs
  | .ref i, v => i < m.n ∧ v = .ref (m.mu i)
  | .fn i, v => v = .ref (B.fn i)
  | .ty n, v => v = .ty n
  | .cl c, v => v = .ref (B.cls c)
  | .scr ds, v => ∃ a vs, v = .ref a ∧ ScrAt B m a vs ∧ Reps B m ds vs
  | .ktp ds, v => ∃ a vs, v = .ref a ∧ KTup B.K a vs ∧ Reps B m ds vs
def Reps (B : Bas) (m : Mp) : List D → List V → Prop
  | [], vs => vs = []
  | d :: ds, vs => ∃ v r, vs = v :: r ∧ Rep B m d v ∧ Reps B m ds r
end
def ObR (B : Bas) (m : Mp) (a : Addr) : Ob → Prop
  | .lst ds => ∃ vs, m.Z a = some (.lst vs) ∧ Reps B m ds vs
  | .dic ks ds => ∃ vs, DicAt (m.Z a) ks vs ∧ Reps B m ds vs
  | .ins c ns ds => ∃ dx vs, m.Z a = some (.ins (B.cls c) dx (ns.zip vs)) ∧ ns.length = vs.length ∧ Reps B m ds vs
structure Cor (B : Bas) (m : Mp) (S : Sto) : Prop where
  n : m.n = S.length
  ob : ∀ i o, S[i]? = some o → ObR B m (m.mu i) o
  inj : ∀ i j, i < m.n → j < m.n → m.mu i = m.mu j → i = j
def Sub (m : Mp) (H : Hp) : Prop := ∀ a o, m.Z a = some o → H a = some o
structure Kp (m m' : Mp) : Prop where
  le : m.n ≤ m'.n
  mu : ∀ i, i < m.n → m'.mu i = m.mu i
  keep : ∀ a o, m.Z a = some o → m.out a → m'.Z a = some o ∧ m'.out a
structure Le (m : Mp) (H : Hp) (m' : Mp) (H' : Hp) : Prop extends Kp m m' where
  fr : ∀ a o, m.Z a = none → H a = some o → H' a = some o ∧ m'.Z a = none
  sub : Sub m' H'
theorem Kp.trans {m m1 m2 : Mp} (a : Kp m m1) (b : Kp m1 m2) : Kp m m2 where
  le := Nat.le_trans a.le b.le
  mu := fun i h => (b.mu i (Nat.lt_of_lt_of_le h a.le)).trans (a.mu i h)
  keep := fun x o h1 h2 => let ⟨p, q⟩ := a.keep x o h1 h2; b.keep x o p q
theorem Kp.refl (m : Mp) : Kp m m := ⟨Nat.le_refl _, fun _ _ => rfl, fun _ _ z o => ⟨z, o⟩⟩
theorem Le.refl {m : Mp} {H : Hp} (h : Sub m H) : Le m H m H := ⟨Kp.refl m, fun _ _ z o => ⟨o, z⟩, h⟩
theorem Le.trans {m m1 m2 : Mp} {H H1 H2 : Hp} (a : Le m H m1 H1) (b : Le m1 H1 m2 H2) : Le m H m2 H2 where
  toKp := a.toKp.trans b.toKp
  fr := fun x o h1 h2 => let ⟨p, q⟩ := a.fr x o h1 h2; b.fr x o q p
  sub := b.sub

theorem KTup.sq {K : PySem.W.Frag} {H : Hp} {a : Addr} {vs : List V} (h : KTup K a vs) : SqT K H a vs := by
  rcases h with (h | ⟨o, h⟩) | h
  · cases h
  · cases h
  · exact .inr h
theorem KLst.sq {K : PySem.W.Frag} {H : Hp} {a : Addr} {vs : List V} (h : KLst K a vs) : SqL K H a vs := by
  rcases h with (h | ⟨o, h⟩) | h
  · cases h
  · cases h
  · exact .inr h
section
variable {B : Bas} {m m' : Mp} {H H' : Hp}
theorem Rd.sub {Z : Hp} {a : Addr} {u : HO} (s : ∀ o, Z a = some o → H a = some o) (h : Rd Z a u) : Rd H a u := by
  rcases h with h | ⟨o, h⟩
  · exact .inl (s _ h)
  · exact .inr ⟨o, s _ h⟩
theorem TupAt.sq {a : Addr} {vs : List V} (s : Sub m H) (h : TupAt m a vs) : SqT B.K H a vs := .inl (.inl (s a _ h.1))
theorem LstAt.sq {a : Addr} {vs : List V} (s : Sub m H) (h : LstAt m a vs) : SqL B.K H a vs := .inl (.inl (s a _ h.1))
theorem ScrAt.sq {a : Addr} {vs : List V} (s : Sub m H) (h : ScrAt B m a vs) : SqL B.K H a vs := by
  rcases h with ⟨h, _⟩ | h
  · exact .inl (Rd.sub (s a) h)
  · exact h.sq
theorem rd_keep (l : Kp m m') {a : Addr} {u : HO} (h : Rd m.Z a u) (o : m.out a) : Rd m'.Z a u ∧ m'.out a := by
  rcases h with h | ⟨x, h⟩
  · exact ⟨.inl (l.keep _ _ h o).1, (l.keep _ _ h o).2⟩
  · exact ⟨.inr ⟨x, (l.keep _ _ h o).1⟩, (l.keep _ _ h o).2⟩
theorem TupAt.mono (l : Kp m m') {a : Addr} {vs : List V} (h : TupAt m a vs) : TupAt m' a vs := l.keep _ _ h.1 h.2
theorem LstAt.mono (l : Kp m m') {a : Addr} {vs : List V} (h : LstAt m a vs) : LstAt m' a vs := l.keep _ _ h.1 h.2
theorem ScrAt.mono (l : Kp m m') {a : Addr} {vs : List V} (h : ScrAt B m a vs) : ScrAt B m' a vs := by
  rcases h with ⟨h, o⟩ | h
  · exact .inl (rd_keep l h o)
  · exact .inr h
theorem DicAt.some {o : Option HO} {ks : List D} {vs : List V} (h : DicAt o ks vs) : ∃ u, o = some u := by
  rcases h with ⟨_, ⟨q, _, e⟩ | ⟨q, _, e⟩⟩
  · exact ⟨_, e⟩
  · exact ⟨_, e⟩
mutual
theorem Rep.monoK (l : Kp m m') : ∀ {d : D} {v : V}, Rep B m d v → Rep B m' d v
  | .non, _, h => by simpa only [Rep] using h
  | .bl _, _, h => by simpa only [Rep] using h
  | .int _, _, h => by simpa only [Rep] using h
  | .str _, _, h => by simpa only [Rep] using h
  | .tup ds, v, h => by
    simp only [Rep] at h ⊢
    obtain ⟨a, vs, e, t, r⟩ := h
    exact ⟨a, vs, e, t.mono l, Reps.monoK l r⟩
  | .lst ds, v, h => by
    simp only [Rep] at h ⊢
    obtain ⟨a, vs, e, t, r⟩ := h
    exact ⟨a, vs, e, t.mono l, Reps.monoK l r⟩
  | .dic ks ds, v, h => by
    simp only [Rep] at h ⊢
    obtain ⟨a, vs, e, o, t, r⟩ := h
    obtain ⟨u, hu⟩ := t.some
    obtain ⟨k1, k2⟩ := l.keep a u hu o
    exact ⟨a, vs, e, k2, by rw [k1, ← hu]; exact t, Reps.monoK l r⟩
  | .ins c ns ds, v, h => by
    simp only [Rep] at h ⊢
    obtain ⟨a, dx, vs, e, o, t, n, r⟩ := h
    obtain ⟨k1, k2⟩ := l.keep a _ t o
    exact ⟨a, dx, vs, e, k2, k1, n, Reps.monoK l r⟩
  | .ref i, v, h => by
    simp only [Rep] at h ⊢
    exact ⟨Nat.lt_of_lt_of_le h.1 l.le, by rw [l.mu i h.1]; exact h.2⟩
  | .fn _, _, h => by simpa only [Rep] using h
  | .ty _, _, h => by simpa only [Rep] using h
  | .cl _, _, h => by simpa only [Rep] using h
  | .scr ds, v, h => by
    simp only [Rep] at h ⊢
    obtain ⟨a, vs, e, t, r⟩ := h
    exact ⟨a, vs, e, t.mono l, Reps.monoK l r⟩
  | .ktp ds, v, h => by
    simp only [Rep] at h ⊢
    obtain ⟨a, vs, e, t, r⟩ := h
    exact ⟨a, vs, e, t, Reps.monoK l r⟩
theorem Reps.monoK (l : Kp m m') : ∀ {ds : List D} {vs : List V}, Reps B m ds vs → Reps B m' ds vs
  | [], _, h => by simpa only [Reps] using h
  | d :: ds, _, h => by
    simp only [Reps] at h ⊢
    obtain ⟨v, r, e, p, q⟩ := h
    exact ⟨v, r, e, Rep.monoK l p, Reps.monoK l q⟩
end
theorem ObR.monoK (l : Kp m m') {a a' : Addr} (hz : m'.Z a' = m.Z a) {o : Ob} (h : ObR B m a o) : ObR B m' a' o := by
  cases o with
  | lst ds => obtain ⟨vs, e, r⟩ := h; exact ⟨vs, hz.trans e, r.monoK l⟩
  | dic ks ds => obtain ⟨vs, e, r⟩ := h; exact ⟨vs, by rw [hz]; exact e, r.monoK l⟩
  | ins c ns ds => obtain ⟨dx, vs, e, n, r⟩ := h; exact ⟨dx, vs, hz.trans e, n, r.monoK l⟩
theorem ObR.some {a : Addr} {o : Ob} (h : ObR B m a o) : ∃ u, m.Z a = some u := by
  cases o with
  | lst ds => obtain ⟨vs, e, r⟩ := h; exact ⟨_, e⟩
  | dic ks ds => obtain ⟨vs, e, r⟩ := h; exact e.some
  | ins c ns ds => obtain ⟨dx, vs, e, n, r⟩ := h; exact ⟨_, e⟩
theorem Rep.mono (l : Le m H m' H') {d : D} {v : V} (h : Rep B m d v) : Rep B m' d v := Rep.monoK l.toKp h
theorem Reps.mono (l : Le m H m' H') {d : List D} {v : List V} (h : Reps B m d v) : Reps B m' d v := Reps.monoK l.toKp h
theorem ObR.mono (l : Le m H m' H') {a a' : Addr} (hz : m'.Z a' = m.Z a) {o : Ob} (h : ObR B m a o) : ObR B m' a' o := ObR.monoK l.toKp hz h
/-- the store's objects stand as they were -/
theorem Cor.same {S : Sto} (c : Cor B m S) (l : Le m H m' H') (hn : m'.n = m.n) (hz : ∀ i, i < m.n → m'.Z (m.mu i) = m.Z (m.mu i)) : Cor B m' S where
  n := hn.trans c.n
  ob := fun i o e => by
    have hi : i < m.n := by rw [c.n]; exact (List.getElem?_eq_some_iff.mp e).1
    rw [l.mu i hi]
    exact (c.ob i o e).mono l (hz i hi)
  inj := fun i j hi hj e => by
    rw [hn] at hi hj
    rw [l.mu i hi, l.mu j hj] at e
    exact c.inj i j hi hj e
theorem Cor.at {S : Sto} (c : Cor B m S) {i : Nat} (hi : i < m.n) : ∃ u, m.Z (m.mu i) = some u := by
  have h : i < S.length := by rw [← c.n]; exact hi
  exact (c.ob i _ (List.getElem?_eq_getElem h)).some
theorem Cor.out_of {S : Sto} (c : Cor B m S) {a : Addr} (h : m.Z a = none) : m.out a := fun i hi e => by
  obtain ⟨u, hu⟩ := c.at hi
  rw [e, h] at hu
  cases hu
theorem Sub.none (s : Sub m H) {a : Addr} (h : H a = none) : m.Z a = none := by
  cases e : m.Z a with
  | none => rfl
  | some o => rw [s a o e] at h; cases h
/-- a new object, frozen -/
def Mp.put (m : Mp) (p : Addr) (o : HO) : Mp := { m with Z := upd m.Z p o }
theorem Le.new {S : Sto} {p : Addr} {o : HO} (c : Cor B m S) (s : Sub m H) (h : H p = none) : Le m H (m.put p o) (upd H p o) where
  le := Nat.le_refl _
  mu := fun _ _ => rfl
  keep := fun a u e q => ⟨by show upd m.Z p o a = _; rw [upd_ne (ne_of_none e (s.none h))]; exact e, q⟩
  fr := fun a u e q => by
    have ne : a ≠ p := ne_of_none q h
    exact ⟨by rw [upd_ne ne]; exact q, by show upd m.Z p o a = _; rw [upd_ne ne]; exact e⟩
  sub := fun a u e => by
    by_cases ha : a = p
    · subst ha
      have e' : upd m.Z a o a = some u := e
      rw [upd_same] at e' ⊢
      exact e'
    · have e' : upd m.Z p o a = some u := e
      rw [upd_ne ha] at e' ⊢
      exact s a u e'
theorem Cor.new {S : Sto} {p : Addr} {o : HO} (c : Cor B m S) (s : Sub m H) (h : H p = none) : Cor B (m.put p o) S :=
  c.same (Le.new (o := o) c s h) rfl fun i hi => by
    obtain ⟨u, hu⟩ := c.at hi
    show upd m.Z p o (m.mu i) = _
    rw [upd_ne (ne_of_none hu (s.none h))]
/-- what was tracked, outside of Z, too: a frame's part is taken over as frozen -/
theorem Le.take {S : Sto} {p : Addr} {o : HO} (c : Cor B m S) (s : Sub m H) (hz : m.Z p = none) (h : H p = some o) : Sub (m.put p o) H := fun a u e => by
  by_cases ha : a = p
  · subst ha
    have e' : upd m.Z a o a = some u := e
    rw [upd_same] at e'
    cases e'
    exact h
  · have e' : upd m.Z p o a = some u := e
    rw [upd_ne ha] at e'
    exact s a u e'
end
abbrev En := List (Option D)
def EnR (B : Bas) (m : Mp) (en : En) (σ : St) : Prop := en.length = σ.length ∧ ∀ (i : Nat) (d : D), en[i]? = some (some d) → ∃ v, σ[i]? = some (some v) ∧ Rep B m d v
theorem EnR.mono {B : Bas} {m m' : Mp} {H H' : Hp} {en : En} {σ : St} (l : Le m H m' H') (h : EnR B m en σ) : EnR B m' en σ :=
  ⟨h.1, fun i d e => let ⟨v, a, b⟩ := h.2 i d e; ⟨v, a, b.mono l⟩⟩
theorem EnR.set {B : Bas} {m : Mp} {en : En} {σ : St} {d : D} {v : V} (i : Nat) (h : EnR B m en σ) (r : Rep B m d v) : EnR B m (en.set i (some d)) (σ.set i (some v)) := by
  refine ⟨by rw [List.length_set, List.length_set, h.1], fun j x e => ?_⟩
  by_cases hj : i = j
  · subst hj
    have hi : i < en.length := by
      have := (List.getElem?_eq_some_iff.mp e).1
      rwa [List.length_set] at this
    rw [List.getElem?_set_self hi] at e
    cases e
    exact ⟨v, by rw [List.getElem?_set_self (by rw [← h.1]; exact hi)], r⟩
  · rw [List.getElem?_set_ne hj] at e
    rw [List.getElem?_set_ne hj]
    exact h.2 j x e

/-! ### results -/
inductive Res (α : Type) where
  | ok (a : α) (S : Sto)
  | ex (c : Nat) (ns : List Str) (vs : List D) (S : Sto)
  | bad
def Res.bind {α β : Type} (r : Res α) (k : α → Sto → Res β) : Res β := match r with
  | .ok a S => k a S
  | .ex c ns vs S => .ex c ns vs S
  | .bad => .bad
@[simp] theorem Res.bind_ok {α β : Type} (a : α) (S : Sto) (k : α → Sto → Res β) : (Res.ok a S).bind k = k a S := rfl
@[simp] theorem Res.bind_ex {α β : Type} (c : Nat) (ns : List Str) (vs : List D) (S : Sto) (k : α → Sto → Res β) : (Res.ex c ns vs S : Res α).bind k = .ex c ns vs S := rfl
@[simp] theorem Res.bind_bad {α β : Type} (k : α → Sto → Res β) : (Res.bad : Res α).bind k = .bad := rfl
/-- an exception's own dict -/
def ExR (B : Bas) (m : Mp) (ns : List Str) (vs : List D) (dd : Option Addr) : Prop :=
  (ns = [] ∧ vs = [] ∧ dd = none) ∨ ∃ a us, dd = some a ∧ m.Z a = some (.xd (ns.zip us)) ∧ m.out a ∧ ns.length = us.length ∧ Reps B m vs us
def Post {α β : Type} (B : Bas) (R : Mp → α → β → Prop) (W : XK) (m : Mp) (H : Hp) (Q : β → Hp → Prop) (r : Res α) : Prop := match r with
  | .ok a S' => ∀ m' H' v, Le m H m' H' → Cor B m' S' → R m' a v → Q v H'
  | .ex c ns vs S' => ∀ m' H' dd, Le m H m' H' → Cor B m' S' → ExR B m' ns vs dd → W (.ref (B.cls c)) dd H'
  | .bad => False
section
variable {α β γ δ : Type} {B : Bas} {R : Mp → α → β → Prop} {R2 : Mp → γ → δ → Prop} {W : XK} {m m1 : Mp} {H H1 : Hp} {Q Q' : β → Hp → Prop} {r : Res α}
theorem Post.imp (h : Post B R W m H Q r) (f : ∀ v H', Q v H' → Q' v H') : Post B R W m H Q' r := by
  cases r with
  | ok a S => exact fun m' H' v l c x => f _ _ (h m' H' v l c x)
  | ex c ns vs S => exact h
  | bad => exact h
theorem Post.shift (l : Le m H m1 H1) (h : Post B R W m H Q r) : Post B R W m1 H1 Q r := by
  cases r with
  | ok a S => exact fun m' H' v l' c x => h m' H' v (l.trans l') c x
  | ex c ns vs S => exact fun m' H' dd l' c x => h m' H' dd (l.trans l') c x
  | bad => exact h
theorem Post.bind {Q2 : δ → Hp → Prop} {k : α → Sto → Res γ} (h : Post B R2 W m H Q2 (r.bind k)) :
    Post B R W m H (fun v H1 => ∃ a S m1, r = .ok a S ∧ Le m H m1 H1 ∧ Cor B m1 S ∧ R m1 a v ∧ Post B R2 W m1 H1 Q2 (k a S)) r := by
  cases r with
  | ok a S => exact fun m' H' v l c x => ⟨a, S, m', rfl, l, c, x, Post.shift l h⟩
  | ex c ns vs S => exact h
  | bad => exact h
end
/-! ### readings by data -/
abbrev ME := En → Sto → Res D
abbrev MT := En → Sto → Res Bool
abbrev MA := En → Sto → Res (List D)
/-- at the slots σ -/
abbrev at' (W : WX) (σ : St) : XK := fun c d H => W c d σ H
def RT : Mp → Bool → Bool → Prop := fun _ a b => a = b
def tE (B : Bas) (W : WX) (e : ME) : TE := fun σ H Q => ∃ m S en, Sub m H ∧ Cor B m S ∧ EnR B m en σ ∧ Post B (Rep B) (at' W σ) m H Q (e en S)
def tT (B : Bas) (W : WX) (e : MT) : TT := fun σ H Q => ∃ m S en, Sub m H ∧ Cor B m S ∧ EnR B m en σ ∧ Post B RT (at' W σ) m H Q (e en S)
def tA (B : Bas) (W : WX) (e : MA) : TA := fun σ H Q => ∃ m S en, Sub m H ∧ Cor B m S ∧ EnR B m en σ ∧ Post B (Reps B) (at' W σ) m H Q (e en S)
theorem PE.cut {X : Cx} {e : Expr} {t t' : TE} (h : PE X e t) (f : ∀ σ H Q, t' σ H Q → t σ H Q) : PE X e t' := ⟨fun pins s σ H Q I q => h.run pins s σ H Q I (f σ H Q q)⟩
theorem PT.cut {X : Cx} {e : Expr} {t t' : TT} (h : PT X e t) (f : ∀ σ H Q, t' σ H Q → t σ H Q) : PT X e t' := ⟨fun pins s σ H Q I q => h.run pins s σ H Q I (f σ H Q q)⟩
theorem PA.cut {X : Cx} {e : List Expr} {t t' : TA} (h : PA X e t) (f : ∀ σ H Q, t' σ H Q → t σ H Q) : PA X e t' := ⟨fun pos pins s σ H Q I q => h.run pos pins s σ H Q I (f σ H Q q)⟩
theorem PS.cut {X : Cx} {e : Stmt} {t t' : TS} (h : PS X e t) (f : ∀ D σ H, t' D σ H → t D σ H) : PS X e t' := ⟨fun pins s σ H D I q => h.run pins s σ H D I (f D σ H q)⟩
theorem PSs.cut {X : Cx} {e : List Stmt} {t t' : TS} (h : PSs X e t) (f : ∀ D σ H, t' D σ H → t D σ H) : PSs X e t' := ⟨fun pins s σ H D I q => h.run pins s σ H D I (f D σ H q)⟩
end G

set_option Elab.async false
set_option linter.all false
set_option maxRecDepth 100000
set_option maxHeartbeats 2000000
/-! G2: expressions -/
namespace G
open PySem L2
theorem Le.self {B : Bas} {m : Mp} {H : Hp} {S : Sto} (h : Sub m H) : Le m H m H := Le.refl h
/-! ### views -/
def seqT : D → Option (List D)
  | .tup ds => some ds
  | .ktp ds => some ds
  | _ => none
def seqL (S : Sto) : D → Option (List D)
  | .lst ds => some ds
  | .scr ds => some ds
  | .ref i => match S[i]? with
    | some (.lst ds) => some ds
    | _ => none
  | _ => none
/-- a list that stands plainly: no script -/
def plL (S : Sto) : D → Option (List D)
  | .lst ds => some ds
  | .ref i => match S[i]? with
    | some (.lst ds) => some ds
    | _ => none
  | _ => none
def dicOf (S : Sto) : D → Option (List D × List D)
  | .dic ks ds => some (ks, ds)
  | .ref i => match S[i]? with
    | some (.dic ks ds) => some (ks, ds)
    | _ => none
  | _ => none
def insOf (S : Sto) : D → Option (Nat × List Str × List D)
  | .ins c ns ds => some (c, ns, ds)
  | .ref i => match S[i]? with
    | some (.ins c ns ds) => some (c, ns, ds)
    | _ => none
  | _ => none
section
variable {B : Bas} {m m' : Mp} {H H' : Hp} {S : Sto}
theorem Reps.length : ∀ {ds : List D} {vs : List V}, Reps B m ds vs → ds.length = vs.length
  | [], _, h => by simp only [Reps] at h; rw [h]; rfl
  | d :: ds, _, h => by
    simp only [Reps] at h
    obtain ⟨v, r, rfl, _, q⟩ := h
    simp only [List.length_cons, Reps.length q]
theorem Reps.get : ∀ {ds : List D} {vs : List V} {i : Nat} {d : D}, Reps B m ds vs → ds[i]? = some d → ∃ v, vs[i]? = some v ∧ Rep B m d v
  | [], _, _, _, _, e => by simp at e
  | d :: ds, _, 0, x, h, e => by
    simp only [Reps] at h
    obtain ⟨v, r, rfl, p, q⟩ := h
    simp at e
    subst e
    exact ⟨v, rfl, p⟩
  | d :: ds, _, i + 1, x, h, e => by
    simp only [Reps] at h
    obtain ⟨v, r, rfl, p, q⟩ := h
    obtain ⟨w, a, b⟩ := Reps.get (i := i) (d := x) q (by simpa using e)
    exact ⟨w, by simpa using a, b⟩
theorem Reps.append : ∀ {ds es : List D} {vs us : List V}, Reps B m ds vs → Reps B m es us → Reps B m (ds ++ es) (vs ++ us)
  | [], es, vs, us, h, q => by
    simp only [Reps] at h
    subst h
    exact q
  | d :: ds, es, vs, us, h, q => by
    simp only [Reps] at h
    obtain ⟨v, r, rfl, p, t⟩ := h
    show Reps B m (d :: (ds ++ es)) (v :: (r ++ us))
    simp only [Reps]
    exact ⟨v, _, rfl, p, Reps.append t q⟩
theorem Reps.take : ∀ {ds : List D} {vs : List V} (n : Nat), Reps B m ds vs → Reps B m (ds.take n) (vs.take n)
  | [], vs, n, h => by
    simp only [Reps] at h
    subst h
    simp [Reps]
  | d :: ds, vs, 0, h => by simp [Reps]
  | d :: ds, vs, n + 1, h => by
    simp only [Reps] at h
    obtain ⟨v, r, rfl, p, t⟩ := h
    simp only [List.take_succ_cons, Reps]
    exact ⟨v, _, rfl, p, Reps.take n t⟩
theorem Reps.drop : ∀ {ds : List D} {vs : List V} (n : Nat), Reps B m ds vs → Reps B m (ds.drop n) (vs.drop n)
  | [], vs, n, h => by
    simp only [Reps] at h
    subst h
    simp [Reps]
  | d :: ds, vs, 0, h => h
  | d :: ds, vs, n + 1, h => by
    simp only [Reps] at h
    obtain ⟨v, r, rfl, p, t⟩ := h
    exact Reps.drop n t
theorem Reps.nil_iff {ds : List D} {vs : List V} (h : Reps B m ds vs) : vs = [] ↔ ds = [] := by
  have := h.length
  constructor
  · intro e; subst e; simpa using this
  · intro e; subst e
    simp only [List.length_nil] at this
    exact List.eq_nil_of_length_eq_zero this.symm
theorem Reps.cons {d : D} {ds : List D} {v : V} {vs : List V} (a : Rep B m d v) (b : Reps B m ds vs) : Reps B m (d :: ds) (v :: vs) := by
  simp only [Reps]
  exact ⟨v, vs, rfl, a, b⟩
theorem Reps.nil : Reps B m [] [] := by simp only [Reps]
theorem repT {d : D} {ds : List D} {v : V} (s : Sub m H) (r : Rep B m d v) (e : seqT d = some ds) : ∃ a vs, v = .ref a ∧ SqT B.K H a vs ∧ Reps B m ds vs := by
  cases d <;> simp only [seqT] at e <;> try (cases e)
  · simp only [Rep] at r
    obtain ⟨a, vs, e, t, q⟩ := r
    exact ⟨a, vs, e, t.sq s, q⟩
  · simp only [Rep] at r
    obtain ⟨a, vs, e, t, q⟩ := r
    exact ⟨a, vs, e, t.sq, q⟩
theorem repL {d : D} {ds : List D} {v : V} (s : Sub m H) (c : Cor B m S) (r : Rep B m d v) (e : seqL S d = some ds) : ∃ a vs, v = .ref a ∧ SqL B.K H a vs ∧ Reps B m ds vs := by
  cases d <;> simp only [seqL] at e <;> try (cases e)
  · simp only [Rep] at r
    obtain ⟨a, vs, e, t, q⟩ := r
    exact ⟨a, vs, e, t.sq s, q⟩
  · simp only [Rep] at r
    obtain ⟨hi, rfl⟩ := r
    split at e
    · rename_i i x ys hx
      cases e
      obtain ⟨vs, z, q⟩ := c.ob _ _ hx
      exact ⟨_, vs, rfl, .inl (.inl (s _ _ z)), q⟩
    · cases e
  · simp only [Rep] at r
    obtain ⟨a, vs, e, t, q⟩ := r
    exact ⟨a, vs, e, t.sq s, q⟩
theorem repP {d : D} {ds : List D} {v : V} (s : Sub m H) (c : Cor B m S) (r : Rep B m d v) (e : plL S d = some ds) : ∃ a vs, v = .ref a ∧ H a = some (.lst vs) ∧ Reps B m ds vs := by
  cases d <;> simp only [plL] at e <;> try (cases e)
  · simp only [Rep] at r
    obtain ⟨a, vs, e, t, q⟩ := r
    exact ⟨a, vs, e, s _ _ t.1, q⟩
  · simp only [Rep] at r
    obtain ⟨hi, rfl⟩ := r
    split at e
    · rename_i i x ys hx
      cases e
      obtain ⟨vs, z, q⟩ := c.ob _ _ hx
      exact ⟨_, vs, rfl, s _ _ z, q⟩
    · cases e
theorem repD {d : D} {ks ds : List D} {v : V} (s : Sub m H) (c : Cor B m S) (r : Rep B m d v) (e : dicOf S d = some (ks, ds)) : ∃ a vs, v = .ref a ∧ DicAt (H a) ks vs ∧ Reps B m ds vs := by
  have lift : ∀ {a : Addr} {vs : List V}, DicAt (m.Z a) ks vs → DicAt (H a) ks vs := fun {a vs} h => by
    obtain ⟨u, hu⟩ := h.some
    rw [s _ _ hu, ← hu]
    exact h
  cases d <;> simp only [dicOf] at e <;> try (cases e)
  · simp only [Rep] at r
    obtain ⟨a, vs, e, o, t, q⟩ := r
    exact ⟨a, vs, e, lift t, q⟩
  · simp only [Rep] at r
    obtain ⟨hi, rfl⟩ := r
    split at e
    · rename_i i x ys zs hx
      cases e
      obtain ⟨vs, z, q⟩ := c.ob _ _ hx
      exact ⟨_, vs, rfl, lift z, q⟩
    · cases e
theorem repI {d : D} {c' : Nat} {ns : List Str} {ds : List D} {v : V} (s : Sub m H) (c : Cor B m S) (r : Rep B m d v) (e : insOf S d = some (c', ns, ds)) :
    ∃ a dx vs, v = .ref a ∧ H a = some (.ins (B.cls c') dx (ns.zip vs)) ∧ ns.length = vs.length ∧ Reps B m ds vs := by
  cases d <;> simp only [insOf] at e <;> try (cases e)
  · simp only [Rep] at r
    obtain ⟨a, dx, vs, e, o, t, n, q⟩ := r
    exact ⟨a, dx, vs, e, s _ _ t, n, q⟩
  · simp only [Rep] at r
    obtain ⟨hi, rfl⟩ := r
    split at e
    · rename_i i x y ys zs hx
      cases e
      obtain ⟨dx, vs, z, n, q⟩ := c.ob _ _ hx
      exact ⟨_, dx, vs, rfl, s _ _ z, n, q⟩
    · cases e
end
/-! ### data for the library -/
mutual
def pd : D → Option PyData
  | .non => some .none
  | .bl b => some (.bool b)
  | .int i => some (.int i)
  | .str x => some (.str x)
  | .tup ds => (pds ds).map .tuple
  | .ktp ds => (pds ds).map .tuple
  | .lst ds => (pds ds).map .list
  | .scr ds => (pds ds).map .list
  | _ => none
def pds : List D → Option (List PyData)
  | [] => some []
  | d :: r => match pd d, pds r with
    | some p, some q => some (p :: q)
    | _, _ => none
end
def pdv (S : Sto) (d : D) : Option PyData := match seqL S d with
  | some ds => (pds ds).map .list
  | none => pd d
section
variable {B : Bas} {m : Mp} {H : Hp} {S : Sto}
mutual
theorem Rep.dp (s : Sub m H) : ∀ {d : D} {v : V} {p : PyData}, Rep B m d v → pd d = some p → Dp B.K H v p
  | .non, v, p, r, e => by simp only [Rep] at r; simp only [pd] at e; cases e; subst r; exact .non
  | .bl b, v, p, r, e => by simp only [Rep] at r; simp only [pd] at e; cases e; subst r; exact .bl b
  | .int i, v, p, r, e => by simp only [Rep] at r; simp only [pd] at e; cases e; subst r; exact .int i
  | .str x, v, p, r, e => by simp only [Rep] at r; simp only [pd] at e; cases e; subst r; exact .str x
  | .tup ds, v, p, r, e => by
    simp only [Rep] at r
    simp only [pd] at e
    obtain ⟨a, vs, rfl, t, q⟩ := r
    cases h : pds ds with
    | none => rw [h] at e; cases e
    | some ps => rw [h] at e; cases e; exact .tup (t.sq s) (Reps.dp s q h)
  | .ktp ds, v, p, r, e => by
    simp only [Rep] at r
    simp only [pd] at e
    obtain ⟨a, vs, rfl, t, q⟩ := r
    cases h : pds ds with
    | none => rw [h] at e; cases e
    | some ps => rw [h] at e; cases e; exact .tup t.sq (Reps.dp s q h)
  | .lst ds, v, p, r, e => by
    simp only [Rep] at r
    simp only [pd] at e
    obtain ⟨a, vs, rfl, t, q⟩ := r
    cases h : pds ds with
    | none => rw [h] at e; cases e
    | some ps => rw [h] at e; cases e; exact .lst (t.sq s) (Reps.dp s q h)
  | .scr ds, v, p, r, e => by
    simp only [Rep] at r
    simp only [pd] at e
    obtain ⟨a, vs, rfl, t, q⟩ := r
    cases h : pds ds with
    | none => rw [h] at e; cases e
    | some ps => rw [h] at e; cases e; exact .lst (t.sq s) (Reps.dp s q h)
  | .dic _ _, v, p, r, e => by simp [pd] at e
  | .ins _ _ _, v, p, r, e => by simp [pd] at e
  | .ref _, v, p, r, e => by simp [pd] at e
  | .fn _, v, p, r, e => by simp [pd] at e
  | .ty _, v, p, r, e => by simp [pd] at e
  | .cl _, v, p, r, e => by simp [pd] at e
theorem Reps.dp (s : Sub m H) : ∀ {ds : List D} {vs : List V} {ps : List PyData}, Reps B m ds vs → pds ds = some ps → DpAll B.K H vs ps
  | [], vs, ps, r, e => by simp only [Reps] at r; simp only [pds] at e; cases e; subst r; exact .nil
  | d :: ds, vs, ps, r, e => by
    simp only [Reps] at r
    obtain ⟨v, t, rfl, a, b⟩ := r
    simp only [pds] at e
    cases h1 : pd d with
    | none => rw [h1] at e; cases e
    | some p =>
      cases h2 : pds ds with
      | none => rw [h1, h2] at e; cases e
      | some q =>
        rw [h1, h2] at e
        cases e
        exact .cons (Rep.dp s a h1) (Reps.dp s b h2)
end
theorem Rep.dpv {d : D} {v : V} {p : PyData} (s : Sub m H) (c : Cor B m S) (r : Rep B m d v) (e : pdv S d = some p) : Dp B.K H v p := by
  unfold pdv at e
  cases h : seqL S d with
  | none => rw [h] at e; exact r.dp s e
  | some ds =>
    rw [h] at e
    obtain ⟨a, vs, rfl, q, t⟩ := repL s c r h
    cases h2 : pds ds with
    | none => simp only [h2] at e; cases e
    | some ps => simp only [h2] at e; cases e; exact .lst q (t.dp s h2)
end
/-! ### names, constants -/
def mVar (i : Nat) : ME := fun en S => match en[i]? with
  | some (some d) => .ok d S
  | _ => .bad
def mC (d : D) : ME := fun _ S => .ok d S
section
variable {X : Cx} {B : Bas} {W : WX} {e : Expr}
theorem de_var {i : Nat} (h : PE X e (tVar i)) : PE X e (tE B W (mVar i)) := PE.cut h fun σ H Q ⟨m, S, en, s, c, r, p⟩ => by
  unfold mVar at p
  split at p
  · rename_i d hd
    obtain ⟨v, hv, rv⟩ := r.2 i d hd
    exact ⟨v, hv, p m H v (Le.refl s) c rv⟩
  · exact p.elim
theorem de_c {d : D} {v : V} (h : PE X e (tC v)) (r : ∀ m, Rep B m d v) : PE X e (tE B W (mC d)) := PE.cut h fun σ H Q ⟨m, S, en, s, c, _, p⟩ => p m H v (Le.refl s) c (r m)
theorem rp_int {B : Bas} {i : Int} (m : Mp) : Rep B m (.int i) (.int i) := by simp only [Rep]
theorem rp_str {B : Bas} {x : Str} (m : Mp) : Rep B m (.str x) (.str x) := by simp only [Rep]
theorem rp_bl {B : Bas} {b : Bool} (m : Mp) : Rep B m (.bl b) (.bl b) := by simp only [Rep]
theorem rp_non {B : Bas} (m : Mp) : Rep B m .non .non := by simp only [Rep]
theorem de_int {i j pos} : PE X (.Constant (.int i) j pos) (tE B W (mC (.int i))) := de_c pe_int rp_int
theorem de_str {x j pos} : PE X (.Constant (.str x) j pos) (tE B W (mC (.str x))) := de_c pe_str rp_str
theorem de_bl {b j pos} : PE X (.Constant (.bool b) j pos) (tE B W (mC (.bl b))) := de_c pe_bl rp_bl
theorem de_non {j pos} : PE X (.Constant .none j pos) (tE B W (mC .non)) := de_c pe_non rp_non
end
/-! ### operators -/
def mOp (g : Sto → D → D → Option D) (a b : ME) : ME := fun en S => (a en S).bind fun x S1 => (b en S1).bind fun y S2 => match g S2 x y with
  | some d => .ok d S2
  | none => .bad
def Op2 (B : Bas) (r : R2) (g : Sto → D → D → Option D) : Prop := ∀ (m : Mp) (S : Sto) (H : Hp) (x y : V) (d1 d2 d : D), Sub m H → Cor B m S → Rep B m d1 x → Rep B m d2 y → g S d1 d2 = some d →
  ∀ Q : VK, (∀ m' H' v, Le m H m' H' → Cor B m' S → Rep B m' d v → Q v H') → r x y H Q
def Op1 (B : Bas) (r : V → Hp → VK → Prop) (g : Sto → D → Option D) : Prop := ∀ (m : Mp) (S : Sto) (H : Hp) (x : V) (d1 d : D), Sub m H → Cor B m S → Rep B m d1 x → g S d1 = some d →
  ∀ Q : VK, (∀ m' H' v, Le m H m' H' → Cor B m' S → Rep B m' d v → Q v H') → r x H Q
theorem Op2.or {B : Bas} {r r' : R2} {g g' : Sto → D → D → Option D} (h : Op2 B r g) (h' : Op2 B r' g') : Op2 B (fun x y H Q => r x y H Q ∨ r' x y H Q) (fun S a b => match g S a b with
    | some d => some d
    | none => g' S a b) := fun m S H x y d1 d2 d s c r1 r2 e Q q => by
  cases h1 : g S d1 d2 with
  | some z => simp only [h1] at e; cases e; exact .inl (h m S H x y d1 d2 _ s c r1 r2 h1 Q q)
  | none => simp only [h1] at e; exact .inr (h' m S H x y d1 d2 d s c r1 r2 e Q q)
theorem OpR.or {X : Cx} {f : Value → Value → Sem Value} {r r' : R2} (h : OpR X f r) (h' : OpR X f r') : OpR X f (fun x y H Q => r x y H Q ∨ r' x y H Q) := by
  intro pins s σ H x y v u Q I rx ry q
  rcases q with q | q
  · exact h pins s σ H x y v u Q I rx ry q
  · exact h' pins s σ H x y v u Q I rx ry q
theorem tOp_of {B : Bas} {W : WX} {r : R2} {g : Sto → D → D → Option D} {a b : ME} (h : Op2 B r g) (σ : St) (H : Hp) (Q : VK) (t : tE B W (mOp g a b) σ H Q) : tOp r (tE B W a) (tE B W b) σ H Q := by
  obtain ⟨m, S, en, s, c, er, p⟩ := t
  refine ⟨m, S, en, s, c, er, (Post.bind p).imp ?_⟩
  rintro x H1 ⟨d1, S1, m1, _, l1, c1, r1, p1⟩
  refine ⟨m1, S1, en, l1.sub, c1, er.mono l1, (Post.bind p1).imp ?_⟩
  rintro y H2 ⟨d2, S2, m2, _, l2, c2, r2, p2⟩
  cases e : g S2 d1 d2 with
  | none => rw [e] at p2; exact p2.elim
  | some d => rw [e] at p2; exact h m2 S2 H2 x y d1 d2 d l2.sub c2 (r1.mono l2) r2 e Q p2
section
variable {X : Cx} {B : Bas} {W : WX} {e a b : Expr} {pos : Pos} {ma mb : ME} {r : R2} {g : Sto → D → D → Option D}
theorem de_op {op : Operator} (ho : OpR X (binaryOp op) r) (h : Op2 B r g) (ha : PE X a (tE B W ma)) (hb : PE X b (tE B W mb)) : PE X (.BinOp a op b pos) (tE B W (mOp g ma mb)) :=
  PE.cut (pe_op ho ha hb) (tOp_of h)
theorem de_cmp {op : CmpOp} (ho : OpR X (compareOp op) r) (h : Op2 B r g) (ha : PE X a (tE B W ma)) (hb : PE X b (tE B W mb)) (hm : behindInMarks op b = false) : PE X (.Compare a [op] [b] pos) (tE B W (mOp g ma mb)) :=
  PE.cut (pe_cmpR ho ha hb hm) (tOp_of h)
/-- a value as a test -/
def mTest (a : ME) : MT := fun en S => (a en S).bind fun x S1 => match x with
  | .bl k => .ok k S1
  | _ => .bad
theorem tTest_of (σ : St) (H : Hp) (Q : Bool → Hp → Prop) (t : tT B W (mTest ma) σ H Q) : tTest (tE B W ma) σ H Q := by
  obtain ⟨m, S, en, s, c, er, p⟩ := t
  refine ⟨m, S, en, s, c, er, (Post.bind p).imp ?_⟩
  rintro x H1 ⟨d1, S1, m1, _, l1, c1, r1, p1⟩
  cases d1 with
  | bl k =>
    simp only [Rep] at r1
    exact ⟨k, r1, p1 m1 H1 k (Le.refl l1.sub) c1 rfl⟩
  | _ => exact p1.elim
theorem tOp_test {r : R2} (σ : St) (H : Hp) (Q : Bool → Hp → Prop) {ta tb : TE} : tTest (tOp r ta tb) σ H Q = tOp r ta tb σ H (fun x H' => ∃ k, x = .bl k ∧ Q k H') := rfl
theorem dt_cmp {op : CmpOp} (ho : OpR X (compareOp op) r) (h : Op2 B r g) (ha : PE X a (tE B W ma)) (hb : PE X b (tE B W mb)) (hm : behindInMarks op b = false) : PT X (.Compare a [op] [b] pos) (tT B W (mTest (mOp g ma mb))) :=
  PT.cut (pt_cmpR ho ha hb hm) fun σ H Q t => tOp_of (W := W) h σ H _ (tTest_of σ H Q t)
theorem dt_val (h : PE X e (tE B W ma)) (he : ∀ whole, isTrue e X.env whole = (do let v ← whole; standAt e.pos; holding [v] (truthy v)) := by intro _; rfl) : PT X e (tT B W (mTest ma)) :=
  PT.cut (pt_val h he) fun σ H Q t => tTest_of σ H Q t
end
/-! ### and, or, not, if else -/
def mAnd (a b : MT) : MT := fun en S => (a en S).bind fun k S1 => match k with
  | true => b en S1
  | false => .ok false S1
def mOr (a b : MT) : MT := fun en S => (a en S).bind fun k S1 => match k with
  | true => .ok true S1
  | false => b en S1
def mNot (a : MT) : MT := fun en S => (a en S).bind fun k S1 => .ok (!k) S1
def mIf (t : MT) (a b : ME) : ME := fun en S => (t en S).bind fun k S1 => match k with
  | true => a en S1
  | false => b en S1
/-- a test as a value -/
def mOfT (t : MT) : ME := fun en S => (t en S).bind fun k S1 => .ok (.bl k) S1
section
variable {X : Cx} {B : Bas} {W : WX} {e a b : Expr} {es : List Expr} {pos : Pos} {ta tb : MT} {ma mb : ME}
theorem dw_and1 (h : PT X a (tT B W ta)) : PW X (.BoolOp .And [a] pos) (tT B W ta) := pw_and1 h
theorem dw_or1 (h : PT X a (tT B W ta)) : PW X (.BoolOp .Or [a] pos) (tT B W ta) := pw_or1 h
theorem PW.cut {t t' : TT} (h : PW X e t) (f : ∀ σ H Q, t' σ H Q → t σ H Q) : PW X e t' := ⟨fun whole pins s σ H Q I q => h.run whole pins s σ H Q I (f σ H Q q)⟩
theorem dw_and (h : PT X a (tT B W ta)) (h2 : PW X (.BoolOp .And (b :: es) pos) (tT B W tb)) : PW X (.BoolOp .And (a :: b :: es) pos) (tT B W (mAnd ta tb)) :=
  PW.cut (pw_and h h2) fun σ H Q ⟨m, S, en, s, c, er, p⟩ => ⟨m, S, en, s, c, er, (Post.bind p).imp (by
    rintro k H1 ⟨d1, S1, m1, _, l1, c1, r1, p1⟩
    cases r1
    cases k with
    | true => exact iteT ⟨m1, S1, en, l1.sub, c1, er.mono l1, p1⟩
    | false => exact iteF (p1 m1 H1 false (Le.refl l1.sub) c1 rfl))⟩
theorem dw_or (h : PT X a (tT B W ta)) (h2 : PW X (.BoolOp .Or (b :: es) pos) (tT B W tb)) : PW X (.BoolOp .Or (a :: b :: es) pos) (tT B W (mOr ta tb)) :=
  PW.cut (pw_or h h2) fun σ H Q ⟨m, S, en, s, c, er, p⟩ => ⟨m, S, en, s, c, er, (Post.bind p).imp (by
    rintro k H1 ⟨d1, S1, m1, _, l1, c1, r1, p1⟩
    cases r1
    cases k with
    | true => exact iteT (p1 m1 H1 true (Le.refl l1.sub) c1 rfl)
    | false => exact iteF ⟨m1, S1, en, l1.sub, c1, er.mono l1, p1⟩)⟩
theorem dt_not (h : PT X a (tT B W ta)) : PT X (.UnaryOp .Not a pos) (tT B W (mNot ta)) :=
  PT.cut (pt_not h) fun σ H Q ⟨m, S, en, s, c, er, p⟩ => ⟨m, S, en, s, c, er, (Post.bind p).imp (by
    rintro k H1 ⟨d1, S1, m1, _, l1, c1, r1, p1⟩
    cases r1
    exact p1 m1 H1 _ (Le.refl l1.sub) c1 rfl)⟩
theorem de_if {c : Expr} (hc : PT X c (tT B W ta)) (ha : PE X a (tE B W ma)) (hb : PE X b (tE B W mb)) : PE X (.IfExp c a b pos) (tE B W (mIf ta ma mb)) :=
  PE.cut (pe_ifExp hc ha hb) fun σ H Q ⟨m, S, en, s, c, er, p⟩ => ⟨m, S, en, s, c, er, (Post.bind p).imp (by
    rintro k H1 ⟨d1, S1, m1, _, l1, c1, r1, p1⟩
    cases r1
    cases k with
    | true => exact iteT ⟨m1, S1, en, l1.sub, c1, er.mono l1, p1⟩
    | false => exact iteF ⟨m1, S1, en, l1.sub, c1, er.mono l1, p1⟩)⟩
/-- and, or, not as values: all but the last one bools -/
def mAndV (a b : ME) : ME := fun en S => (a en S).bind fun x S1 => match x with
  | .bl true => b en S1
  | .bl false => .ok (.bl false) S1
  | _ => .bad
def mOrV (a b : ME) : ME := fun en S => (a en S).bind fun x S1 => match x with
  | .bl true => .ok (.bl true) S1
  | .bl false => b en S1
  | _ => .bad
def mNotV (a : ME) : ME := fun en S => (a en S).bind fun x S1 => match x with
  | .bl k => .ok (.bl (!k)) S1
  | _ => .bad
theorem de_one {op} (h : PE X a (tE B W ma)) : PE X (.BoolOp op [a] pos) (tE B W ma) := pe_one h
theorem de_and (h : PE X a (tE B W ma)) (h2 : PE X (.BoolOp .And (b :: es) pos) (tE B W mb)) : PE X (.BoolOp .And (a :: b :: es) pos) (tE B W (mAndV ma mb)) :=
  PE.cut (pe_and h h2) fun σ H Q ⟨m, S, en, s, c, er, p⟩ => ⟨m, S, en, s, c, er, (Post.bind p).imp (by
    rintro x H1 ⟨d1, S1, m1, _, l1, c1, r1, p1⟩
    cases d1 with
    | bl k =>
      simp only [Rep] at r1
      cases k with
      | true => exact ⟨true, r1, iteT ⟨m1, S1, en, l1.sub, c1, er.mono l1, p1⟩⟩
      | false => exact ⟨false, r1, iteF (p1 m1 H1 _ (Le.refl l1.sub) c1 (rp_bl _))⟩
    | _ => exact p1.elim)⟩
theorem de_or (h : PE X a (tE B W ma)) (h2 : PE X (.BoolOp .Or (b :: es) pos) (tE B W mb)) : PE X (.BoolOp .Or (a :: b :: es) pos) (tE B W (mOrV ma mb)) :=
  PE.cut (pe_or h h2) fun σ H Q ⟨m, S, en, s, c, er, p⟩ => ⟨m, S, en, s, c, er, (Post.bind p).imp (by
    rintro x H1 ⟨d1, S1, m1, _, l1, c1, r1, p1⟩
    cases d1 with
    | bl k =>
      simp only [Rep] at r1
      cases k with
      | true => exact ⟨true, r1, iteT (p1 m1 H1 _ (Le.refl l1.sub) c1 (rp_bl _))⟩
      | false => exact ⟨false, r1, iteF ⟨m1, S1, en, l1.sub, c1, er.mono l1, p1⟩⟩
    | _ => exact p1.elim)⟩
theorem de_not (h : PE X a (tE B W ma)) : PE X (.UnaryOp .Not a pos) (tE B W (mNotV ma)) :=
  PE.cut (pe_not h) fun σ H Q ⟨m, S, en, s, c, er, p⟩ => ⟨m, S, en, s, c, er, (Post.bind p).imp (by
    rintro x H1 ⟨d1, S1, m1, _, l1, c1, r1, p1⟩
    cases d1 with
    | bl k =>
      simp only [Rep] at r1
      exact ⟨k, r1, p1 m1 H1 _ (Le.refl l1.sub) c1 (rp_bl _)⟩
    | _ => exact p1.elim)⟩
end
/-! ### lists of expressions; displays; calls of built-ins -/
def aNil : MA := fun _ S => .ok [] S
def aCons (a : ME) (r : MA) : MA := fun en S => (a en S).bind fun x S1 => (r en S1).bind fun xs S2 => .ok (x :: xs) S2
def mTup (r : MA) : ME := fun en S => (r en S).bind fun xs S1 => if xs.length ≤ sizeLine then .ok (.tup xs) S1 else .bad
def mLst (r : MA) : ME := fun en S => (r en S).bind fun xs S1 => if xs.length ≤ sizeLine then .ok (.lst xs) S1 else .bad
/-- a new list in the store -/
def mNew (r : MA) : ME := fun en S => (r en S).bind fun xs S1 => if xs.length ≤ sizeLine then .ok (.ref S1.length) (S1 ++ [.lst xs]) else .bad
section
variable {B : Bas} {m : Mp} {H : Hp} {S : Sto}
theorem rp_tup {p : Addr} {ds : List D} {vs : List V} (c : Cor B m S) (s : Sub m H) (h : H p = none) (r : Reps B m ds vs) : Rep B (m.put p (.tup vs)) (.tup ds) (.ref p) := by
  simp only [Rep]
  exact ⟨p, vs, rfl, ⟨upd_same, c.out_of (s.none h)⟩, r.mono (Le.new c s h)⟩
theorem rp_lst {p : Addr} {ds : List D} {vs : List V} (c : Cor B m S) (s : Sub m H) (h : H p = none) (r : Reps B m ds vs) : Rep B (m.put p (.lst vs)) (.lst ds) (.ref p) := by
  simp only [Rep]
  exact ⟨p, vs, rfl, ⟨upd_same, c.out_of (s.none h)⟩, r.mono (Le.new c s h)⟩
/-- a new object in the store -/
def Mp.add (m : Mp) (p : Addr) (o : HO) : Mp := { mu := fun i => if i = m.n then p else m.mu i, n := m.n + 1, Z := upd m.Z p o }
theorem Mp.add_mu {p : Addr} {o : HO} {i : Nat} (h : i < m.n) : (m.add p o).mu i = m.mu i := by
  show (if i = m.n then p else m.mu i) = _
  rw [if_neg (Nat.ne_of_lt h)]
theorem Mp.add_last {p : Addr} {o : HO} : (m.add p o).mu m.n = p := by
  show (if m.n = m.n then p else _) = _
  rw [if_pos rfl]
theorem Le.add {p : Addr} {o : HO} (c : Cor B m S) (s : Sub m H) (h : H p = none) : Le m H (m.add p o) (upd H p o) where
  le := Nat.le_succ _
  mu := fun i hi => Mp.add_mu hi
  keep := fun a u e q => by
    have ne : a ≠ p := ne_of_none e (s.none h)
    refine ⟨by show upd m.Z p o a = _; rw [upd_ne ne]; exact e, fun i hi => ?_⟩
    rcases Nat.lt_succ_iff_lt_or_eq.mp (show i < m.n + 1 from hi) with z | z
    · rw [Mp.add_mu z]; exact q i z
    · rw [z, Mp.add_last]; exact ne.symm
  fr := (Le.new (o := o) c s h).fr
  sub := (Le.new (o := o) c s h).sub
theorem Cor.add {p : Addr} {o : HO} {b : Ob} (c : Cor B m S) (s : Sub m H) (h : H p = none) (r : ObR B (m.add p o) p b) : Cor B (m.add p o) (S ++ [b]) where
  n := by
    rw [List.length_append, List.length_singleton, ← c.n]
    rfl
  ob := fun i x e => by
    by_cases hi : i < S.length
    · rw [List.getElem?_append_left hi] at e
      have hm : i < m.n := by rw [c.n]; exact hi
      rw [Mp.add_mu hm]
      refine (c.ob i x e).mono (Le.add (o := o) c s h) ?_
      obtain ⟨u, hu⟩ := c.at hm
      show upd m.Z p o (m.mu i) = _
      rw [upd_ne (ne_of_none hu (s.none h))]
    · have hi' : S.length ≤ i := Nat.le_of_not_lt hi
      rw [List.getElem?_append_right hi'] at e
      have z : i - S.length = 0 := by
        have := (List.getElem?_eq_some_iff.mp e).1
        simp only [List.length_singleton] at this
        omega
      have hin : i = m.n := by rw [c.n]; omega
      rw [z] at e
      cases e
      rw [hin, Mp.add_last]
      exact r
  inj := fun i j hi hj e => by
    have out := c.out_of (s.none h)
    rcases Nat.lt_succ_iff_lt_or_eq.mp (show i < m.n + 1 from hi) with z | z <;> rcases Nat.lt_succ_iff_lt_or_eq.mp (show j < m.n + 1 from hj) with y | y
    · rw [Mp.add_mu z, Mp.add_mu y] at e; exact c.inj i j z y e
    · rw [Mp.add_mu z, y, Mp.add_last] at e; exact absurd e (out i z)
    · rw [Mp.add_mu y, z, Mp.add_last] at e; exact absurd e.symm (out j y)
    · rw [z, y]
theorem rp_ref {p : Addr} {o : HO} (c : Cor B m S) : Rep B (m.add p o) (.ref S.length) (.ref p) := by
  simp only [Rep]
  refine ⟨by rw [← c.n]; exact Nat.lt_succ_self _, ?_⟩
  rw [← c.n, Mp.add_last]
end
section
variable {X : Cx} {B : Bas} {W : WX} {e : Expr} {es : List Expr} {pos : Pos} {ma : ME} {mr : MA}
theorem da_nil : PA X [] (tA B W aNil) := PA.cut pa_nil fun σ H Q ⟨m, S, en, s, c, er, p⟩ => p m H [] (Le.refl s) c Reps.nil
theorem tCons_of (σ : St) (H : Hp) (Q : List V → Hp → Prop) (t : tA B W (aCons ma mr) σ H Q) : tCons (tE B W ma) (tA B W mr) σ H Q := by
  obtain ⟨m, S, en, s, c, er, p⟩ := t
  refine ⟨m, S, en, s, c, er, (Post.bind p).imp ?_⟩
  rintro x H1 ⟨d1, S1, m1, _, l1, c1, r1, p1⟩
  refine ⟨m1, S1, en, l1.sub, c1, er.mono l1, (Post.bind p1).imp ?_⟩
  rintro xs H2 ⟨ds, S2, m2, _, l2, c2, r2, p2⟩
  exact p2 m2 H2 _ (Le.refl l2.sub) c2 (Reps.cons (r1.mono l2) r2)
theorem da_cons (ha : PE X e (tE B W ma)) (hr : PA X es (tA B W mr)) (he : starEach (e :: es) X.env = (false, eval e X.env) :: starEach es X.env := by rfl) : PA X (e :: es) (tA B W (aCons ma mr)) :=
  PA.cut (pa_cons ha hr he) tCons_of
theorem tTup_of (σ : St) (H : Hp) (Q : VK) (t : tE B W (mTup mr) σ H Q) : tTup (tA B W mr) σ H Q := by
  obtain ⟨m, S, en, s, c, er, p⟩ := t
  refine ⟨m, S, en, s, c, er, (Post.bind p).imp ?_⟩
  rintro xs H1 ⟨ds, S1, m1, _, l1, c1, r1, p1⟩
  split at p1
  · rename_i hl
    exact ⟨by rw [← r1.length]; exact hl, fun q hq => p1 _ _ _ (Le.new c1 l1.sub hq) (Cor.new c1 l1.sub hq) (rp_tup c1 l1.sub hq r1)⟩
  · exact p1.elim
theorem tLst_of (σ : St) (H : Hp) (Q : VK) (t : tE B W (mLst mr) σ H Q) : tLst (tA B W mr) σ H Q := by
  obtain ⟨m, S, en, s, c, er, p⟩ := t
  refine ⟨m, S, en, s, c, er, (Post.bind p).imp ?_⟩
  rintro xs H1 ⟨ds, S1, m1, _, l1, c1, r1, p1⟩
  split at p1
  · rename_i hl
    exact ⟨by rw [← r1.length]; exact hl, fun q hq => p1 _ _ _ (Le.new c1 l1.sub hq) (Cor.new c1 l1.sub hq) (rp_lst c1 l1.sub hq r1)⟩
  · exact p1.elim
theorem tNew_of (σ : St) (H : Hp) (Q : VK) (t : tE B W (mNew mr) σ H Q) : tLst (tA B W mr) σ H Q := by
  obtain ⟨m, S, en, s, c, er, p⟩ := t
  refine ⟨m, S, en, s, c, er, (Post.bind p).imp ?_⟩
  rintro xs H1 ⟨ds, S1, m1, _, l1, c1, r1, p1⟩
  split at p1
  · rename_i hl
    refine ⟨by rw [← r1.length]; exact hl, fun q hq => p1 _ _ _ (Le.add c1 l1.sub hq) (Cor.add c1 l1.sub hq ⟨xs, upd_same, r1.mono (Le.add c1 l1.sub hq)⟩) (rp_ref c1)⟩
  · exact p1.elim
/-- a call of a built-in: by the arguments' data -/
def mCB (g : Sto → List D → Option D) (r : MA) : ME := fun en S => (r en S).bind fun xs S1 => match g S1 xs with
  | some d => .ok d S1
  | none => .bad
def OpN (B : Bas) (r : List V → Hp → VK → Prop) (g : Sto → List D → Option D) : Prop := ∀ (m : Mp) (S : Sto) (H : Hp) (xs : List V) (ds : List D) (d : D), Sub m H → Cor B m S → Reps B m ds xs → g S ds = some d →
  ∀ Q : VK, (∀ m' H' v, Le m H m' H' → Cor B m' S → Rep B m' d v → Q v H') → r xs H Q
theorem tCB_of {r : List V → Hp → VK → Prop} {g : Sto → List D → Option D} (h : OpN B r g) (σ : St) (H : Hp) (Q : VK) (t : tE B W (mCB g mr) σ H Q) : tCB r (tA B W mr) σ H Q := by
  obtain ⟨m, S, en, s, c, er, p⟩ := t
  refine ⟨m, S, en, s, c, er, (Post.bind p).imp ?_⟩
  rintro xs H1 ⟨ds, S1, m1, _, l1, c1, r1, p1⟩
  cases e : g S1 ds with
  | none => rw [e] at p1; exact p1.elim
  | some d => rw [e] at p1; exact h m1 S1 H1 xs ds d l1.sub c1 r1 e Q p1
end
end G

set_option Elab.async false
set_option linter.all false
set_option maxRecDepth 100000
set_option maxHeartbeats 2000000
/-! G3: statements, loops, defs -/
namespace G
open PySem L2
inductive Fl where
  | nx (en : En) | rt (d : D) | bk (en : En) | ct (en : En)
inductive FlV where
  | nx (σ : St) | rt (v : V) | bk (σ : St) | ct (σ : St)
def RFl (B : Bas) (m : Mp) : Fl → FlV → Prop
  | .nx en, .nx σ => EnR B m en σ
  | .rt d, .rt v => Rep B m d v
  | .bk en, .bk σ => EnR B m en σ
  | .ct en, .ct σ => EnR B m en σ
  | _, _ => False
def qOf (D : Ends) : FlV → Hp → Prop
  | .nx σ, H => D.nx σ H
  | .rt v, H => D.rt v H
  | .bk σ, H => D.bk σ H
  | .ct σ, H => D.ct σ H
abbrev MS := En → Sto → Res Fl
def tS (B : Bas) (W : WX) (f : MS) : TS := fun D σ H => ∃ m S en, Sub m H ∧ Cor B m S ∧ EnR B m en σ ∧ Post B (RFl B) (at' W σ) m H (qOf D) (f en S)
/-- the wish does not look at the slots -/
def WI (W : WX) : Prop := ∀ c d σ σ' H, W c d σ H → W c d σ' H
theorem Post.wx {α β : Type} {B : Bas} {R : Mp → α → β → Prop} {W W' : XK} {m : Mp} {H : Hp} {Q : β → Hp → Prop} {r : Res α} (h : Post B R W m H Q r) (f : ∀ c d H', W c d H' → W' c d H') : Post B R W' m H Q r := by
  cases r with
  | ok a S => exact h
  | ex c ns vs S => exact fun m' H' dd l c x => f _ _ _ (h m' H' dd l c x)
  | bad => exact h
def sNil : MS := fun en S => .ok (.nx en) S
def sSeq (a b : MS) : MS := fun en S => (a en S).bind fun f S1 => match f with
  | .nx en1 => b en1 S1
  | .rt d => .ok (.rt d) S1
  | .bk e => .ok (.bk e) S1
  | .ct e => .ok (.ct e) S1
def sIf (t : MT) (a b : MS) : MS := fun en S => (t en S).bind fun k S1 => match k with
  | true => a en S1
  | false => b en S1
def sRet (e : ME) : MS := fun en S => (e en S).bind fun d S1 => .ok (.rt d) S1
def sRetN : MS := fun _ S => .ok (.rt .non) S
def sDrop (e : ME) : MS := fun en S => (e en S).bind fun _ S1 => .ok (.nx en) S1
abbrev MG := D → En → Option En
def sAsg (e : ME) (g : MG) : MS := fun en S => (e en S).bind fun d S1 => match g d en with
  | some en1 => .ok (.nx en1) S1
  | none => .bad
def sPar (i j : Nat) (r : MA) : MS := fun en S => (r en S).bind fun ds S1 => match ds with
  | [x, y] => .ok (.nx ((en.set i (some x)).set j (some y))) S1
  | _ => .bad
def sBk : MS := fun en S => .ok (.bk en) S
def sCt : MS := fun en S => .ok (.ct en) S
def sBad : MS := fun _ _ => .bad
/-- targets -/
def gN (i : Nat) : MG := fun d en => some (en.set i (some d))
abbrev MGs := List D → En → Option En
def gsNil : MGs := fun ds en => match ds with
  | [] => some en
  | _ => none
def gsCons (g : MG) (r : MGs) : MGs := fun ds en => match ds with
  | d :: ds => (g d en).bind (r ds)
  | [] => none
def gT (n : Nat) (g : MGs) : MG := fun d en => match d with
  | .tup ds => if ds.length = n then g ds en else none
  | _ => none
/-- the slots differ at own alone -/
def Only (own : List Nat) (σ σ' : St) : Prop := σ'.length = σ.length ∧ ∀ j : Nat, j ∉ own → σ'[j]? = σ[j]?
theorem Only.refl (own : List Nat) (σ : St) : Only own σ σ := ⟨rfl, fun _ _ => rfl⟩
theorem Only.trans {o1 o2 : List Nat} {a b c : St} (h1 : Only o1 a b) (h2 : Only o2 b c) : Only (o1 ++ o2) a c :=
  ⟨h2.1.trans h1.1, fun j hj => (h2.2 j fun z => hj (List.mem_append_right _ z)).trans (h1.2 j fun z => hj (List.mem_append_left _ z))⟩
def TgR (B : Bas) (own : List Nat) (g : TG) (t : MG) : Prop := ∀ (m : Mp) (H : Hp) (en en' : En) (σ : St) (d : D) (v : V), Sub m H → Rep B m d v → EnR B m en σ → t d en = some en' → ∀ Q : St → Hp → Prop, (∀ σ', EnR B m en' σ' → Only own σ σ' → Q σ' H) → g v σ H Q
def TgsR (B : Bas) (own : List Nat) (g : TGs) (t : MGs) : Prop := ∀ (m : Mp) (H : Hp) (en en' : En) (σ : St) (d : List D) (v : List V), Sub m H → Reps B m d v → EnR B m en σ → t d en = some en' → ∀ Q : St → Hp → Prop, (∀ σ', EnR B m en' σ' → Only own σ σ' → Q σ' H) → g v σ H Q
theorem tg_name {B : Bas} {i : Nat} : TgR B [i] (gName i) (gN i) := fun m H en en' σ d v s r er e Q q => by
  cases e
  exact q _ (er.set i r) ⟨List.length_set, fun j hj => List.getElem?_set_ne (fun z => hj (by simp [z]))⟩
theorem tgs_nil {B : Bas} : TgsR B [] gNil gsNil := fun m H en en' σ d v s r er e Q q => by
  cases d with
  | nil =>
    simp only [Reps] at r
    cases e
    exact ⟨r, q σ er (Only.refl _ _)⟩
  | cons x xs => cases e
theorem tgs_cons {B : Bas} {o1 o2 : List Nat} {g : TG} {t : MG} {gs : TGs} {ts : MGs} (h : TgR B o1 g t) (hs : TgsR B o2 gs ts) : TgsR B (o1 ++ o2) (gCons g gs) (gsCons t ts) := fun m H en en' σ d v s r er e Q q => by
  cases d with
  | nil => cases e
  | cons x xs =>
    simp only [Reps] at r
    obtain ⟨y, ys, rfl, r1, r2⟩ := r
    simp only [gsCons] at e
    cases e1 : t x en with
    | none => rw [e1] at e; cases e
    | some en1 =>
      rw [e1] at e
      exact ⟨y, ys, rfl, h m H en en1 σ x y s r1 er e1 _ fun σ' er' o1 => hs m H en1 en' σ' xs ys s r2 er' e Q fun σ2 er2 o2 => q σ2 er2 (o1.trans o2)⟩
theorem tg_tup {B : Bas} {own : List Nat} {n : Nat} {gs : TGs} {ts : MGs} (hs : TgsR B own gs ts) : TgR B own (gTup B.K n gs) (gT n ts) := fun m H en en' σ d v s r er e Q q => by
  cases d with
  | tup ds =>
    simp only [gT] at e
    split at e
    · rename_i hn
      simp only [Rep] at r
      obtain ⟨a, vs, rfl, t, rs⟩ := r
      exact ⟨a, vs, rfl, t.sq s, by rw [← rs.length]; exact hn, hs m H en en' σ ds vs s rs er e Q q⟩
    · cases e
  | _ => cases e
section
variable {X : Cx} {B : Bas} {W : WX} {st : Stmt} {sts : List Stmt} {pos : Pos} {e : Expr} {ma mb : MS} {me : ME} {mt : MT} {mr : MA}
theorem ds_nil : PSs X [] (tS B W sNil) := PSs.cut pss_nil fun D σ H ⟨m, S, en, s, c, er, p⟩ => p m H (.nx σ) (Le.refl s) c er
theorem tSeq_of (hW : WI W) (D : Ends) (σ : St) (H : Hp) (t : tS B W (sSeq ma mb) D σ H) : tSeq (tS B W ma) (tS B W mb) D σ H := by
  obtain ⟨m, S, en, s, c, er, p⟩ := t
  refine ⟨m, S, en, s, c, er, (Post.bind p).imp ?_⟩
  rintro g H1 ⟨f, S1, m1, _, l1, c1, r1, p1⟩
  cases f with
  | nx en1 =>
    cases g with
    | nx σ1 => exact ⟨m1, S1, en1, l1.sub, c1, r1, p1.wx fun c d H' h => hW _ _ _ _ _ h⟩
    | _ => exact r1.elim
  | rt d =>
    cases g with
    | rt v => exact p1 m1 H1 (.rt v) (Le.refl l1.sub) c1 r1
    | _ => exact r1.elim
  | bk en1 =>
    cases g with
    | bk v => exact p1 m1 H1 (.bk v) (Le.refl l1.sub) c1 r1
    | _ => exact r1.elim
  | ct en1 =>
    cases g with
    | ct v => exact p1 m1 H1 (.ct v) (Le.refl l1.sub) c1 r1
    | _ => exact r1.elim
theorem ds_cons (hW : WI W) (h1 : PS X st (tS B W ma)) (h2 : PSs X sts (tS B W mb)) : PSs X (st :: sts) (tS B W (sSeq ma mb)) := PSs.cut (pss_cons h1 h2) (tSeq_of hW)
theorem ds_one (h1 : PS X st (tS B W ma)) : PSs X [st] (tS B W ma) := pss_one h1
theorem ds_if {c : Expr} {a b : List Stmt} (hc : PT X c (tT B W mt)) (ha : PSs X a (tS B W ma)) (hb : PSs X b (tS B W mb)) : PS X (.If c a b pos) (tS B W (sIf mt ma mb)) :=
  PS.cut (ps_if hc ha hb) fun D σ H ⟨m, S, en, s, c, er, p⟩ => ⟨m, S, en, s, c, er, (Post.bind p).imp (by
    rintro k H1 ⟨k', S1, m1, _, l1, c1, r1, p1⟩
    cases r1
    cases k with
    | true => exact iteT ⟨m1, S1, en, l1.sub, c1, er.mono l1, p1⟩
    | false => exact iteF ⟨m1, S1, en, l1.sub, c1, er.mono l1, p1⟩)⟩
theorem ds_ret (he : PE X e (tE B W me)) : PS X (.Return (some e) pos) (tS B W (sRet me)) :=
  PS.cut (ps_ret he) fun D σ H ⟨m, S, en, s, c, er, p⟩ => ⟨m, S, en, s, c, er, (Post.bind p).imp (by
    rintro v H1 ⟨d, S1, m1, _, l1, c1, r1, p1⟩
    exact p1 m1 H1 (.rt v) (Le.refl l1.sub) c1 r1)⟩
theorem ds_retN : PS X (.Return none pos) (tS B W sRetN) := PS.cut ps_retN fun D σ H ⟨m, S, en, s, c, er, p⟩ => p m H (.rt .non) (Le.refl s) c (rp_non (B := B) m)
theorem ds_pass : PS X (.Pass pos) (tS B W sNil) := PS.cut ps_pass fun D σ H ⟨m, S, en, s, c, er, p⟩ => p m H (.nx σ) (Le.refl s) c er
theorem ds_break : PS X (.Break pos) (tS B W sBk) := PS.cut ps_break fun D σ H ⟨m, S, en, s, c, er, p⟩ => p m H (.bk σ) (Le.refl s) c er
theorem ds_continue : PS X (.Continue pos) (tS B W sCt) := PS.cut ps_continue fun D σ H ⟨m, S, en, s, c, er, p⟩ => p m H (.ct σ) (Le.refl s) c er
theorem ds_never : PS X st (tS B W sBad) := ⟨fun _ _ _ _ _ _ ⟨_, _, _, _, _, _, p⟩ => p.elim⟩
theorem ds_expr (he : PE X e (tE B W me)) (hs : swapsWith e none pos.line X.env = pure false := by rfl) : PS X (.Expr e pos) (tS B W (sDrop me)) :=
  PS.cut (ps_expr he hs) fun D σ H ⟨m, S, en, s, c, er, p⟩ => ⟨m, S, en, s, c, er, (Post.bind p).imp (by
    rintro v H1 ⟨d, S1, m1, _, l1, c1, r1, p1⟩
    exact p1 m1 H1 (.nx σ) (Le.refl l1.sub) c1 (er.mono l1))⟩
theorem tAsg_of {own : List Nat} {g : TG} {t : MG} (h : TgR B own g t) (D : Ends) (σ : St) (H : Hp) (q : tS B W (sAsg me t) D σ H) : tAsg (tE B W me) g D σ H := by
  obtain ⟨m, S, en, s, c, er, p⟩ := q
  refine ⟨m, S, en, s, c, er, (Post.bind p).imp ?_⟩
  rintro v H1 ⟨d, S1, m1, _, l1, c1, r1, p1⟩
  cases e1 : t d en with
  | none => rw [e1] at p1; exact p1.elim
  | some en1 =>
    rw [e1] at p1
    exact h m1 H1 en en1 σ d v l1.sub r1 (er.mono l1) e1 _ fun σ' er' _ => p1 m1 H1 (.nx σ') (Le.refl l1.sub) c1 er'
theorem ds_set {i : Nat} {x : Str} {pos' : Pos} (hN : X.N.Nodup) (hi : X.N[i]? = some x) (hx : Loc X.env.scope x) (he : PE X e (tE B W me)) (hs : swapsWith e (some (.Name x pos')) pos.line X.env = pure false := by rfl)
    (hf : X.fn x = true ∨ X.env.scope.names.lookup x = some .local := by first | exact .inl rfl | exact .inr rfl | assumption) : PS X (.Assign [.Name x pos'] e pos) (tS B W (sAsg me (gN i))) :=
  PS.cut (ps_set hN hi hx he hs hf) (tAsg_of tg_name)
theorem ds_asg {own : List Nat} {tg : Expr} {g : TG} {t : MG} (ht : TgR B own g t) (he : PE X e (tE B W me)) (hg : PG X tg g) (hs : swapsWithSole [tg] e pos.line X.env = pure false := by rfl) (hw : swappedStores [tg] e X.env = pure none := by rfl)
    (h1 : (assignEach [tg] X.env).map (·.2) = [assign tg X.env] := by rfl) : PS X (.Assign [tg] e pos) (tS B W (sAsg me t)) := PS.cut (ps_asg he hg hs hw h1) (tAsg_of ht)
theorem ds_par {i j : Nat} {x y : Str} {a b : Expr} {px py pt : Pos} {kt k2 pt2} (hc : X.calm = true) (hN : X.N.Nodup) (hi : X.N[i]? = some x) (hj : X.N[j]? = some y) (hij : i ≠ j)
    (hx : X.env.scope.names.lookup x = some .local) (hy : X.env.scope.names.lookup y = some .local) (ha : PA X [a, b] (tA B W mr))
    (hw : swappedStores [.Tuple [.Name x px, .Name y py] kt pt] (.Tuple [a, b] k2 pt2) X.env = pure (some [x, y]))
    (hs : swapsWithSole [.Tuple [.Name x px, .Name y py] kt pt] (.Tuple [a, b] k2 pt2) pos.line X.env = pure false := by rfl) : PS X (.Assign [.Tuple [.Name x px, .Name y py] kt pt] (.Tuple [a, b] k2 pt2) pos) (tS B W (sPar i j mr)) :=
  PS.cut (ps_par hc hN hi hj hij hx hy ha hw hs) fun D σ H ⟨m, S, en, s, c, er, p⟩ => ⟨m, S, en, s, c, er, (Post.bind p).imp (by
    rintro vs H1 ⟨ds, S1, m1, _, l1, c1, r1, p1⟩
    match ds, p1, r1 with
    | [x, y], p1, r1 =>
      simp only [Reps] at r1
      obtain ⟨v, r, rfl, rv, w, r', rfl, rw', rfl⟩ := r1
      exact ⟨v, w, rfl, p1 m1 H1 (.nx _) (Le.refl l1.sub) c1 (((er.mono l1).set i rv).set j rw')⟩
    | [], p1, _ => exact p1.elim
    | [_], p1, _ => exact p1.elim
    | _ :: _ :: _ :: _, p1, _ => exact p1.elim)⟩
end
/-! ### for -/
structure Its where
  ds : List D
  P : Sto → Prop
def ItR (B : Bas) (m : Mp) (its : Its) (J : It) : Prop := ∀ (m' : Mp) (H' : Hp) (S : Sto), Kp m m' → Sub m' H' → Cor B m' S → its.P S →
  (∀ (i : Nat) (d : D), its.ds[i]? = some d → J.go i H' ∧ ∀ x H'', J.yld i H' x H'' → ∃ m'', Le m' H' m'' H'' ∧ Cor B m'' S ∧ Rep B m'' d x) ∧ ∀ i, its.ds.length ≤ i → J.stop i H'
abbrev MI := En → Sto → Res Its
def tI (B : Bas) (W : WX) (f : MI) : TI := fun σ H R => ∃ m S en, Sub m H ∧ Cor B m S ∧ EnR B m en σ ∧ Post B (ItR B) (at' W σ) m H R (f en S)
open Classical in
noncomputable def loop (g : MG) (b : MS) (P : Sto → Prop) : List D → En → Sto → Res Fl
  | [], en, S => if P S then .ok (.nx en) S else .bad
  | d :: ds, en, S => if P S then (match g d en with
    | none => .bad
    | some en1 => (b en1 S).bind fun f S1 => match f with
      | .nx en2 => loop g b P ds en2 S1
      | .ct en2 => loop g b P ds en2 S1
      | .bk en2 => .ok (.nx en2) S1
      | .rt d => .ok (.rt d) S1) else .bad
noncomputable def sFor (i : MI) (g : MG) (b : MS) : MS := fun en S => (i en S).bind fun its S1 => loop g b its.P its.ds en S1
theorem tFor_of {B : Bas} {W : WX} {mi : MI} {mb : MS} {g : TG} {t : MG} {own : List Nat} (hW : WI W) (ht : TgR B own g t) (D : Ends) (σ : St) (H : Hp) (q : tS B W (sFor mi t mb) D σ H) : tFor (tI B W mi) g (tS B W mb) D σ H := by
  obtain ⟨m, S, en, s, c, er, p⟩ := q
  refine ⟨m, S, en, s, c, er, (Post.bind p).imp ?_⟩
  rintro J H1 ⟨its, S1, m1, _, l1, c1, ir, p1⟩
  refine ⟨fun i k σ' H' => k = its.ds.length - i ∧ ∃ m' S' en', Le m1 H1 m' H' ∧ Cor B m' S' ∧ EnR B m' en' σ' ∧ Post B (RFl B) (at' W σ') m' H' (qOf D) (loop t mb its.P (its.ds.drop i) en' S'),
    ⟨_, rfl, m1, S1, en, Le.refl l1.sub, c1, er.mono l1, p1⟩, ?_⟩
  rintro i k σ' H' ⟨rfl, m', S', en', l', c', er', p'⟩
  by_cases hP : its.P S'
  · obtain ⟨hg, hs⟩ := ir m' H' S' l'.toKp l'.sub c' hP
    cases hd : its.ds[i]? with
    | none =>
      have hi : its.ds.length ≤ i := List.getElem?_eq_none_iff.mp hd
      rw [List.drop_eq_nil_of_le hi, loop, if_pos hP] at p'
      exact .inl ⟨hs i hi, p' m' H' (.nx σ') (Le.refl l'.sub) c' er'⟩
    | some d =>
      have hi : i < its.ds.length := (List.getElem?_eq_some_iff.mp hd).1
      obtain ⟨go, yl⟩ := hg i d hd
      have e1 : its.ds.drop i = d :: its.ds.drop (i + 1) := by
        rw [List.drop_eq_getElem_cons hi]
        congr 1
        exact (List.getElem?_eq_some_iff.mp hd).2
      rw [e1, loop, if_pos hP] at p'
      refine .inr ⟨go, fun σ2 H2 => its.ds.length - (i + 1) = its.ds.length - (i + 1) ∧ ∃ m2 S2 en2, Le m1 H1 m2 H2 ∧ Cor B m2 S2 ∧ EnR B m2 en2 σ2 ∧ Post B (RFl B) (at' W σ2) m2 H2 (qOf D) (loop t mb its.P (its.ds.drop (i + 1)) en2 S2),
        fun σ2 H2 n2 => ⟨its.ds.length - (i + 1), by omega, n2⟩, fun x H'' y => ?_⟩
      obtain ⟨m'', l2, c2, r2⟩ := yl x H'' y
      cases e2 : t d en' with
      | none => rw [e2] at p'; exact p'.elim
      | some en1 =>
        rw [e2] at p'
        refine ht m'' H'' en' en1 σ' d x l2.sub r2 (er'.mono l2) e2 _ fun σ2 er2 _ => ?_
        refine ⟨m'', S', en1, l2.sub, c2, er2, (Post.bind ((p'.shift l2).wx fun c d H3 h => hW _ _ _ _ _ h)).imp ?_⟩
        rintro f' H3 ⟨f, S3, m3, _, l3, c3, r3, p3⟩
        cases f with
        | nx en3 =>
          cases f' with
          | nx σ3 => exact ⟨rfl, m3, S3, en3, (l'.trans l2).trans l3, c3, r3, p3.wx fun c d H4 h => hW _ _ _ _ _ h⟩
          | _ => exact r3.elim
        | ct en3 =>
          cases f' with
          | ct σ3 => exact ⟨rfl, m3, S3, en3, (l'.trans l2).trans l3, c3, r3, p3.wx fun c d H4 h => hW _ _ _ _ _ h⟩
          | _ => exact r3.elim
        | bk en3 =>
          cases f' with
          | bk σ3 => exact p3 m3 H3 (.nx σ3) (Le.refl l3.sub) c3 r3
          | _ => exact r3.elim
        | rt d3 =>
          cases f' with
          | rt v3 => exact p3 m3 H3 (.rt v3) (Le.refl l3.sub) c3 r3
          | _ => exact r3.elim
  · exfalso
    cases hl : its.ds.drop i with
    | nil => rw [hl, loop, if_neg hP] at p'; exact p'
    | cons d ds => rw [hl, loop, if_neg hP] at p'; exact p'
theorem ds_for {X : Cx} {B : Bas} {W : WX} {tg iter : Expr} {body : List Stmt} {pos : Pos} {mi : MI} {mb : MS} {g : TG} {t : MG} {own : List Nat} (hW : WI W) (hp : PassesOwn (model X.prog X.w) X.A X.env X.xe) (hc : X.calm = true)
    (ht : TgR B own g t) (hi : PI X tg iter (tI B W mi)) (hg : PG X tg g) (hb : PSs X body (tS B W mb)) (hs : ∀ x, foldedSetIterable iter X.env x = pure x := by intro _; rfl) :
    PS X (.For tg iter body [] pos) (tS B W (sFor mi t mb)) := PS.cut (ps_for hp hc hi hg hb hs) (tFor_of hW ht)
/-! ### while -/
def whil (t : MT) (b : MS) : Nat → En → Sto → Res Fl
  | 0, _, _ => .bad
  | n + 1, en, S => (t en S).bind fun k S1 => match k with
    | false => .ok (.nx en) S1
    | true => (b en S1).bind fun f S2 => match f with
      | .nx en2 => whil t b n en2 S2
      | .ct en2 => whil t b n en2 S2
      | .bk en2 => .ok (.nx en2) S2
      | .rt d => .ok (.rt d) S2
def sWhile (n : Nat) (t : MT) (b : MS) : MS := fun en S => whil t b n en S
theorem tWhile_of {B : Bas} {W : WX} {mt : MT} {mb : MS} {n : Nat} (hW : WI W) (D : Ends) (σ : St) (H : Hp) (q : tS B W (sWhile n mt mb) D σ H) : tWhile (tT B W mt) (tS B W mb) D σ H := by
  obtain ⟨m, S, en, s, c, er, p⟩ := q
  refine ⟨fun k σ' H' => ∃ m' S' en', Le m H m' H' ∧ Cor B m' S' ∧ EnR B m' en' σ' ∧ Post B (RFl B) (at' W σ') m' H' (qOf D) (whil mt mb k en' S'), ⟨n, m, S, en, Le.refl s, c, er, p⟩, ?_⟩
  rintro k σ' H' ⟨m', S', en', l', c', er', p'⟩
  cases k with
  | zero => exact p'.elim
  | succ k =>
    rw [whil] at p'
    refine ⟨m', S', en', l'.sub, c', er', (Post.bind p').imp ?_⟩
    rintro b H1 ⟨b', S1, m1, _, l1, c1, r1, p1⟩
    cases r1
    cases b with
    | false => exact iteF (p1 m1 H1 (.nx σ') (Le.refl l1.sub) c1 (er'.mono l1))
    | true =>
      refine iteT ⟨fun σ2 H2 => ∃ m2 S2 en2, Le m H m2 H2 ∧ Cor B m2 S2 ∧ EnR B m2 en2 σ2 ∧ Post B (RFl B) (at' W σ2) m2 H2 (qOf D) (whil mt mb k en2 S2), fun σ2 H2 n2 => ⟨k, Nat.lt_succ_self _, n2⟩, ?_⟩
      refine ⟨m1, S1, en', l1.sub, c1, er'.mono l1, (Post.bind p1).imp ?_⟩
      rintro f' H3 ⟨f, S3, m3, _, l3, c3, r3, p3⟩
      cases f with
      | nx en3 =>
        cases f' with
        | nx σ3 => exact ⟨m3, S3, en3, (l'.trans l1).trans l3, c3, r3, p3.wx fun c d H4 h => hW _ _ _ _ _ h⟩
        | _ => exact r3.elim
      | ct en3 =>
        cases f' with
        | ct σ3 => exact ⟨m3, S3, en3, (l'.trans l1).trans l3, c3, r3, p3.wx fun c d H4 h => hW _ _ _ _ _ h⟩
        | _ => exact r3.elim
      | bk en3 =>
        cases f' with
        | bk σ3 => exact p3 m3 H3 (.nx σ3) (Le.refl l3.sub) c3 r3
        | _ => exact r3.elim
      | rt d3 =>
        cases f' with
        | rt v3 => exact p3 m3 H3 (.rt v3) (Le.refl l3.sub) c3 r3
        | _ => exact r3.elim
theorem ds_while {X : Cx} {B : Bas} {W : WX} {c : Expr} {body : List Stmt} {pos : Pos} {mt : MT} {mb : MS} {n : Nat} (hW : WI W) (hp : PassesOwn (model X.prog X.w) X.A X.env X.xe) (hc : PT X c (tT B W mt)) (hb : PSs X body (tS B W mb)) :
    PS X (.While c body [] pos) (tS B W (sWhile n mt mb)) := PS.cut (ps_while hp hc hb) (tWhile_of hW)
/-! ### defs -/
structure Fn where
  n : Nat
  run : List D → Sto → Res D
def spF (B : Bas) (F : Fn) : Sp := fun vs H Q E => ∃ m S ds, Sub m H ∧ Cor B m S ∧ Reps B m ds vs ∧ ds.length = F.n ∧ Post B (Rep B) E m H Q (F.run ds S)
theorem spF_len {B : Bas} {F : Fn} {ps : List Str} (h : F.n = ps.length) (vs : List V) (H : Hp) (Q : VK) (E : XK) (q : spF B F vs H Q E) : vs.length = ps.length := by
  obtain ⟨m, S, ds, _, _, r, n, _⟩ := q
  rw [← r.length, n, h]
def startE (N : Nat) (ds : List D) : En := ds.map some ++ List.replicate (N - ds.length) none
def fnB (n N : Nat) (b : MS) : Fn := ⟨n, fun ds S => (b (startE N ds) S).bind fun f S1 => match f with
  | .nx _ => .ok .non S1
  | .rt d => .ok d S1
  | _ => .bad⟩
theorem start_en {B : Bas} {m : Mp} {N : List Str} {ds : List D} {vs : List V} (r : Reps B m ds vs) : EnR B m (startE N.length ds) (L2.start N vs) := by
  have hl := r.length
  refine ⟨by unfold startE L2.start; simp only [List.length_append, List.length_map, List.length_replicate]; omega, fun i d e => ?_⟩
  unfold startE at e
  by_cases hi : i < ds.length
  · rw [List.getElem?_append_left (by simpa using hi), List.getElem?_map] at e
    cases e2 : ds[i]? with
    | none => rw [e2] at e; cases e
    | some x =>
      rw [e2] at e
      cases e
      obtain ⟨v, hv, rv⟩ := r.get e2
      refine ⟨v, ?_, rv⟩
      unfold L2.start
      rw [List.getElem?_append_left (by simpa [← hl] using hi), List.getElem?_map, hv]
      rfl
  · rw [List.getElem?_append_right (by simpa using hi), List.getElem?_replicate] at e
    split at e <;> cases e
abbrev WE0 (E : XK) : WX := fun c d _ H => E c d H
theorem wi_E {E : XK} : WI (WE0 E) := fun _ _ _ _ _ h => h
abbrev W0 : WX := fun _ _ _ _ => False
theorem wi_0 : WI W0 := fun _ _ _ _ _ h => h
theorem fn_body {B : Bas} {N : List Str} {n : Nat} {ms : MS} {vs : List V} {H : Hp} {Q : VK} {E : XK} (h : spF B (fnB n N.length ms) vs H Q E) : tS B (WE0 E) ms { nx := fun _ H' => Q .non H', rt := Q } (L2.start N vs) H := by
  obtain ⟨m, S, ds, s, c, r, hn, p⟩ := h
  refine ⟨m, S, startE N.length ds, s, c, start_en r, (Post.bind p).imp ?_⟩
  rintro f' H1 ⟨f, S1, m1, _, l1, c1, r1, p1⟩
  cases f with
  | nx en =>
    cases f' with
    | nx σ => exact p1 m1 H1 .non (Le.refl l1.sub) c1 (rp_non _)
    | _ => exact r1.elim
  | rt d =>
    cases f' with
    | rt v => exact p1 m1 H1 v (Le.refl l1.sub) c1 r1
    | _ => exact r1.elim
  | bk en => exact p1.elim
  | ct en => exact p1.elim
theorem fn_ok {P : Program} {w : World} {K : PySem.W.Frag} {mg : Str → Option Value} {base : Heap} {B : Bas} {x qual : Str} {st : Stmt} {f : Addr} {fd : FuncData} {N ps : List Str} {k n : Nat} {ms : MS} (F : Fun K x qual st f fd) (S : FnScope N ps (defScope st)) (hn : n = ps.length)
    (hbody : ∀ (cdv : Value) (A : Around) (outer : List Env) (s : Shared) (H : Hp) (E : XK), Room k (A.deeper (PyProof.Rows.envOfC qual (defScope st) s.heap.objs.size f cdv)) →
      PSs (cxOf (L2.CX P w) P w K mg base N qual (defScope st) f cdv A outer s H E) (defBody st) (tS B (WE0 E) ms)) : FnOk P w K mg base (L2.CX P w) (k + 1) f fd ps (spF B (fnB n N.length ms)) :=
  F.okX S (spF_len hn) fun cdv A outer s H vs Q E hr h => ⟨_, hbody cdv A outer s H E hr, fn_body h⟩
/-! ### calls -/
def mCall (F : Fn) (r : MA) : ME := fun en S => (r en S).bind fun ds S1 => if ds.length = F.n then F.run ds S1 else .bad
theorem tCall_of {B : Bas} {W : WX} {F : Fn} {mr : MA} (σ : St) (H : Hp) (Q : VK) (t : tE B W (mCall F mr) σ H Q) : tCallSD (spF B F) [] (fun σ => at' W σ) (tA B W mr) σ H Q := by
  obtain ⟨m, S, en, s, c, er, p⟩ := t
  refine ⟨m, S, en, s, c, er, (Post.bind p).imp ?_⟩
  rintro vs H1 ⟨ds, S1, m1, _, l1, c1, r1, p1⟩
  split at p1
  · rename_i hn
    exact ⟨m1, S1, ds, l1.sub, c1, by rw [List.append_nil]; exact r1, hn, p1⟩
  · exact p1.elim
section
variable {X : Cx} {B : Bas} {W : WX} {k : Nat} {f : Addr} {fd : FuncData} {ps : List Str} {F : Fn} {x : Str} {p pos : Pos} {e : Expr} {es : List Expr} {mr : MA}
theorem de_call (FO : FnOk X.prog X.w X.K X.mg X.base (L2.CX X.prog X.w) k f fd ps (spF B F)) (hr : Room k X.A) (tk : Takes X W) (hm : X.mg x = some (.ref f)) (hk : PySem.W.keepIn X.K (.ref f) = true) (hb : Binds X.K fd ps [])
    (ha : PA X (e :: es) (tA B W mr)) (hg : Gl X x := by rfl) (hdb : (x == ("__debug__" : Str)) = false := by decide) (he : starEach (e :: es) X.env = (false, eval e X.env) :: starEach es X.env := by rfl) (hpl : (backTo pos (starEach es X.env)).any (·.1) = false := by rfl) :
    PE X (.Call (.Name x p) (e :: es) [] pos) (tE B W (mCall F mr)) := PE.cut (pe_callSD FO hr hg hm hk hb .nil (fun σ => passAt tk σ) ha hdb he hpl) tCall_of
end
end G

set_option Elab.async false
set_option linter.all false
set_option maxRecDepth 100000
set_option maxHeartbeats 2000000
/-! G4: what a def leaves in the store is cut off at its end -/
namespace G
open PySem L2
mutual
def D.bel (n : Nat) : D → Prop
  | .tup ds => D.bels n ds
  | .lst ds => D.bels n ds
  | .scr ds => D.bels n ds
  | .ktp ds => D.bels n ds
  | .dic _ ds => D.bels n ds
  | .ins _ _ ds => D.bels n ds
  | .ref i => i < n
  | .non => True
  | .bl _ => True
  | .int _ => True
  | .str _ => True
  | .fn _ => True
  | .ty _ => True
  | .cl _ => True
def D.bels (n : Nat) : List D → Prop
  | [] => True
  | d :: r => D.bel n d ∧ D.bels n r
end
def Ob.bel (n : Nat) : Ob → Prop
  | .lst ds => D.bels n ds
  | .dic _ ds => D.bels n ds
  | .ins _ _ ds => D.bels n ds
section
variable {B : Bas} {m : Mp}
mutual
theorem Rep.bel : ∀ {d : D} {v : V}, Rep B m d v → d.bel m.n
  | .non, _, _ => by simp only [D.bel]
  | .bl _, _, _ => by simp only [D.bel]
  | .int _, _, _ => by simp only [D.bel]
  | .str _, _, _ => by simp only [D.bel]
  | .fn _, _, _ => by simp only [D.bel]
  | .ty _, _, _ => by simp only [D.bel]
  | .cl _, _, _ => by simp only [D.bel]
  | .ref i, v, h => by
    simp only [Rep] at h
    simp only [D.bel]
    exact h.1
  | .tup ds, v, h => by
    simp only [Rep] at h
    obtain ⟨a, vs, e, t, r⟩ := h
    simp only [D.bel]
    exact Reps.bel r
  | .lst ds, v, h => by
    simp only [Rep] at h
    obtain ⟨a, vs, e, t, r⟩ := h
    simp only [D.bel]
    exact Reps.bel r
  | .scr ds, v, h => by
    simp only [Rep] at h
    obtain ⟨a, vs, e, t, r⟩ := h
    simp only [D.bel]
    exact Reps.bel r
  | .ktp ds, v, h => by
    simp only [Rep] at h
    obtain ⟨a, vs, e, t, r⟩ := h
    simp only [D.bel]
    exact Reps.bel r
  | .dic ks ds, v, h => by
    simp only [Rep] at h
    obtain ⟨a, vs, e, o, t, r⟩ := h
    simp only [D.bel]
    exact Reps.bel r
  | .ins c ns ds, v, h => by
    simp only [Rep] at h
    obtain ⟨a, dx, vs, e, o, t, n, r⟩ := h
    simp only [D.bel]
    exact Reps.bel r
theorem Reps.bel : ∀ {ds : List D} {vs : List V}, Reps B m ds vs → D.bels m.n ds
  | [], _, _ => by simp only [D.bels]
  | d :: ds, _, h => by
    simp only [Reps] at h
    obtain ⟨v, r, e, p, q⟩ := h
    simp only [D.bels]
    exact ⟨Rep.bel p, Reps.bel q⟩
end
theorem ObR.bel {a : Addr} {o : Ob} (h : ObR B m a o) : o.bel m.n := by
  cases o with
  | lst ds => obtain ⟨vs, e, r⟩ := h; exact r.bel
  | dic ks ds => obtain ⟨vs, e, r⟩ := h; exact r.bel
  | ins c ns ds => obtain ⟨dx, vs, e, n, r⟩ := h; exact r.bel
end
open Classical in
noncomputable def Mp.cut (m : Mp) (n : Nat) : Mp := { mu := m.mu, n := n, Z := fun a => if ∃ j, n ≤ j ∧ j < m.n ∧ m.mu j = a then none else m.Z a }
section
variable {B : Bas} {m : Mp} {n : Nat}
open Classical in
theorem Mp.cut_out {a : Addr} (h : m.out a) : (m.cut n).Z a = m.Z a := by
  show (if ∃ j, n ≤ j ∧ j < m.n ∧ m.mu j = a then none else m.Z a) = _
  rw [if_neg]
  rintro ⟨j, _, h2, h3⟩
  exact h j h2 h3
theorem Mp.cut_oo {a : Addr} (hn : n ≤ m.n) (h : m.out a) : (m.cut n).out a := fun i hi => h i (Nat.lt_of_lt_of_le hi hn)
mutual
theorem Rep.cutR (hn : n ≤ m.n) : ∀ {d : D} {v : V}, Rep B m d v → d.bel n → Rep B (m.cut n) d v
  | .non, _, h, _ => by simpa only [Rep] using h
  | .bl _, _, h, _ => by simpa only [Rep] using h
  | .int _, _, h, _ => by simpa only [Rep] using h
  | .str _, _, h, _ => by simpa only [Rep] using h
  | .fn _, _, h, _ => by simpa only [Rep] using h
  | .ty _, _, h, _ => by simpa only [Rep] using h
  | .cl _, _, h, _ => by simpa only [Rep] using h
  | .ref i, v, h, b => by
    simp only [Rep] at h ⊢
    simp only [D.bel] at b
    exact ⟨b, h.2⟩
  | .tup ds, v, h, b => by
    simp only [Rep] at h ⊢
    simp only [D.bel] at b
    obtain ⟨a, vs, e, t, r⟩ := h
    exact ⟨a, vs, e, ⟨(Mp.cut_out t.2).trans t.1, Mp.cut_oo hn t.2⟩, Reps.cutR hn r b⟩
  | .lst ds, v, h, b => by
    simp only [Rep] at h ⊢
    simp only [D.bel] at b
    obtain ⟨a, vs, e, t, r⟩ := h
    exact ⟨a, vs, e, ⟨(Mp.cut_out t.2).trans t.1, Mp.cut_oo hn t.2⟩, Reps.cutR hn r b⟩
  | .scr ds, v, h, b => by
    simp only [Rep] at h ⊢
    simp only [D.bel] at b
    obtain ⟨a, vs, e, t, r⟩ := h
    refine ⟨a, vs, e, ?_, Reps.cutR hn r b⟩
    rcases t with ⟨t, o⟩ | t
    · refine .inl ⟨?_, Mp.cut_oo hn o⟩
      rcases t with t | ⟨x, t⟩
      · exact .inl ((Mp.cut_out o).trans t)
      · exact .inr ⟨x, (Mp.cut_out o).trans t⟩
    · exact .inr t
  | .ktp ds, v, h, b => by
    simp only [Rep] at h ⊢
    simp only [D.bel] at b
    obtain ⟨a, vs, e, t, r⟩ := h
    exact ⟨a, vs, e, t, Reps.cutR hn r b⟩
  | .dic ks ds, v, h, b => by
    simp only [Rep] at h ⊢
    simp only [D.bel] at b
    obtain ⟨a, vs, e, o, t, r⟩ := h
    exact ⟨a, vs, e, Mp.cut_oo hn o, by rw [Mp.cut_out o]; exact t, Reps.cutR hn r b⟩
  | .ins c ns ds, v, h, b => by
    simp only [Rep] at h ⊢
    simp only [D.bel] at b
    obtain ⟨a, dx, vs, e, o, t, k, r⟩ := h
    exact ⟨a, dx, vs, e, Mp.cut_oo hn o, (Mp.cut_out o).trans t, k, Reps.cutR hn r b⟩
theorem Reps.cutR (hn : n ≤ m.n) : ∀ {ds : List D} {vs : List V}, Reps B m ds vs → D.bels n ds → Reps B (m.cut n) ds vs
  | [], _, h, _ => by simpa only [Reps] using h
  | d :: ds, _, h, b => by
    simp only [Reps] at h ⊢
    simp only [D.bels] at b
    obtain ⟨v, r, e, p, q⟩ := h
    exact ⟨v, r, e, Rep.cutR hn p b.1, Reps.cutR hn q b.2⟩
end
theorem ObR.cutR (hn : n ≤ m.n) {a : Addr} {o : Ob} (hz : (m.cut n).Z a = m.Z a) (h : ObR B m a o) (b : o.bel n) : ObR B (m.cut n) a o := by
  cases o with
  | lst ds => obtain ⟨vs, e, r⟩ := h; exact ⟨vs, hz.trans e, Reps.cutR hn r b⟩
  | dic ks ds => obtain ⟨vs, e, r⟩ := h; exact ⟨vs, by rw [hz]; exact e, Reps.cutR hn r b⟩
  | ins c ns ds => obtain ⟨dx, vs, e, k, r⟩ := h; exact ⟨dx, vs, hz.trans e, k, Reps.cutR hn r b⟩
end
/-- what stood is as it was, or looks at nothing new -/
def Cl (S S' : Sto) : Prop := S.length ≤ S'.length ∧ ∀ i, i < S.length → S'[i]? = S[i]? ∨ ∃ o, S'[i]? = some o ∧ o.bel S.length
theorem Cl.app (S G : Sto) : Cl S (S ++ G) := ⟨by simp, fun i hi => .inl (List.getElem?_append_left hi)⟩
open Classical in
noncomputable def Res.drop (S : Sto) : Res D → Res D
  | .ok d S' => if Cl S S' ∧ d.bel S.length then .ok d (S'.take S.length) else .bad
  | .ex c ns vs S' => if Cl S S' ∧ D.bels S.length vs then .ex c ns vs (S'.take S.length) else .bad
  | .bad => .bad
noncomputable def dropF (F : Fn) : Fn := ⟨F.n, fun ds S => (F.run ds S).drop S⟩
theorem Res.drop_app {d : D} {S G : Sto} (h : d.bel S.length) : (Res.ok d (S ++ G)).drop S = .ok d S := by
  simp only [Res.drop]
  rw [if_pos ⟨Cl.app S G, h⟩, List.take_left']
  rfl
theorem Res.drop_self {d : D} {S : Sto} (h : d.bel S.length) : (Res.ok d S).drop S = .ok d S := by
  have := Res.drop_app (G := []) h
  rwa [List.append_nil] at this
open Classical in
theorem cut_all {B : Bas} {m m1 : Mp} {H H1 : Hp} {S S1 : Sto} (c : Cor B m S) (l : Le m H m1 H1) (c1 : Cor B m1 S1) (cl : Cl S S1) : Le m H (m1.cut S.length) H1 ∧ Cor B (m1.cut S.length) (S1.take S.length) := by
  have hn : S.length ≤ m1.n := by rw [c1.n]; exact cl.1
  refine ⟨⟨⟨by rw [c.n]; exact Nat.le_refl _, fun i hi => l.mu i hi, fun a o h1 h2 => ?_⟩, fun a o h1 h2 => ?_, fun a o h => ?_⟩, ⟨?_, fun i o e => ?_, fun i j hi hj e => ?_⟩⟩
  · obtain ⟨k1, k2⟩ := l.keep a o h1 h2
    exact ⟨(Mp.cut_out k2).trans k1, Mp.cut_oo hn k2⟩
  · obtain ⟨k1, k2⟩ := l.fr a o h1 h2
    refine ⟨k1, ?_⟩
    show (if _ then none else m1.Z a) = none
    split
    · rfl
    · exact k2
  · have h' : (if ∃ j, S.length ≤ j ∧ j < m1.n ∧ m1.mu j = a then none else m1.Z a) = some o := h
    split at h'
    · cases h'
    · exact l.sub a o h'
  · show S.length = _
    rw [List.length_take, Nat.min_eq_left cl.1]
  · have hi : i < S.length := by
      have := (List.getElem?_eq_some_iff.mp e).1
      rw [List.length_take] at this
      omega
    rw [List.getElem?_take_of_lt hi] at e
    have ob := c1.ob i o e
    refine ObR.cutR hn ?_ ob ?_
    · show (if ∃ j, S.length ≤ j ∧ j < m1.n ∧ m1.mu j = m1.mu i then none else m1.Z (m1.mu i)) = m1.Z (m1.mu i)
      rw [if_neg]
      rintro ⟨j, h1, h2, h3⟩
      have := c1.inj j i h2 (Nat.lt_of_lt_of_le hi hn) h3
      omega
    · rcases cl.2 i hi with q | ⟨o', q, b⟩
      · rw [q] at e
        have := (c.ob i o e).bel
        rw [c.n] at this
        exact this
      · rw [q] at e
        cases e
        exact b
  · have hi' : i < m1.n := Nat.lt_of_lt_of_le hi hn
    have hj' : j < m1.n := Nat.lt_of_lt_of_le hj hn
    exact c1.inj i j hi' hj' e
theorem ExR.cutR {B : Bas} {m : Mp} {n : Nat} (hn : n ≤ m.n) {ns : List Str} {vs : List D} {dd : Option Addr} (h : ExR B m ns vs dd) (b : D.bels n vs) : ExR B (m.cut n) ns vs dd := by
  rcases h with h | ⟨a, us, e, z, o, l, r⟩
  · exact .inl h
  · exact .inr ⟨a, us, e, (Mp.cut_out o).trans z, Mp.cut_oo hn o, l, Reps.cutR hn r b⟩
theorem Post.drop {B : Bas} {E : XK} {m : Mp} {H : Hp} {Q : VK} {r : Res D} {S : Sto} (c : Cor B m S) (h : Post B (Rep B) E m H Q (r.drop S)) : Post B (Rep B) E m H Q r := by
  cases r with
  | bad => exact h
  | ok d S1 =>
    intro m1 H1 v l c1 rv
    simp only [Res.drop] at h
    split at h
    · rename_i hc
      obtain ⟨l2, c2⟩ := cut_all c l c1 hc.1
      exact h _ _ _ l2 c2 (rv.cutR (by rw [c1.n]; exact hc.1.1) hc.2)
    · exact h.elim
  | ex cl ns vs S1 =>
    intro m1 H1 dd l c1 rv
    simp only [Res.drop] at h
    split at h
    · rename_i hc
      obtain ⟨l2, c2⟩ := cut_all c l c1 hc.1
      exact h _ _ _ l2 c2 (rv.cutR (by rw [c1.n]; exact hc.1.1) hc.2)
    · exact h.elim
theorem fn_drop {P : Program} {w : World} {K : PySem.W.Frag} {mg : Str → Option Value} {base : Heap} {CX : CXT} {B : Bas} {f : Addr} {fd : FuncData} {ps : List Str} {k : Nat} {F : Fn} (h : FnOk P w K mg base CX k f fd ps (spF B F)) :
    FnOk P w K mg base CX k f fd ps (spF B (dropF F)) := h.imp fun vs H Q E ⟨m, S, ds, s, c, r, n, p⟩ => ⟨m, S, ds, s, c, r, n, p.drop c⟩
end G

set_option Elab.async false
set_option linter.all false
set_option maxRecDepth 100000
set_option maxHeartbeats 2000000
/-! G5: the operators by data -/
namespace G
open PySem L2
/-! ### helpers: an answer that makes no object, one that makes a new one -/
section
variable {B : Bas} {m : Mp} {H : Hp} {S : Sto} {Q : VK} {d : D}
theorem q_val {v : V} (s : Sub m H) (c : Cor B m S) (q : ∀ m' H' v, Le m H m' H' → Cor B m' S → Rep B m' d v → Q v H') (r : Rep B m d v) : Q v H := q m H v (Le.refl s) c r
theorem q_tup {ds : List D} {vs : List V} (s : Sub m H) (c : Cor B m S) (q : ∀ m' H' v, Le m H m' H' → Cor B m' S → Rep B m' (.tup ds) v → Q v H') (r : Reps B m ds vs) (p : Addr) (hp : H p = none) : Q (.ref p) (upd H p (.tup vs)) :=
  q _ _ _ (Le.new c s hp) (Cor.new c s hp) (rp_tup c s hp r)
theorem q_lst {ds : List D} {vs : List V} (s : Sub m H) (c : Cor B m S) (q : ∀ m' H' v, Le m H m' H' → Cor B m' S → Rep B m' (.lst ds) v → Q v H') (r : Reps B m ds vs) (p : Addr) (hp : H p = none) : Q (.ref p) (upd H p (.lst vs)) :=
  q _ _ _ (Le.new c s hp) (Cor.new c s hp) (rp_lst c s hp r)
theorem Rep.int_eq {i : Int} {v : V} (r : Rep B m (.int i) v) : v = .int i := by simpa only [Rep] using r
theorem Rep.str_eq {i : Str} {v : V} (r : Rep B m (.str i) v) : v = .str i := by simpa only [Rep] using r
theorem Rep.bl_eq {i : Bool} {v : V} (r : Rep B m (.bl i) v) : v = .bl i := by simpa only [Rep] using r
theorem Rep.non_eq {v : V} (r : Rep B m .non v) : v = .non := by simpa only [Rep] using r
end
/-! ### arithmetic -/
def dI (C : Int → Int → Prop) [∀ i j, Decidable (C i j)] (g : Int → Int → D) (_ : Sto) : D → D → Option D
  | .int i, .int j => if C i j then some (g i j) else none
  | _, _ => none
def dI0 (g : Int → Int → D) (_ : Sto) : D → D → Option D
  | .int i, .int j => some (g i j)
  | _, _ => none
theorem op2_I {B : Bas} {C : Int → Int → Prop} [∀ i j, Decidable (C i j)] {f : Int → Int → Int} : Op2 B (rI C fun i j => .int (f i j)) (dI C fun i j => .int (f i j)) := fun m S H x y d1 d2 d s c r1 r2 e Q q => by
  cases d1 with
  | int i =>
    cases d2 with
    | int j =>
      simp only [dI] at e
      split at e
      · cases e
        exact ⟨i, j, r1.int_eq, r2.int_eq, by assumption, q_val s c q (rp_int m)⟩
      · cases e
    | _ => cases e
  | _ => cases e
theorem op2_I0 {B : Bas} {f : Int → Int → Int} : Op2 B (rI0 fun i j => .int (f i j)) (dI0 fun i j => .int (f i j)) := fun m S H x y d1 d2 d s c r1 r2 e Q q => by
  cases d1 with
  | int i =>
    cases d2 with
    | int j => cases e; exact ⟨i, j, r1.int_eq, r2.int_eq, q_val s c q (rp_int m)⟩
    | _ => cases e
  | _ => cases e
theorem op2_B0 {B : Bas} {f : Int → Int → Bool} : Op2 B (rI0 fun i j => .bl (f i j)) (dI0 fun i j => .bl (f i j)) := fun m S H x y d1 d2 d s c r1 r2 e Q q => by
  cases d1 with
  | int i =>
    cases d2 with
    | int j => cases e; exact ⟨i, j, r1.int_eq, r2.int_eq, q_val s c q (rp_bl m)⟩
    | _ => cases e
  | _ => cases e
instance (i j : Int) : Decidable (CMul i j) := by unfold CMul; exact inferInstance
instance (i j : Int) : Decidable (CDiv i j) := by unfold CDiv; exact inferInstance
instance (i j : Int) : Decidable (CPow i j) := by unfold CPow; exact inferInstance
def dSub := dI0 fun i j => .int (i - j)
def dDiv := dI CDiv fun i j => .int (i / j)
def dMod := dI (fun _ j => 0 < j) fun i j => .int (i % j)
def dPow := dI CPow fun i j => .int (i ^ j.toNat)
def dShl := dI CPow fun i j => .int (i * 2 ^ j.toNat)
def dAnd := dI0 fun i j => .int (Builtin.bitAnd i j)
def dOr := dI0 fun i j => .int (Builtin.bitOr i j)
def dLt0 := dI0 fun i j => .bl (decide (i < j))
def dLe0 := dI0 fun i j => .bl (decide (i ≤ j))
def dGt0 := dI0 fun i j => .bl (decide (j < i))
def dGe0 := dI0 fun i j => .bl (decide (j ≤ i))
def dAdd (S : Sto) : D → D → Option D
  | .int i, .int j => some (.int (i + j))
  | .str x, .str y => if x.length + y.length ≤ sizeLine then some (.str (x ++ y)) else none
  | .tup x, .tup y => if x.length + y.length ≤ sizeLine then some (.tup (x ++ y)) else none
  | .ktp x, .ktp y => if x.length + y.length ≤ sizeLine ∧ x ≠ [] ∧ y ≠ [] then some (.tup (x ++ y)) else none
  | x, y => match plL S x, plL S y with
    | some x, some y => if x.length + y.length ≤ sizeLine then some (.lst (x ++ y)) else none
    | _, _ => none
def rStrAdd : R2 := fun x y H Q => ∃ i j, x = .str i ∧ y = .str j ∧ i.length + j.length ≤ sizeLine ∧ Q (.str (i ++ j)) H
def rAddU (K : PySem.W.Frag) : R2 := fun x y H Q => (rI0 (fun i j => .int (i + j)) x y H Q ∨ rStrAdd x y H Q) ∨ (rCatA K x y H Q ∨ rCat x y H Q)
theorem op_addU {X : Cx} : OpR X (binaryOp .Add) (rAddU X.K) := (op_add.or op_add_str).or (op_catA.or op_cat)
theorem op2_add {B : Bas} : Op2 B (rAddU B.K) dAdd := fun m S H x y d1 d2 d s c r1 r2 e Q q => by
  have fin : ∀ {a b : List D}, plL S d1 = some a → plL S d2 = some b → (if a.length + b.length ≤ sizeLine then some (D.lst (a ++ b)) else none) = some d → rAddU B.K x y H Q := fun {a b} h1 h2 e => by
    split at e
    · cases e
      obtain ⟨p1, vs, rfl, k1, q1⟩ := repP s c r1 h1
      obtain ⟨p2, us, rfl, k2, q2⟩ := repP s c r2 h2
      exact .inr (.inr ⟨p1, p2, vs, us, rfl, rfl, k1, k2, by rw [← q1.length, ← q2.length]; assumption, q_lst s c q (q1.append q2)⟩)
    · cases e
  unfold dAdd at e
  split at e
  · cases e
    exact .inl (.inl ⟨_, _, r1.int_eq, r2.int_eq, q_val s c q (rp_int m)⟩)
  · split at e
    · cases e
      exact .inl (.inr ⟨_, _, r1.str_eq, r2.str_eq, by assumption, q_val s c q (rp_str m)⟩)
    · cases e
  · split at e
    · cases e
      rename_i a b hl
      have r1' := r1
      have r2' := r2
      simp only [Rep] at r1 r2
      obtain ⟨p1, vs, rfl, k1, q1⟩ := r1
      obtain ⟨p2, us, rfl, k2, q2⟩ := r2
      refine .inr (.inl ⟨p1, p2, vs, us, rfl, rfl, k1.sq s, k2.sq s, by rw [← q1.length, ← q2.length]; exact hl, fun z => ?_, fun _ z => ?_, fun _ _ => q_tup s c q (q1.append q2)⟩)
      · have : a = [] := q1.nil_iff.mp z
        subst this
        exact q_val s c q r2'
      · have : b = [] := q2.nil_iff.mp z
        subst this
        rw [List.append_nil] at q
        exact q_val s c q r1'
    · cases e
  · split at e
    · cases e
      rename_i a b hl
      simp only [Rep] at r1 r2
      obtain ⟨p1, vs, rfl, k1, q1⟩ := r1
      obtain ⟨p2, us, rfl, k2, q2⟩ := r2
      exact .inr (.inl ⟨p1, p2, vs, us, rfl, rfl, k1.sq, k2.sq, by rw [← q1.length, ← q2.length]; exact hl.1, fun z => absurd (q1.nil_iff.mp z) hl.2.1, fun _ z => absurd (q2.nil_iff.mp z) hl.2.2, fun _ _ => q_tup s c q (q1.append q2)⟩)
    · cases e
  · split at e
    · rename_i h1 h2
      exact fin h1 h2 e
    · cases e
def dMul (S : Sto) : D → D → Option D
  | .int i, .int j => if CMul i j then some (.int (i * j)) else none
  | x, .int k => match plL S x with
    | some xs => if -(2 ^ 63) ≤ k ∧ k < 2 ^ 63 ∧ xs.length * k.toNat ≤ sizeLine then some (.lst (List.replicate k.toNat xs).flatten) else none
    | none => none
  | _, _ => none
theorem Reps.flat {B : Bas} {m : Mp} {ds : List D} {vs : List V} (r : Reps B m ds vs) : ∀ n : Nat, Reps B m (List.replicate n ds).flatten (List.replicate n vs).flatten
  | 0 => Reps.nil
  | n + 1 => by
    rw [List.replicate_succ, List.replicate_succ, List.flatten_cons, List.flatten_cons]
    exact r.append (Reps.flat r n)
theorem op_mulU {X : Cx} : OpR X (binaryOp .Mult) (fun x y H Q => rI CMul (fun i j => .int (i * j)) x y H Q ∨ rRep x y H Q) := op_mul.or op_rep
theorem op2_mul {B : Bas} : Op2 B (fun x y H Q => rI CMul (fun i j => .int (i * j)) x y H Q ∨ rRep x y H Q) dMul := fun m S H x y d1 d2 d s c r1 r2 e Q q => by
  unfold dMul at e
  split at e
  · split at e
    · cases e
      exact .inl ⟨_, _, r1.int_eq, r2.int_eq, by assumption, q_val s c q (rp_int m)⟩
    · cases e
  · split at e
    · rename_i xs h1
      split at e
      · rename_i hk
        cases e
        obtain ⟨p1, vs, rfl, k1, q1⟩ := repP s c r1 h1
        exact .inr ⟨p1, _, vs, rfl, r2.int_eq, k1, hk.1, hk.2.1, by rw [← q1.length]; exact hk.2.2, q_lst s c q (q1.flat _)⟩
      · cases e
    · cases e
  · cases e
/-! ### equality, membership -/
def dEqB (S : Sto) (x y : D) : Option Bool := match x, y with
  | .str a, .str b => some (decide (a = b))
  | x, y => match pdv S x, pdv S y with
    | some p, some q => if SeqAt.shaped p = true ∧ SeqAt.shaped q = true then some (PyData.eqv p q) else none
    | _, _ => none
def dEq (S : Sto) (x y : D) : Option D := (dEqB S x y).map .bl
def dNe (S : Sto) (x y : D) : Option D := (dEqB S x y).map fun b => .bl (!b)
theorem dEqB_of {B : Bas} {m : Mp} {H : Hp} {S : Sto} {x y : V} {d1 d2 : D} {k : Bool} (s : Sub m H) (c : Cor B m S) (r1 : Rep B m d1 x) (r2 : Rep B m d2 y) (e : dEqB S d1 d2 = some k) :
    (∃ a b : Str, x = .str a ∧ y = .str b ∧ k = decide (a = b)) ∨ ∃ p q, Dp B.K H x p ∧ Dp B.K H y q ∧ SeqAt.shaped p = true ∧ SeqAt.shaped q = true ∧ k = PyData.eqv p q := by
  unfold dEqB at e
  split at e
  · cases e
    exact .inl ⟨_, _, r1.str_eq, r2.str_eq, rfl⟩
  · split at e
    · rename_i p q h1 h2
      split at e
      · rename_i hs
        cases e
        exact .inr ⟨p, q, r1.dpv s c h1, r2.dpv s c h2, hs.1, hs.2, rfl⟩
      · cases e
    · cases e
theorem str_dec (a b : Str) : decide (V.str a = V.str b) = decide (a = b) := by
  by_cases h : a = b
  · subst h; simp
  · rw [decide_eq_false h, decide_eq_false fun z => h (by injection z)]
def rEqU (K : PySem.W.Frag) : R2 := fun x y H Q => rEq x y H Q ∨ rEqD K x y H Q
def rNeU (K : PySem.W.Frag) : R2 := fun x y H Q => rNe x y H Q ∨ rNeD K x y H Q
theorem op_eqU {X : Cx} (hu : X.A.units + 64 < cLine) : OpR X (compareOp .Eq) (rEqU X.K) := op_eq.or (op_eqD hu)
theorem op_neU {X : Cx} (hu : X.A.units + 64 < cLine) : OpR X (compareOp .NotEq) (rNeU X.K) := op_ne.or (op_neD hu)
theorem op2_eq {B : Bas} : Op2 B (rEqU B.K) dEq := fun m S H x y d1 d2 d s c r1 r2 e Q q => by
  unfold dEq at e
  cases h : dEqB S d1 d2 with
  | none => rw [h] at e; cases e
  | some k =>
    rw [h] at e
    cases e
    rcases dEqB_of s c r1 r2 h with ⟨a, b, rfl, rfl, rfl⟩ | ⟨p, z, a1, a2, a3, a4, rfl⟩
    · exact .inl ⟨rfl, by rw [str_dec]; exact q_val s c q (rp_bl m)⟩
    · exact .inr ⟨p, z, a1, a2, a3, a4, q_val s c q (rp_bl m)⟩
theorem op2_ne {B : Bas} : Op2 B (rNeU B.K) dNe := fun m S H x y d1 d2 d s c r1 r2 e Q q => by
  unfold dNe at e
  cases h : dEqB S d1 d2 with
  | none => rw [h] at e; cases e
  | some k =>
    rw [h] at e
    cases e
    rcases dEqB_of s c r1 r2 h with ⟨a, b, rfl, rfl, rfl⟩ | ⟨p, z, a1, a2, a3, a4, rfl⟩
    · exact .inl ⟨rfl, by rw [str_dec]; exact q_val s c q (rp_bl m)⟩
    · exact .inr ⟨p, z, a1, a2, a3, a4, q_val s c q (rp_bl m)⟩
/-- x in t, a tuple -/
def rInT (K : PySem.W.Frag) (f : Bool → Bool) : R2 := fun x y H Q => ∃ d ds, Dp K H x d ∧ Dp K H y (.tuple ds) ∧ SeqAt.shaped d = true ∧ SeqAt.shaped (.tuple ds) = true ∧ Q (.bl (f (ds.any fun z => PyData.eqv z d))) H
theorem op_inT {X : Cx} (hu : X.A.units + 65 < cLine) : OpR X (compareOp .In) (rInT X.K fun b => b) := by
  intro pins s σ H x y v u Q I rx ry h
  obtain ⟨d, ds, hd, he, sd, se, q⟩ := h
  obtain ⟨as, r1⟩ := Dp.reads I d x v hd rx
  obtain ⟨bs, r2⟩ := Dp.reads I (.tuple ds) y u he ry
  exact SeqAt.in_tuple_reads r2 r1 (SeqAt.canLay_of_shaped se) (SeqAt.canLay_of_shaped sd) (PyProof.Rows.room_in_shaped sd hu) ⟨.bl _, H, I, rfl, q⟩
theorem op_notInT {X : Cx} (hu : X.A.units + 65 < cLine) : OpR X (compareOp .NotIn) (rInT X.K fun b => !b) := by
  intro pins s σ H x y v u Q I rx ry h
  obtain ⟨d, ds, hd, he, sd, se, q⟩ := h
  obtain ⟨as, r1⟩ := Dp.reads I d x v hd rx
  obtain ⟨bs, r2⟩ := Dp.reads I (.tuple ds) y u he ry
  exact SeqAt.notIn_tuple_reads r2 r1 (SeqAt.canLay_of_shaped se) (SeqAt.canLay_of_shaped sd) (PyProof.Rows.room_in_shaped sd hu) ⟨.bl _, H, I, rfl, q⟩
def rInU (K : PySem.W.Frag) : R2 := fun x y H Q => ((∃ (c : Nat) (z : Str), x = .str ⟨#[c]⟩ ∧ y = .str z ∧ Q (.bl (decide (c ∈ z.cps.toList))) H) ∨ rInD K x y H Q) ∨ rInT K (fun b => b) x y H Q
def rNotInU (K : PySem.W.Frag) : R2 := fun x y H Q => ((∃ (c : Nat) (z : Str), x = .str ⟨#[c]⟩ ∧ y = .str z ∧ Q (.bl (!decide (c ∈ z.cps.toList))) H) ∨ rNotInD K x y H Q) ∨ rInT K (fun b => !b) x y H Q
theorem op_inU {X : Cx} (hu : X.A.units + 65 < cLine) : OpR X (compareOp .In) (rInU X.K) := (op_in_sign.or (op_inD hu)).or (op_inT hu)
theorem op_notInU {X : Cx} (hu : X.A.units + 65 < cLine) : OpR X (compareOp .NotIn) (rNotInU X.K) := (op_notIn_sign.or (op_notInD hu)).or (op_notInT hu)
def sign1 (w : Str) : Option Nat := match w.cps.toList with
  | [c] => some c
  | _ => none
theorem sign1_eq {w : Str} {c : Nat} (h : sign1 w = some c) : w = ⟨#[c]⟩ := by
  unfold sign1 at h
  split at h
  · rename_i x hx
    cases h
    obtain ⟨a⟩ := w
    congr 1
    exact Array.toList_inj.mp (by simpa using hx)
  · cases h
def dInB (S : Sto) (x y : D) : Option Bool := match y with
  | .str z => match x with
    | .str w => (sign1 w).map fun c => decide (c ∈ z.cps.toList)
    | _ => none
  | y => match seqL S y, seqT y with
    | some ds, _ => match pdv S x, pds ds with
      | some p, some qs => if SeqAt.shaped p = true ∧ SeqAt.shaped (.list qs) = true then some (qs.any fun z => PyData.eqv z p) else none
      | _, _ => none
    | none, some ds => match pdv S x, pds ds with
      | some p, some qs => if SeqAt.shaped p = true ∧ SeqAt.shaped (.tuple qs) = true then some (qs.any fun z => PyData.eqv z p) else none
      | _, _ => none
    | none, none => none
theorem dInB_of {B : Bas} {m : Mp} {H : Hp} {S : Sto} {x y : V} {d1 d2 : D} {k : Bool} (s : Sub m H) (c : Cor B m S) (r1 : Rep B m d1 x) (r2 : Rep B m d2 y) (e : dInB S d1 d2 = some k) :
    (∃ (c : Nat) (z : Str), x = .str ⟨#[c]⟩ ∧ y = .str z ∧ k = decide (c ∈ z.cps.toList)) ∨ (∃ p qs, Dp B.K H x p ∧ Dp B.K H y (.list qs) ∧ SeqAt.shaped p = true ∧ SeqAt.shaped (.list qs) = true ∧ k = (qs.any fun z => PyData.eqv z p)) ∨
      ∃ p qs, Dp B.K H x p ∧ Dp B.K H y (.tuple qs) ∧ SeqAt.shaped p = true ∧ SeqAt.shaped (.tuple qs) = true ∧ k = (qs.any fun z => PyData.eqv z p) := by
  unfold dInB at e
  split at e
  · split at e
    · rename_i z _ w
      cases h : sign1 w with
      | none => rw [h] at e; cases e
      | some c' =>
        rw [h] at e
        cases e
        have := sign1_eq h
        subst this
        exact .inl ⟨_, _, r1.str_eq, r2.str_eq, rfl⟩
    · cases e
  · split at e
    · rename_i ds _ h1
      split at e
      · rename_i p qs h2 h3
        split at e
        · rename_i hs
          cases e
          obtain ⟨a, vs, rfl, q, t⟩ := repL s c r2 h1
          exact .inr (.inl ⟨p, qs, r1.dpv s c h2, .lst q (t.dp s h3), hs.1, hs.2, rfl⟩)
        · cases e
      · cases e
    · rename_i ds _ h1
      split at e
      · rename_i p qs h2 h3
        split at e
        · rename_i hs
          cases e
          obtain ⟨a, vs, rfl, q, t⟩ := repT s r2 h1
          exact .inr (.inr ⟨p, qs, r1.dpv s c h2, .tup q (t.dp s h3), hs.1, hs.2, rfl⟩)
        · cases e
      · cases e
    · cases e
def dIn (S : Sto) (x y : D) : Option D := (dInB S x y).map .bl
def dNotIn (S : Sto) (x y : D) : Option D := (dInB S x y).map fun b => .bl (!b)
theorem op2_in {B : Bas} : Op2 B (rInU B.K) dIn := fun m S H x y d1 d2 d s c r1 r2 e Q q => by
  unfold dIn at e
  cases h : dInB S d1 d2 with
  | none => rw [h] at e; cases e
  | some k =>
    rw [h] at e
    cases e
    rcases dInB_of s c r1 r2 h with ⟨c', z, a1, a2, rfl⟩ | ⟨p, qs, a1, a2, a3, a4, rfl⟩ | ⟨p, qs, a1, a2, a3, a4, rfl⟩
    · exact .inl (.inl ⟨c', z, a1, a2, q_val s c q (rp_bl m)⟩)
    · exact .inl (.inr ⟨p, qs, a1, a2, a3, a4, q_val s c q (rp_bl m)⟩)
    · exact .inr ⟨p, qs, a1, a2, a3, a4, q_val s c q (rp_bl m)⟩
theorem op2_notIn {B : Bas} : Op2 B (rNotInU B.K) dNotIn := fun m S H x y d1 d2 d s c r1 r2 e Q q => by
  unfold dNotIn at e
  cases h : dInB S d1 d2 with
  | none => rw [h] at e; cases e
  | some k =>
    rw [h] at e
    cases e
    rcases dInB_of s c r1 r2 h with ⟨c', z, a1, a2, rfl⟩ | ⟨p, qs, a1, a2, a3, a4, rfl⟩ | ⟨p, qs, a1, a2, a3, a4, rfl⟩
    · exact .inl (.inl ⟨c', z, a1, a2, q_val s c q (rp_bl m)⟩)
    · exact .inl (.inr ⟨p, qs, a1, a2, a3, a4, q_val s c q (rp_bl m)⟩)
    · exact .inr ⟨p, qs, a1, a2, a3, a4, q_val s c q (rp_bl m)⟩
/-! ### is None -/
def isNon : D → Bool
  | .non => true
  | _ => false
def dIs (_ : Sto) (x y : D) : Option D := match y with
  | .non => some (.bl (isNon x))
  | _ => none
def dIsNot (_ : Sto) (x y : D) : Option D := match y with
  | .non => some (.bl (!isNon x))
  | _ => none
theorem rep_non_iff {B : Bas} {m : Mp} {d : D} {v : V} (r : Rep B m d v) : decide (v = V.non) = isNon d := by
  cases d <;> simp only [Rep] at r
  case non => subst r; rfl
  case bl => subst r; rfl
  case int => subst r; rfl
  case str => subst r; rfl
  case fn => subst r; rfl
  case ty => subst r; rfl
  case cl => subst r; rfl
  case ref => obtain ⟨_, rfl⟩ := r; rfl
  case tup => obtain ⟨a, vs, rfl, _⟩ := r; rfl
  case lst => obtain ⟨a, vs, rfl, _⟩ := r; rfl
  case scr => obtain ⟨a, vs, rfl, _⟩ := r; rfl
  case ktp => obtain ⟨a, vs, rfl, _⟩ := r; rfl
  case dic => obtain ⟨a, vs, rfl, _⟩ := r; rfl
  case ins => obtain ⟨a, dx, vs, rfl, _⟩ := r; rfl
def rIsU : R2 := fun x y H Q => y = .non ∧ Q (.bl (decide (x = .non))) H
def rIsNotU : R2 := fun x y H Q => y = .non ∧ Q (.bl (!decide (x = .non))) H
theorem op2_is {B : Bas} : Op2 B rIsU dIs := fun m S H x y d1 d2 d s c r1 r2 e Q q => by
  cases d2 with
  | non => cases e; exact ⟨r2.non_eq, by rw [rep_non_iff r1]; exact q_val s c q (rp_bl m)⟩
  | _ => cases e
theorem op2_isNot {B : Bas} : Op2 B rIsNotU dIsNot := fun m S H x y d1 d2 d s c r1 r2 e Q q => by
  cases d2 with
  | non => cases e; exact ⟨r2.non_eq, by rw [rep_non_iff r1]; exact q_val s c q (rp_bl m)⟩
  | _ => cases e
/-! ### unary -/
def dNeg (_ : Sto) : D → Option D
  | .int i => some (.int (-i))
  | _ => none
def mUn (g : Sto → D → Option D) (a : ME) : ME := fun en S => (a en S).bind fun x S1 => match g S1 x with
  | some d => .ok d S1
  | none => .bad
theorem op1_neg {B : Bas} : Op1 B (rU fun i => .int (-i)) dNeg := fun m S H x d1 d s c r1 e Q q => by
  cases d1 with
  | int i => cases e; exact ⟨i, r1.int_eq, q_val s c q (rp_int m)⟩
  | _ => cases e
theorem tUn_of {B : Bas} {W : WX} {r : V → Hp → VK → Prop} {g : Sto → D → Option D} {a : ME} (h : Op1 B r g) (σ : L2.St) (H : Hp) (Q : VK) (t : tE B W (mUn g a) σ H Q) : tUn r (tE B W a) σ H Q := by
  obtain ⟨m, S, en, s, c, er, p⟩ := t
  refine ⟨m, S, en, s, c, er, (Post.bind p).imp ?_⟩
  rintro x H1 ⟨d1, S1, m1, _, l1, c1, r1, p1⟩
  cases e : g S1 d1 with
  | none => rw [e] at p1; exact p1.elim
  | some d => rw [e] at p1; exact h m1 S1 H1 x d1 d l1.sub c1 r1 e Q p1
theorem de_un {X : Cx} {B : Bas} {W : WX} {op : UnaryOp} {a : Expr} {pos : Pos} {ma : ME} {r : V → Hp → VK → Prop} {g : Sto → D → Option D} (ho : UnR X (unaryOp op) r) (h : Op1 B r g) (ha : PE X a (tE B W ma)) : PE X (.UnaryOp op a pos) (tE B W (mUn g ma)) :=
  PE.cut (pe_un ho ha) (tUn_of h)
/-! ### subscripts -/
def lookD : List D → List D → D → Option D
  | k :: ks, v :: vs, x => match keyD k, keyD x with
    | some a, some b => if a = b then some v else lookD ks vs x
    | _, _ => match tkeyD k, tkeyD x with
      | some a, some b => if a = b then some v else lookD ks vs x
      | _, _ => none
  | _, _, _ => none
def dIdx (S : Sto) (x y : D) : Option D := match y with
  | .int i => match x with
    | .str z => if z.length ≤ sizeLine then (atI z.cps.toList i).map fun c => .str ⟨#[c]⟩ else none
    | x => match seqL S x, seqT x with
      | some ds, _ => atI ds i
      | none, some ds => atI ds i
      | none, none => none
  | _ => none
theorem Reps.at {B : Bas} {m : Mp} {ds : List D} {vs : List V} {i : Int} {d : D} (r : Reps B m ds vs) (e : atI ds i = some d) : ∃ v, atI vs i = some v ∧ Rep B m d v := by
  unfold atI at e ⊢
  rw [← r.length]
  cases h : ixN ds.length i with
  | none => rw [h] at e; cases e
  | some j => rw [h] at e; exact r.get e
theorem op2_idx {B : Bas} : Op2 B (rIx B.K) dIdx := fun m S H x y d1 d2 d s c r1 r2 e Q q => by
  unfold dIdx at e
  split at e
  · split at e
    · split at e
      · rename_i z hz
        rename_i i' _
        cases h : atI z.cps.toList i' with
        | none => rw [h] at e; cases e
        | some c' => rw [h] at e; cases e; exact .inr (.inr ⟨z, _, c', r1.str_eq, r2.int_eq, hz, h, q_val s c q (rp_str m)⟩)
      · cases e
    · split at e
      · rename_i ds _ h1
        obtain ⟨a, vs, rfl, k, t⟩ := repL s c r1 h1
        obtain ⟨v, hv, rv⟩ := t.at e
        exact .inl ⟨a, vs, _, v, rfl, r2.int_eq, k, hv, q_val s c q rv⟩
      · rename_i ds _ h1
        obtain ⟨a, vs, rfl, k, t⟩ := repT s r1 h1
        obtain ⟨v, hv, rv⟩ := t.at e
        exact .inr (.inl ⟨a, vs, _, v, rfl, r2.int_eq, k, hv, q_val s c q rv⟩)
      · cases e
  · cases e
theorem de_idx {X : Cx} {B : Bas} {W : WX} {a b : Expr} {pos : Pos} {ma mb : ME} {r : R2} {g : Sto → D → D → Option D} (hr : IxR X r) (h : Op2 B r g) (ha : PE X a (tE B W ma)) (hb : PE X b (tE B W mb)) (hs : PlainIx b := by intro _ _; rfl) : PE X (.Subscript a b pos) (tE B W (mOp g ma mb)) :=
  PE.cut (pe_ix hr ha hb hs) (tOp_of h)
end G

set_option Elab.async false
set_option linter.all false
set_option maxRecDepth 100000
set_option maxHeartbeats 2000000
/-! G6: what is walked; list comprehensions -/
namespace G
open PySem L2
/-! ### what is walked -/
theorem PI.cut {X : Cx} {tg e : Expr} {t t' : TI} (h : PI X tg e t) (f : ∀ σ H R, t' σ H R → t σ H R) : PI X tg e t' := ⟨fun pins s σ H R I q => h.run pins s σ H R I (f σ H R q)⟩
def iSeqU (K : PySem.W.Frag) (tl : TE) : TI := fun σ H R => tl σ H fun x H1 => ∃ a, x = .ref a ∧ (((∃ xs, SqL K H1 a xs) ∧ R (Itl K a) H1) ∨ ((∃ xs, SqT K H1 a xs) ∧ R (Itt K a) H1))
theorem pi_seq {X : Cx} {tg l : Expr} {tl : TE} (hl : PE X l tl) : PI X tg l (iSeqU X.K tl) := ⟨fun pins s σ H R I h => by
  refine thn (hl.run pins s σ H _ I h) fun v s1 hq => ?_
  obtain ⟨x, H1, I1, r1, a, rfl, q⟩ := hq
  cases r1
  have fresh : ∀ b, b ∈ [s1.heap.objs.size] → FpOk X pins H1 b := fun b hb => by
    have e : b = s1.heap.objs.size := by simpa using hb
    rw [e]
    exact I1.fpOk (Nat.le_refl _) (I1.hok.fresh (Nat.le_refl _))
  rcases q with ⟨⟨xs, hs⟩, q⟩ | ⟨⟨xs, hs⟩, q⟩
  · obtain ⟨its, _, p, _⟩ := I1.list hs
    exact wpAny_pyIter_list p.isList ⟨_, _, _, _, H1, rfl, I1.kept (t' := s1.toks) (fun b o e => Heap.get?_push_of_some _ e), turn_list a _, ⟨_, Heap.get?_push_size _ rfl, rfl, rfl⟩, fresh, q⟩
  · obtain ⟨its, _, p, _⟩ := I1.tuple hs
    exact wpAny_pyIter_tuple (show s1.heap.IsTuple a its.toArray from p) ⟨_, _, _, _, H1, rfl, I1.kept (t' := s1.toks) (fun b o e => Heap.get?_push_of_some _ e), turn_tuple a _, ⟨_, Heap.get?_push_size _ rfl, rfl, rfl⟩, fresh, q⟩⟩
def iSeq (e : ME) : MI := fun en S => (e en S).bind fun d S1 => match seqL S1 d, seqT d with
  | some ds, _ => .ok ⟨ds, fun S => seqL S d = some ds⟩ S1
  | none, some ds => .ok ⟨ds, fun _ => True⟩ S1
  | none, none => .bad
theorem itr_list {B : Bas} {m : Mp} {a : Addr} {d : D} {ds : List D} (r : Rep B m d (.ref a)) : ItR B m ⟨ds, fun S => seqL S d = some ds⟩ (Itl B.K a) := fun m' H' S k s c p => by
  obtain ⟨a', vs, e, hs, rs⟩ := repL s c (r.monoK k) p
  cases e
  refine ⟨fun i x e => ?_, fun i hi => ⟨vs, hs, by rw [← rs.length]; exact hi⟩⟩
  obtain ⟨v, hv, rv⟩ := rs.get e
  refine ⟨⟨vs, v, hs, hv⟩, fun y H'' hy => ?_⟩
  obtain ⟨rfl, hy⟩ := hy
  have := hy vs hs
  rw [hv] at this
  cases this
  exact ⟨m', Le.refl s, c, rv⟩
theorem itr_tup {B : Bas} {m : Mp} {a : Addr} {d : D} {ds : List D} (r : Rep B m d (.ref a)) (e : seqT d = some ds) : ItR B m ⟨ds, fun _ => True⟩ (Itt B.K a) := fun m' H' S k s c _ => by
  obtain ⟨a', vs, e, hs, rs⟩ := repT s (r.monoK k) e
  cases e
  refine ⟨fun i x e => ?_, fun i hi => ⟨vs, hs, by rw [← rs.length]; exact hi⟩⟩
  obtain ⟨v, hv, rv⟩ := rs.get e
  refine ⟨⟨vs, v, hs, hv⟩, fun y H'' hy => ?_⟩
  obtain ⟨rfl, hy⟩ := hy
  have := hy vs hs
  rw [hv] at this
  cases this
  exact ⟨m', Le.refl s, c, rv⟩
theorem di_seq {X : Cx} {B : Bas} {W : WX} {tg l : Expr} {me : ME} (hK : B.K = X.K := by rfl) (hl : PE X l (tE B W me)) : PI X tg l (tI B W (iSeq me)) :=
  PI.cut (pi_seq hl) fun σ H R ⟨m, S, en, s, c, er, p⟩ => ⟨m, S, en, s, c, er, (Post.bind p).imp (by
    rintro v H1 ⟨d, S1, m1, _, l1, c1, r1, p1⟩
    rw [← hK]
    cases h1 : seqL S1 d with
    | some ds =>
      rw [h1] at p1
      obtain ⟨a, vs, rfl, hs, _⟩ := repL l1.sub c1 r1 h1
      exact ⟨a, rfl, .inl ⟨⟨vs, hs⟩, p1 m1 H1 _ (Le.refl l1.sub) c1 (itr_list r1)⟩⟩
    | none =>
      cases h2 : seqT d with
      | some ds =>
        rw [h1, h2] at p1
        obtain ⟨a, vs, rfl, hs, _⟩ := repT l1.sub r1 h2
        exact ⟨a, rfl, .inr ⟨⟨vs, hs⟩, p1 m1 H1 _ (Le.refl l1.sub) c1 (itr_tup r1 h2)⟩⟩
      | none => rw [h1, h2] at p1; exact p1.elim)⟩
def rangeD (lo : Int) (n : Nat) : List D := (List.range n).map fun k => .int (lo + (k : Nat))
theorem itr_range {B : Bas} {m : Mp} {lo : Int} {n : Nat} : ItR B m ⟨rangeD lo n, fun _ => True⟩ (Itr lo n) := fun m' H' S k s c _ => by
  refine ⟨fun i x e => ?_, fun i hi => by
    have hi : n ≤ i := by simpa [rangeD] using hi
    exact hi⟩
  have hi : i < n := by
    have := (List.getElem?_eq_some_iff.mp e).1
    simpa [rangeD] using this
  refine ⟨hi, fun y H'' hy => ?_⟩
  obtain ⟨rfl, rfl⟩ := hy
  refine ⟨m', Le.refl s, c, ?_⟩
  have : x = .int (lo + (i : Nat)) := by
    unfold rangeD at e
    rw [List.getElem?_map, List.getElem?_range hi] at e
    cases e
    rfl
  rw [this]
  exact rp_int m'
def iRg1 (r : MA) : MI := fun en S => (r en S).bind fun ds S1 => match ds with
  | [.int j] => if -(2 ^ 62) ≤ j ∧ j < 2 ^ 62 then .ok ⟨rangeD 0 j.toNat, fun _ => True⟩ S1 else .bad
  | _ => .bad
def iRg2 (r : MA) : MI := fun en S => (r en S).bind fun ds S1 => match ds with
  | [.int i, .int j] => if (-(2 ^ 62) ≤ i ∧ i < 2 ^ 62) ∧ -(2 ^ 62) ≤ j ∧ j < 2 ^ 62 then .ok ⟨rangeD i (j - i).toNat, fun _ => True⟩ S1 else .bad
  | _ => .bad
theorem di_rg1 {X : Cx} {B : Bas} {W : WX} {tg a : Expr} {mr : MA} {p pos : Pos} (hm : X.mg "range" = none) (ha : PA X [a] (tA B W mr)) (hg : Gl X "range" := by rfl) (hs : starEach [a] X.env = [(false, eval a X.env)] := by rfl) :
    PI X tg (.Call (.Name "range" p) [a] [] pos) (tI B W (iRg1 mr)) := PI.cut (pi_range1 hg hm ha hs) fun σ H R ⟨m, S, en, s, c, er, p⟩ => ⟨m, S, en, s, c, er, (Post.bind p).imp (by
    rintro vs H1 ⟨ds, S1, m1, _, l1, c1, r1, p1⟩
    split at p1
    · rename_i j _
      split at p1
      · rename_i hj
        simp only [Reps] at r1
        obtain ⟨v, r, rfl, rv, rfl⟩ := r1
        exact ⟨j, by rw [rv.int_eq], hj.1, hj.2, p1 m1 H1 _ (Le.refl l1.sub) c1 itr_range⟩
      · exact p1.elim
    · exact p1.elim)⟩
theorem di_rg2 {X : Cx} {B : Bas} {W : WX} {tg a b : Expr} {mr : MA} {p pos : Pos} (hm : X.mg "range" = none) (ha : PA X [a, b] (tA B W mr)) (hg : Gl X "range" := by rfl) (hs : starEach [a, b] X.env = [(false, eval a X.env), (false, eval b X.env)] := by rfl) (hs2 : starEach [b] X.env = [(false, eval b X.env)] := by rfl) :
    PI X tg (.Call (.Name "range" p) [a, b] [] pos) (tI B W (iRg2 mr)) := PI.cut (pi_range2 hg hm ha hs hs2) fun σ H R ⟨m, S, en, s, c, er, p⟩ => ⟨m, S, en, s, c, er, (Post.bind p).imp (by
    rintro vs H1 ⟨ds, S1, m1, _, l1, c1, r1, p1⟩
    split at p1
    · rename_i i j _
      split at p1
      · rename_i hj
        simp only [Reps] at r1
        obtain ⟨v, r, rfl, rv, v2, r2, rfl, rv2, rfl⟩ := r1
        exact ⟨i, j, by rw [rv.int_eq, rv2.int_eq], ⟨hj.1.1, hj.1.2, hj.2.1, hj.2.2⟩, p1 m1 H1 _ (Le.refl l1.sub) c1 itr_range⟩
      · exact p1.elim
    · exact p1.elim)⟩
/-! ### list comprehensions -/
def Res.noex {α : Type} : Res α → Res α
  | .ok a S => .ok a S
  | _ => .bad
theorem Post.noex {α β : Type} {B : Bas} {R : Mp → α → β → Prop} {W W' : XK} {m : Mp} {H : Hp} {Q : β → Hp → Prop} {r : Res α} (h : Post B R W m H Q r.noex) : Post B R W' m H Q r := by
  cases r with
  | ok a S => exact h
  | ex c ns vs S => exact h.elim
  | bad => exact h
def wipeE (en : En) : List Nat → En
  | [] => en
  | v :: vs => (wipeE en vs).set v none
theorem wipeE_length (en : En) : ∀ vs : List Nat, (wipeE en vs).length = en.length
  | [] => rfl
  | v :: vs => by unfold wipeE; rw [List.length_set, wipeE_length en vs]
theorem wipe_other {σ : L2.St} {j : Nat} : ∀ {vs : List Nat}, j ∉ vs → (wipe σ vs)[j]? = σ[j]?
  | [], _ => rfl
  | v :: vs, h => by
    unfold wipe
    rw [List.getElem?_set_ne (fun z => h (by simp [z]))]
    exact wipe_other fun z => h (List.mem_cons_of_mem _ z)
theorem wipe_own {σ : L2.St} {j : Nat} (hj : j < σ.length) : ∀ {vs : List Nat}, j ∈ vs → (wipe σ vs)[j]? = some none
  | v :: vs, h => by
    unfold wipe
    by_cases e : v = j
    · subst e
      rw [List.getElem?_set_self (by rw [wipe_length]; exact hj)]
    · rw [List.getElem?_set_ne e]
      rcases List.mem_cons.mp h with z | z
      · exact absurd z.symm e
      · exact wipe_own hj z
theorem wipeE_some {en : En} {j : Nat} {d : D} : ∀ {vs : List Nat}, (wipeE en vs)[j]? = some (some d) → j ∉ vs ∧ en[j]? = some (some d)
  | [], h => ⟨by simp, h⟩
  | v :: vs, h => by
    unfold wipeE at h
    by_cases e : v = j
    · subst e
      by_cases hv : v < (wipeE en vs).length
      · rw [List.getElem?_set_self hv] at h; cases h
      · rw [List.getElem?_eq_none (by rw [List.length_set]; omega)] at h; cases h
    · rw [List.getElem?_set_ne e] at h
      obtain ⟨h1, h2⟩ := wipeE_some h
      exact ⟨by
        intro z
        rcases List.mem_cons.mp z with z | z
        · exact e z.symm
        · exact h1 z, h2⟩
theorem EnR.wipe {B : Bas} {m : Mp} {en : En} {σ : L2.St} (h : EnR B m en σ) (vs : List Nat) : EnR B m (wipeE en vs) (L2.wipe σ vs) := by
  refine ⟨by rw [wipeE_length, L2.wipe_length, h.1], fun i d e => ?_⟩
  obtain ⟨h1, h2⟩ := wipeE_some e
  obtain ⟨v, hv, rv⟩ := h.2 i d h2
  exact ⟨v, by rw [wipe_other h1]; exact hv, rv⟩
theorem wipe_only {own vs : List Nat} {σ σ' : L2.St} (h : Only own (wipe σ vs) σ') (hs : ∀ j ∈ own, j ∈ vs) : wipe σ' vs = wipe σ vs := by
  have hl : σ'.length = σ.length := by rw [h.1, wipe_length]
  apply List.ext_getElem?
  intro j
  by_cases hj : j ∈ vs
  · by_cases hk : j < σ.length
    · rw [wipe_own (by rw [hl]; exact hk) hj, wipe_own hk hj]
    · rw [List.getElem?_eq_none (by rw [wipe_length, hl]; omega), List.getElem?_eq_none (by rw [wipe_length]; omega)]
  · rw [wipe_other hj, h.2 j fun z => hj (hs j z)]
open Classical in
noncomputable def comp (g : MG) (t : MT) (e : ME) (P : Sto → Prop) (en : En) : List D → List D → Sto → Res (List D)
  | [], acc, S => if P S then .ok acc S else .bad
  | d :: ds, acc, S => if P S then (match g d en with
    | none => .bad
    | some en1 => (t en1 S).noex.bind fun k S1 => match k with
      | false => comp g t e P en ds acc S1
      | true => (e en1 S1).noex.bind fun x S2 => if acc.length < sizeLine then comp g t e P en ds (acc ++ [x]) S2 else .bad) else .bad
noncomputable def cItems (i : MI) (g : MG) (t : MT) (e : ME) (vs : List Nat) (en : En) (S : Sto) : Res (List D) := (i en S).bind fun its S1 => comp g t e its.P (wipeE en vs) its.ds [] S1
noncomputable def mLc (i : MI) (g : MG) (t : MT) (e : ME) (vs : List Nat) : ME := fun en S => (cItems i g t e vs en S).bind fun ds S1 => .ok (.lst ds) S1
noncomputable def mLcN (i : MI) (g : MG) (t : MT) (e : ME) (vs : List Nat) : ME := fun en S => (cItems i g t e vs en S).bind fun ds S1 => .ok (.ref S1.length) (S1 ++ [.lst ds])
def del (H : Hp) (p : Addr) : Hp := fun a => if a = p then none else H a
theorem del_at {H : Hp} {p : Addr} : del H p p = none := by unfold del; rw [if_pos rfl]
theorem del_ne {H : Hp} {p a : Addr} (h : a ≠ p) : del H p a = H a := by unfold del; rw [if_neg h]
theorem del_upd {H : Hp} {p : Addr} {o : HO} : del (upd H p o) p = del H p := by
  funext a
  by_cases h : a = p
  · rw [h, del_at, del_at]
  · rw [del_ne h, del_ne h, upd_ne h]
theorem upd_del {H : Hp} {p : Addr} {o : HO} (h : H p = some o) : upd (del H p) p o = H := by
  funext a
  by_cases e : a = p
  · rw [e, upd_same, h]
  · rw [upd_ne e, del_ne e]
theorem del_new {H : Hp} {p : Addr} (h : H p = none) : del H p = H := by
  funext a
  by_cases e : a = p
  · rw [e, del_at, h]
  · rw [del_ne e]
theorem Le.del {m m' : Mp} {H H' : Hp} {p : Addr} (l : Le m H m' H') (hz : m.Z p = none) (hp : ∃ o, H p = some o) : Le m (G.del H p) m' (G.del H' p) where
  toKp := l.toKp
  fr := fun a o h1 h2 => by
    by_cases e : a = p
    · rw [e, del_at] at h2; cases h2
    · rw [del_ne e] at h2 ⊢
      exact l.fr a o h1 h2
  sub := fun a o h => by
    obtain ⟨u, hu⟩ := hp
    have e : a ≠ p := fun z => by
      rw [z, (l.fr p u hz hu).2] at h
      cases h
    rw [del_ne e]
    exact l.sub a o h
/-- one comprehension: the list comes to be at p, apart from what is told of -/
theorem comp_run {B : Bas} {W : WX} {m1 : Mp} {H1 : Hp} {S1 : Sto} {its : Its} {J : It} {en : En} {σ : L2.St} {vs own : List Nat} {g : TG} {t : MG} {tt : MT} {te : ME} {Q : VK} {K2 : List D → Sto → Res D}
    (sub1 : Sub m1 H1) (c1 : Cor B m1 S1) (er : EnR B m1 en σ) (ir : ItR B m1 its J) (ht : TgR B own g t) (hown : ∀ j ∈ own, j ∈ vs) (D : Addr) (hD : H1 D = none)
    (hend : ∀ (m' : Mp) (H' : Hp) (S' : Sto) (acc : List G.D) (av : List V), Le m1 H1 m' (del H' D) → Cor B m' S' → H' D = some (.lst av) → Reps B m' acc av → Post B (Rep B) (at' W σ) m' (del H' D) Q (K2 acc S') → Q (.ref D) H')
    (p1 : Post B (Rep B) (at' W σ) m1 H1 Q ((comp t tt te its.P (wipeE en vs) its.ds [] S1).bind K2)) :
    ∃ Wt : Nat → Nat → Hp → Prop, (∃ k, Wt 0 k (upd H1 D (.lst []))) ∧ ∀ i k H, Wt i k H →
      (J.stop i H ∧ Q (.ref D) H) ∨ (J.go i H ∧ ∃ Nx : Hp → Prop, (∀ H', Nx H' → ∃ m', m' < k ∧ Wt (i + 1) m' H') ∧ ∀ x H', J.yld i H x H' → g x (wipe σ vs) H' fun σ2 H2 => wipe σ2 vs = wipe σ vs ∧ tT B W0 tt σ2 H2 fun b H3 =>
        if b = true then tE B W0 te σ2 H3 fun y H4 => ∃ acc, H4 D = some (.lst acc) ∧ acc.length < sizeLine ∧ Nx (upd H4 D (.lst (acc ++ [y]))) else Nx H3) := by
  refine ⟨fun i k H' => k = its.ds.length - i ∧ ∃ m' S' acc av, Le m1 H1 m' (del H' D) ∧ Cor B m' S' ∧ H' D = some (.lst av) ∧ Reps B m' acc av ∧ Post B (Rep B) (at' W σ) m' (del H' D) Q ((comp t tt te its.P (wipeE en vs) (its.ds.drop i) acc S').bind K2),
    ⟨_, rfl, m1, S1, [], [], by rw [del_upd, del_new hD]; exact Le.refl sub1, c1, upd_same, Reps.nil, by rw [del_upd, del_new hD]; exact p1⟩, ?_⟩
  rintro i k H' ⟨rfl, m', S', acc, av, l', c', hDa, ra, p'⟩
  have zD : m'.Z D = none := l'.sub.none del_at
  have sub' : Sub m' H' := fun a o h => by
    have e : a ≠ D := fun z => by rw [z, zD] at h; cases h
    have := l'.sub a o h
    rwa [del_ne e] at this
  by_cases hP : its.P S'
  · obtain ⟨hg, hs⟩ := ir m' H' S' l'.toKp sub' c' hP
    cases hd : its.ds[i]? with
    | none =>
      have hi : its.ds.length ≤ i := List.getElem?_eq_none_iff.mp hd
      rw [List.drop_eq_nil_of_le hi, comp, if_pos hP] at p'
      exact .inl ⟨hs i hi, hend m' H' S' acc av l' c' hDa ra p'⟩
    | some d =>
      have hi : i < its.ds.length := (List.getElem?_eq_some_iff.mp hd).1
      obtain ⟨go, yl⟩ := hg i d hd
      have e1 : its.ds.drop i = d :: its.ds.drop (i + 1) := by
        rw [List.drop_eq_getElem_cons hi]
        congr 1
        exact (List.getElem?_eq_some_iff.mp hd).2
      rw [e1, comp, if_pos hP] at p'
      refine .inr ⟨go, fun H2 => its.ds.length - (i + 1) = its.ds.length - (i + 1) ∧ ∃ m2 S2 acc2 av2, Le m1 H1 m2 (del H2 D) ∧ Cor B m2 S2 ∧ H2 D = some (.lst av2) ∧ Reps B m2 acc2 av2 ∧ Post B (Rep B) (at' W σ) m2 (del H2 D) Q ((comp t tt te its.P (wipeE en vs) (its.ds.drop (i + 1)) acc2 S2).bind K2),
        fun H2 n2 => ⟨its.ds.length - (i + 1), by omega, n2⟩, fun x H'' y => ?_⟩
      obtain ⟨m2, l2, c2, r2⟩ := yl x H'' y
      have l2d := l2.del zD ⟨_, hDa⟩
      obtain ⟨hD2, zD2⟩ := l2.fr D _ zD hDa
      cases e2 : t d (wipeE en vs) with
      | none => rw [e2] at p'; exact p'.elim
      | some en1 =>
        rw [e2] at p'
        refine ht m2 H'' (wipeE en vs) en1 (wipe σ vs) d x l2.sub r2 (((er.wipe vs).mono l').mono l2d) e2 _ fun σ2 er2 on => ⟨wipe_only on hown, ?_⟩
        simp only [] at p'
        have key : ∀ (m3 : Mp) (H3 : Hp), Le m2 H'' m3 H3 → H3 D = some (.lst av) ∧ m3.Z D = none ∧ Le m1 H1 m3 (del H3 D) := fun m3 H3 l3 => by
          obtain ⟨a1, a2⟩ := l3.fr D _ zD2 hD2
          exact ⟨a1, a2, (l'.trans l2d).trans (l3.del zD2 ⟨_, hD2⟩)⟩
        have p2 := p'.shift l2d
        cases hk : tt en1 S' with
        | bad => rw [hk] at p2; exact p2.elim
        | ex c ns vs S3 => rw [hk] at p2; exact p2.elim
        | ok kk S3 =>
          rw [hk] at p2
          refine ⟨m2, S', en1, l2.sub, c2, er2, ?_⟩
          rw [hk]
          intro m3 H3 b l3 c3 rb
          cases rb
          obtain ⟨hD3, zD3, l13⟩ := key m3 H3 l3
          cases kk with
          | false =>
            refine iteF ⟨rfl, m3, S3, acc, av, l13, c3, hD3, (ra.mono l2d).mono l3, ?_⟩
            exact p2.shift (l3.del zD2 ⟨_, hD2⟩)
          | true =>
            refine iteT ?_
            cases hx : te en1 S3 with
            | bad => simp only [Res.noex, Res.bind_ok, hx] at p2; exact p2.elim
            | ex c ns vs S4 => simp only [Res.noex, Res.bind_ok, hx] at p2; exact p2.elim
            | ok xx S4 =>
              simp only [Res.noex, Res.bind_ok, hx] at p2
              refine ⟨m3, S3, en1, l3.sub, c3, er2.mono l3, ?_⟩
              rw [hx]
              intro m4 H4 yv l4 c4 ry
              obtain ⟨hD4, zD4⟩ := l4.fr D _ zD3 hD3
              have l34 := l4.del zD3 ⟨_, hD3⟩
              split at p2
              · rename_i hlen
                have ra4 : Reps B m4 (acc ++ [xx]) (av ++ [yv]) := (((ra.mono l2d).mono l3).mono l4).append (Reps.cons ry Reps.nil)
                refine ⟨av, hD4, by rw [← ra.length]; exact hlen, rfl, m4, S4, acc ++ [xx], av ++ [yv], by rw [del_upd]; exact l13.trans l34, c4, upd_same, ra4, ?_⟩
                rw [del_upd]
                exact (p2.shift (l3.del zD2 ⟨_, hD2⟩)).shift l34
              · exact p2.elim
  · exfalso
    cases hl : its.ds.drop i with
    | nil => rw [hl, comp, if_neg hP] at p'; exact p'
    | cons d ds => rw [hl, comp, if_neg hP] at p'; exact p'
theorem tLc_of {B : Bas} {W : WX} {mi : MI} {g : TG} {t : MG} {tt : MT} {te : ME} {vs own : List Nat} (ht : TgR B own g t) (hown : ∀ j ∈ own, j ∈ vs) (σ : L2.St) (H : Hp) (Q : VK) (q : tE B W (mLc mi t tt te vs) σ H Q) : tLc (tI B W mi) g (tT B W0 tt) (tE B W0 te) vs σ H Q := by
  obtain ⟨m, S, en, s, c, er, p⟩ := q
  have p0 : Post B (Rep B) (at' W σ) m H Q ((mi en S).bind fun its S1 => (comp t tt te its.P (wipeE en vs) its.ds [] S1).bind fun ds S1 => .ok (.lst ds) S1) := by
    have : (mi en S).bind (fun its S1 => (comp t tt te its.P (wipeE en vs) its.ds [] S1).bind fun ds S1 => .ok (.lst ds) S1) = mLc mi t tt te vs en S := by
      unfold mLc cItems
      cases mi en S <;> rfl
    rw [this]
    exact p
  refine ⟨m, S, en, s, c, er, (Post.bind p0).imp ?_⟩
  rintro J H1 ⟨its, S1, m1, _, l1, c1, ir, p1⟩
  intro D hD
  refine comp_run l1.sub c1 (er.mono l1) ir ht hown D hD (fun m' H' S' acc av l' c' hDa ra pe => ?_) p1
  have := pe (m'.put D (.lst av)) (upd (del H' D) D (.lst av)) (.ref D) (Le.new c' l'.sub del_at) (Cor.new c' l'.sub del_at) (rp_lst c' l'.sub del_at ra)
  rwa [upd_del hDa] at this
theorem tLcN_of {B : Bas} {W : WX} {mi : MI} {g : TG} {t : MG} {tt : MT} {te : ME} {vs own : List Nat} (ht : TgR B own g t) (hown : ∀ j ∈ own, j ∈ vs) (σ : L2.St) (H : Hp) (Q : VK) (q : tE B W (mLcN mi t tt te vs) σ H Q) : tLc (tI B W mi) g (tT B W0 tt) (tE B W0 te) vs σ H Q := by
  obtain ⟨m, S, en, s, c, er, p⟩ := q
  have p0 : Post B (Rep B) (at' W σ) m H Q ((mi en S).bind fun its S1 => (comp t tt te its.P (wipeE en vs) its.ds [] S1).bind fun ds S1 => .ok (.ref S1.length) (S1 ++ [.lst ds])) := by
    have : (mi en S).bind (fun its S1 => (comp t tt te its.P (wipeE en vs) its.ds [] S1).bind fun ds S1 => .ok (.ref S1.length) (S1 ++ [.lst ds])) = mLcN mi t tt te vs en S := by
      unfold mLcN cItems
      cases mi en S <;> rfl
    rw [this]
    exact p
  refine ⟨m, S, en, s, c, er, (Post.bind p0).imp ?_⟩
  rintro J H1 ⟨its, S1, m1, _, l1, c1, ir, p1⟩
  intro D hD
  refine comp_run l1.sub c1 (er.mono l1) ir ht hown D hD (fun m' H' S' acc av l' c' hDa ra pe => ?_) p1
  have := pe (m'.add D (.lst av)) (upd (del H' D) D (.lst av)) (.ref D) (Le.add c' l'.sub del_at) (Cor.add c' l'.sub del_at ⟨av, upd_same, ra.mono (Le.add c' l'.sub del_at)⟩) (rp_ref c')
  rwa [upd_del hDa] at this
section
variable {X : Cx} {B : Bas} {W : WX} {elt tg iter : Expr} {ifs : List Expr} {scope : Scope} {ow : List (Str × Nat)} {pos : Pos} {mi : MI} {g : TG} {t : MG} {tt : MT} {te : ME} {own : List Nat}
theorem de_lc (hc : X.calm = true) (hN : X.N.Nodup) (ht : TgR B own g t) (hown : ∀ j ∈ own, j ∈ ow.map (·.2)) (hi : PI X tg iter (tI B W mi)) (ok : BlkOk X.N X.env.scope scope ow)
    (hg : ∀ (s : Shared) (H : Hp) (C : Addr) (cl : List (Str × Addr)) (fp : List Addr), PG (X.blk s H scope (compEnvC scope cl C X.env) fp) tg g) (htt : ∀ (s : Shared) (H : Hp) (C : Addr) (cl : List (Str × Addr)) (fp : List Addr), PTs (X.blk s H scope (compEnvC scope cl C X.env) fp) ifs (tT B W0 tt))
    (he : ∀ (s : Shared) (H : Hp) (C : Addr) (cl : List (Str × Addr)) (fp : List Addr), PE (X.blk s H scope (compEnvC scope cl C X.env) fp) elt (tE B W0 te)) (hs : ∀ x, foldedSetIterable iter X.env x = pure x := by intro _; rfl) :
    PE X (.ListComp elt [⟨tg, iter, ifs, 0⟩] scope pos) (tE B W (mLc mi t tt te (ow.map (·.2)))) := PE.cut (pe_lc hc hN hi ok hg htt he hs) (tLc_of ht hown)
theorem de_lcN (hc : X.calm = true) (hN : X.N.Nodup) (ht : TgR B own g t) (hown : ∀ j ∈ own, j ∈ ow.map (·.2)) (hi : PI X tg iter (tI B W mi)) (ok : BlkOk X.N X.env.scope scope ow)
    (hg : ∀ (s : Shared) (H : Hp) (C : Addr) (cl : List (Str × Addr)) (fp : List Addr), PG (X.blk s H scope (compEnvC scope cl C X.env) fp) tg g) (htt : ∀ (s : Shared) (H : Hp) (C : Addr) (cl : List (Str × Addr)) (fp : List Addr), PTs (X.blk s H scope (compEnvC scope cl C X.env) fp) ifs (tT B W0 tt))
    (he : ∀ (s : Shared) (H : Hp) (C : Addr) (cl : List (Str × Addr)) (fp : List Addr), PE (X.blk s H scope (compEnvC scope cl C X.env) fp) elt (tE B W0 te)) (hs : ∀ x, foldedSetIterable iter X.env x = pure x := by intro _; rfl) :
    PE X (.ListComp elt [⟨tg, iter, ifs, 0⟩] scope pos) (tE B W (mLcN mi t tt te (ow.map (·.2)))) := PE.cut (pe_lc hc hN hi ok hg htt he hs) (tLcN_of ht hown)
theorem ds_setLc {i : Nat} {y : Str} {py spos : Pos} (hc : X.calm = true) (hN : X.N.Nodup) (hy : X.N[i]? = some y) (hyl : X.env.scope.names.lookup y = some .local)
    (hsw : swapsWith (.ListComp elt [⟨tg, iter, ifs, 0⟩] scope pos) (some (.Name y py)) spos.line X.env = pure true) (ht : TgR B own g t) (hown : ∀ j ∈ own, j ∈ ow.map (·.2)) (hi : PI X tg iter (tI B W mi)) (ok : BlkOk X.N X.env.scope scope ow)
    (hg : ∀ (s : Shared) (H : Hp) (C : Addr) (cl : List (Str × Addr)) (fp : List Addr), PG (X.blk s H scope (compEnvC scope cl C X.env) fp) tg g) (htt : ∀ (s : Shared) (H : Hp) (C : Addr) (cl : List (Str × Addr)) (fp : List Addr), PTs (X.blk s H scope (compEnvC scope cl C X.env) fp) ifs (tT B W0 tt))
    (he : ∀ (s : Shared) (H : Hp) (C : Addr) (cl : List (Str × Addr)) (fp : List Addr), PE (X.blk s H scope (compEnvC scope cl C X.env) fp) elt (tE B W0 te)) (hs : ∀ x, foldedSetIterable iter X.env x = pure x := by intro _; rfl) :
    PS X (.Assign [.Name y py] (.ListComp elt [⟨tg, iter, ifs, 0⟩] scope pos) spos) (tS B W (sAsg (mLc mi t tt te (ow.map (·.2))) (gN i))) :=
  PS.cut (ps_setLc hc hN hy hyl hsw hi ok hg htt he hs) fun D σ H q => tLc_of (W := W) ht hown σ H _ (tAsg_of (W := W) tg_name D σ H q)
theorem ds_setLcN {i : Nat} {y : Str} {py spos : Pos} (hc : X.calm = true) (hN : X.N.Nodup) (hy : X.N[i]? = some y) (hyl : X.env.scope.names.lookup y = some .local)
    (hsw : swapsWith (.ListComp elt [⟨tg, iter, ifs, 0⟩] scope pos) (some (.Name y py)) spos.line X.env = pure true) (ht : TgR B own g t) (hown : ∀ j ∈ own, j ∈ ow.map (·.2)) (hi : PI X tg iter (tI B W mi)) (ok : BlkOk X.N X.env.scope scope ow)
    (hg : ∀ (s : Shared) (H : Hp) (C : Addr) (cl : List (Str × Addr)) (fp : List Addr), PG (X.blk s H scope (compEnvC scope cl C X.env) fp) tg g) (htt : ∀ (s : Shared) (H : Hp) (C : Addr) (cl : List (Str × Addr)) (fp : List Addr), PTs (X.blk s H scope (compEnvC scope cl C X.env) fp) ifs (tT B W0 tt))
    (he : ∀ (s : Shared) (H : Hp) (C : Addr) (cl : List (Str × Addr)) (fp : List Addr), PE (X.blk s H scope (compEnvC scope cl C X.env) fp) elt (tE B W0 te)) (hs : ∀ x, foldedSetIterable iter X.env x = pure x := by intro _; rfl) :
    PS X (.Assign [.Name y py] (.ListComp elt [⟨tg, iter, ifs, 0⟩] scope pos) spos) (tS B W (sAsg (mLcN mi t tt te (ow.map (·.2))) (gN i))) :=
  PS.cut (ps_setLc hc hN hy hyl hsw hi ok hg htt he hs) fun D σ H q => tLcN_of (W := W) ht hown σ H _ (tAsg_of (W := W) tg_name D σ H q)
def tYesM : MT := fun _ S => .ok true S
theorem PTs.cut {es : List Expr} {t t' : TT} (h : PTs X es t) (f : ∀ σ H Q, t' σ H Q → t σ H Q) : PTs X es t' := ⟨fun pins s σ H Q I q => h.run pins s σ H Q I (f σ H Q q)⟩
theorem dts_nil : PTs X [] (tT B W tYesM) := PTs.cut pts_nil fun σ H Q ⟨m, S, en, s, c, er, p⟩ => p m H true (Le.refl s) c rfl
theorem dts_one {c : Expr} {mt : MT} (h : PT X c (tT B W mt)) : PTs X [c] (tT B W mt) := pts_one h
end
end G

set_option Elab.async false
set_option linter.all false
set_option maxRecDepth 100000
set_option maxHeartbeats 2000000
/-! G7: a < b of data, the first place that differs deciding; min, max of two -/
namespace PySem.SeqAt
open Sem (wp)
open AutoSeq1 (wpAny_loadPart')
open MeetsSeq MeetsSeq2 MeetsSeq3 SeqRoads2
theorem tuple_ltF (l b : Addr) (items items2 : Array Value) (n n2 : Nat) (dd dd2 : Option Addr) (sl sl2 : Array (Option Value)) (e r : Nat → Bool) :
    Meets (Builtin.«tuple.__lt__» ⟨[.ref l, .ref b], []⟩)
      (fun A R s => (s.heap.get? l = some { cls := .type "tuple", dict := dd, data := .seq items n, slots := sl } ∧ s.heap.get? b = some { cls := .type "tuple", dict := dd2, data := .seq items2 n2, slots := sl2 }) ∧
        ((∀ j (h1 : j < items.size) (h2 : j < items2.size), EqAt A.in1 s items[j] items2[j] (e j)) ∧ (∀ j (h1 : j < items.size) (h2 : j < items2.size), (∀ i, i < j → e i = true) → e j = false → RcLt A.in1 s items[j] items2[j] (r j))) ∧
        R (.ok (.ret (.bool (firstLt e r (decide (items.size < items2.size)) (List.range (min items.size items2.size)))))) s) :=
  .of_wp fun prog w A R s h => by
    obtain ⟨hp, g, d, tk, os⟩ := s; obtain ⟨⟨hl, hb⟩, ⟨he, hr⟩, h⟩ := h
    have f2 := AutoSeq1.sub_tuple_tuple
    have lenZ : (items.toList.zip items2.toList).length = min items.size items2.size := by simp
    wp_walk using wpAny_loadPart' hl, wpAny_loadPart' hb, wpAny_forIn_list _ (fun rest b s' => b.1 = none ∧ s' = ⟨hp, g, d, tk, os⟩ ∧ ∃ i, (∀ k, k < i → e k = true) ∧ rest = (items.toList.zip items2.toList).drop i ∧
      R (.ok (.ret (.bool (firstLt e r (decide (items.size < items2.size)) ((List.range (min items.size items2.size)).drop i))))) ⟨hp, g, d, tk, os⟩) _
    case turn =>
      rintro ⟨y, x⟩ rest b s' ⟨hb', rfl, i, hpre, hz, hR⟩
      have hlt : i < (items.toList.zip items2.toList).length := by
        apply Nat.lt_of_not_le
        intro h'
        rw [List.drop_of_length_le h'] at hz
        cases hz
      have hm : i < min items.size items2.size := lenZ ▸ hlt
      have h1 : i < items.size := Nat.lt_of_lt_of_le hm (Nat.min_le_left _ _)
      have h2 : i < items2.size := Nat.lt_of_lt_of_le hm (Nat.min_le_right _ _)
      rw [List.drop_eq_getElem_cons hlt] at hz
      injection hz with hyx hrest
      obtain rfl : y = items[i] := by simpa using congrArg Prod.fst hyx
      obtain rfl : x = items2[i] := by simpa using congrArg Prod.snd hyx
      have hd : (List.range (min items.size items2.size)).drop i = i :: (List.range (min items.size items2.size)).drop (i + 1) := by simp [List.drop_eq_getElem_cons, hm]
      rw [hd] at hR
      refine wpAny_bind (he i h1 h2 prog w _ _ ?_)
      cases hy : e i with
      | true =>
        rw [firstLt_yes hy] at hR
        wp_walk
        refine ⟨rfl, rfl, i + 1, fun k hk => ?_, hrest, hR⟩
        rcases Nat.lt_succ_iff_lt_or_eq.mp hk with z | z
        · exact hpre k z
        · rw [z]; exact hy
      | false =>
        rw [firstLt_no hy] at hR
        have hrc := hr i h1 h2 hpre hy
        unfold RcLt at hrc
        generalize richCompare CmpOp.Lt items[i] items2[i] = rc at hrc ⊢
        wp_walk
        refine hrc prog w _ _ ?_
        wp_walk
        exact ⟨_, rfl, hR⟩
    case fin =>
      rintro ⟨b1, b2⟩ s' ⟨hb', rfl, i, _, hz, hR⟩
      simp only at hb'
      subst hb'
      have hge : min items.size items2.size ≤ i := by
        apply Nat.le_of_not_lt
        intro h'
        rw [List.drop_eq_getElem_cons (by rw [lenZ]; exact h')] at hz
        cases hz
      rw [List.drop_of_length_le (by simpa using hge)] at hR
      wp_walk
      exact ⟨_, rfl, by simpa [Builtin.Tuple.tupleCompareSizes, firstLt] using hR⟩
    case h => exact ⟨rfl, rfl, 0, fun k hk => absurd hk (Nat.not_lt_zero _), rfl, by simpa using h⟩
theorem RcLt.tupF {A : Around} {s : Shared} {l b : Addr} {items items2 : Array Value} {e r : Nat → Bool} (hl : s.heap.IsTuple l items) (hb : s.heap.IsTuple b items2) (hu : A.units < cLine)
    (he : ∀ j (h1 : j < items.size) (h2 : j < items2.size), EqAt A.in1 s items[j] items2[j] (e j)) (hr : ∀ j (h1 : j < items.size) (h2 : j < items2.size), (∀ i, i < j → e i = true) → e j = false → RcLt A.in1 s items[j] items2[j] (r j)) :
    RcLt A s (.ref l) (.ref b) (firstLt e r (decide (items.size < items2.size)) (List.range (min items.size items2.size))) := fun prog w E Q h => by
  obtain ⟨⟨cls, dd, data, sl⟩, ho, hc, n, hd⟩ := id hl
  obtain ⟨⟨cls2, dd2, data2, sl2⟩, ho2, hc2, n2, hd2⟩ := id hb
  simp only at hc hd hc2 hd2
  subst hc hd hc2 hd2
  exact richCompare_meets_room (op := .Lt) ⟨_, ho, rfl⟩ ⟨_, ho2, rfl⟩ F.slot_tuple_lt F.entry_tuple_lt (F.args_tuple_lt_2 _ _) (tuple_ltF l b items items2 n n2 dd dd2 sl sl2 e r)
    ⟨⟨ho, ho2⟩, ⟨he, hr⟩, ⟨(fun x => nomatch x), h⟩⟩ hu
end PySem.SeqAt
namespace G
open PySem L2
mutual
def pLt : PyData → PyData → Option Bool
  | .int i, .int j => some (decide (i < j))
  | .str x, .str y => some (decide (x.cps.toList < y.cps.toList))
  | .tuple xs, .tuple ys => pLts xs ys
  | _, _ => none
def pLts : List PyData → List PyData → Option Bool
  | [], [] => some false
  | [], _ :: _ => some true
  | _ :: _, [] => some false
  | x :: xs, y :: ys => if PyData.eqv x y = true then pLts xs ys else pLt x y
end
open SeqAt in
theorem firstLt_shift (e r : Nat → Bool) (fin : Bool) (n : Nat) : firstLt e r fin (List.range (n + 1)) = if e 0 = true then firstLt (fun j => e (j + 1)) (fun j => r (j + 1)) fin (List.range n) else r 0 := by
  rw [List.range_succ_eq_map, firstLt]
  congr 1
  generalize List.range n = l
  induction l with
  | nil => rfl
  | cons j t ih => simp only [List.map_cons, firstLt, ih]
open SeqAt in
theorem firstLt_pLts : ∀ (xs ys : List PyData) (k : Bool) (r : Nat → Bool), pLts xs ys = some k →
    (∀ j, j < xs.length → j < ys.length → (∀ i, i < j → pairEq xs ys i = true) → pairEq xs ys j = false → pLt (xs.getD j .none) (ys.getD j .none) = some (r j)) →
    firstLt (pairEq xs ys) r (decide (xs.length < ys.length)) (List.range (min xs.length ys.length)) = k
  | [], [], k, r, h, _ => by
    simp only [pLts] at h
    cases h
    simp [firstLt]
  | [], y :: ys, k, r, h, _ => by
    simp only [pLts] at h
    cases h
    simp [firstLt]
  | x :: xs, [], k, r, h, _ => by
    simp only [pLts] at h
    cases h
    simp [firstLt]
  | x :: xs, y :: ys, k, r, h, hr => by
    have e0 : pairEq (x :: xs) (y :: ys) 0 = PyData.eqv x y := rfl
    have e1 : ∀ j, pairEq (x :: xs) (y :: ys) (j + 1) = pairEq xs ys j := fun _ => rfl
    simp only [List.length_cons, Nat.succ_min_succ, firstLt_shift, e0, e1]
    simp only [pLts] at h
    split at h
    · rename_i hq
      rw [if_pos hq]
      have ih := firstLt_pLts xs ys k (fun j => r (j + 1)) h fun j h1 h2 hpre hj => by
        have := hr (j + 1) (by simpa using h1) (by simpa using h2) (fun i hi => by
          cases i with
          | zero => exact hq
          | succ i => exact hpre i (by omega)) hj
        simpa using this
      simpa using ih
    · rename_i hq
      rw [if_neg hq]
      have := hr 0 (by simp) (by simp) (fun i hi => absurd hi (Nat.not_lt_zero _)) (by rw [e0]; simpa using hq)
      simp only [List.getD_cons_zero] at this
      rw [h] at this
      exact (Option.some.inj this).symm
theorem pLts_at : ∀ (xs ys : List PyData) (k : Bool), pLts xs ys = some k → ∀ j, j < xs.length → j < ys.length → (∀ i, i < j → SeqAt.pairEq xs ys i = true) → SeqAt.pairEq xs ys j = false → ∃ q, pLt (xs.getD j .none) (ys.getD j .none) = some q
  | [], _, _, _, j, h1, _, _, _ => absurd h1 (Nat.not_lt_zero _)
  | _ :: _, [], _, _, j, _, h2, _, _ => absurd h2 (Nat.not_lt_zero _)
  | x :: xs, y :: ys, k, h, j, h1, h2, hpre, hj => by
    simp only [pLts] at h
    cases j with
    | zero =>
      have hj' : PyData.eqv x y = false := hj
      rw [hj'] at h
      simp only [Bool.false_eq_true, if_false] at h
      exact ⟨k, h⟩
    | succ j =>
      have h0 : PyData.eqv x y = true := hpre 0 (Nat.succ_pos _)
      rw [if_pos h0] at h
      exact pLts_at xs ys k h j (by simpa using h1) (by simpa using h2) (fun i hi => hpre (i + 1) (by omega)) hj
mutual
theorem rcLt_p : ∀ (da db : PyData) (A : Around) (s : Shared) (a b : Value) (as bs : List Addr) (k : Bool), Reads s.heap a da as → Reads s.heap b db bs → da.canLay0 = true → db.canLay0 = true → A.units + min da.depth db.depth < cLine → pLt da db = some k → SeqAt.RcLt A s a b k
  | .int x, db, A, s, a, b, as, bs, k, ra, rb, ha, hb, hu, h => by
    cases db with
    | int y =>
      simp only [pLt] at h
      cases h
      cases ra
      cases rb
      exact fun prog w E Q hq => P.lt_int hq
    | _ => simp [pLt] at h
  | .str x, db, A, s, a, b, as, bs, k, ra, rb, ha, hb, hu, h => by
    cases db with
    | str y =>
      simp only [pLt] at h
      cases h
      cases ra
      cases rb
      exact fun prog w E Q hq => P.lt_str hq
    | _ => simp [pLt] at h
  | .tuple xs, db, A, s, a, b, as, bs, k, ra, rb, ha, hb, hu, h => by
    cases db with
    | tuple ys =>
      simp only [pLt] at h
      have ha' : PyData.canLayAll0 xs = true := by simpa [PyData.canLay0] using ha
      have hb' : PyData.canLayAll0 ys = true := by simpa [PyData.canLay0] using hb
      cases ra with
      | @tuple l o vs n _ as₁ h1 h2 h3 h4 =>
        cases rb with
        | @tuple l' o' vs' n' _ bs₁ k1 k2 k3 k4 =>
          have hl : s.heap.IsTuple l vs := ⟨_, h1, h2, _, h3⟩
          have hl' : s.heap.IsTuple l' vs' := ⟨_, k1, k2, _, k3⟩
          have n1 : vs.size = xs.length := PySem.W.readsAll_len h4
          have n2 : vs'.size = ys.length := PySem.W.readsAll_len k4
          have hu1 : (A.in1).units + min (PyData.depthAll xs) (PyData.depthAll ys) < cLine := SeqAt.room_in hu
          rw [← firstLt_pLts xs ys k (fun j => (pLt (xs.getD j .none) (ys.getD j .none)).getD false) h (fun j h1 h2 hpre hj => by
            obtain ⟨q, hq⟩ := pLts_at xs ys k h j h1 h2 hpre hj
            rw [hq]
            rfl), ← n1, ← n2]
          refine SeqAt.RcLt.tupF hl hl' (SeqAt.room_here hu) (fun j j1 j2 => ?_) fun j j1 j2 hpre hj => ?_
          · have := SeqAt.eqAt_readsAll xs ys A.in1 s vs.toList vs'.toList _ _ h4 k4 ha' hb' hu1 j (by simpa using j1) (by simpa using j2)
            simpa using this
          · obtain ⟨q, hq⟩ := pLts_at xs ys k h j (by omega) (by omega) hpre hj
            have := rcLt_ps xs ys A.in1 s vs.toList vs'.toList _ _ h4 k4 ha' hb' hu1 j (by simpa using j1) (by simpa using j2) q hq
            rw [hq]
            simpa using this
    | _ => simp [pLt] at h
  | .none, db, _, _, _, _, _, _, _, _, _, _, _, _, h => by simp [pLt] at h
  | .bool _, db, _, _, _, _, _, _, _, _, _, _, _, _, h => by simp [pLt] at h
  | .list _, db, _, _, _, _, _, _, _, _, _, _, _, _, h => by simp [pLt] at h
  | .dict _, db, _, _, _, _, _, _, _, _, _, _, _, _, h => by simp [pLt] at h
theorem rcLt_ps : ∀ (xs ys : List PyData) (A : Around) (s : Shared) (vs ws : List Value) (as bs : List Addr), ReadsAll s.heap vs xs as → ReadsAll s.heap ws ys bs → PyData.canLayAll0 xs = true → PyData.canLayAll0 ys = true →
    A.units + min (PyData.depthAll xs) (PyData.depthAll ys) < cLine → ∀ j (h1 : j < vs.length) (h2 : j < ws.length) (q : Bool), pLt (xs.getD j .none) (ys.getD j .none) = some q → SeqAt.RcLt A s vs[j] ws[j] q
  | [], _, _, _, _, _, _, _, ra, _, _, _, _, j, h1, _, _, _ => by cases ra; exact absurd h1 (Nat.not_lt_zero _)
  | _ :: _, [], _, _, _, _, _, _, _, rb, _, _, _, j, _, h2, _, _ => by cases rb; exact absurd h2 (Nat.not_lt_zero _)
  | x :: xs, y :: ys, A, s, _, _, _, _, ra, rb, ha, hb, hu, j, h1, h2, q, hq => by
    have ha' : x.canLay0 = true ∧ PyData.canLayAll0 xs = true := by simpa [PyData.canLayAll0] using ha
    have hb' : y.canLay0 = true ∧ PyData.canLayAll0 ys = true := by simpa [PyData.canLayAll0] using hb
    cases ra with
    | cons r rs =>
      cases rb with
      | cons r' rs' =>
        cases j with
        | zero => exact rcLt_p x y A s _ _ _ _ q r r' ha'.1 hb'.1 (SeqAt.room_head hu) (by simpa using hq)
        | succ j => exact rcLt_ps xs ys A s _ _ _ _ rs rs' ha'.2 hb'.2 (SeqAt.room_tail hu) j (Nat.lt_of_succ_lt_succ h1) (Nat.lt_of_succ_lt_succ h2) q (by simpa using hq)
end
end G

set_option Elab.async false
set_option linter.all false
set_option maxRecDepth 100000
set_option maxHeartbeats 2000000
/-! G8: min, max of two data; order as an operator -/
namespace PySem
section
variable {prog : Program} {w : World} {A : Around} {E : Value → Shared → Prop} {s : Shared}
theorem two_min {a b : Value} {Q : Value → Shared → Prop}
    (h : wpAny (model prog w) A.in1 (pyIter (.ref s.heap.objs.size)) (fun it s2 => ∃ I fp wr G n P St H bt, it = .ref I ∧ WalksS prog w A.in1 I fp wr G n P St ∧ St 0 s2 ∧ (∀ b ∈ fp, b < s2.heap.objs.size) ∧ 0 < n ∧
      (∀ b o, H.get? b = some o → b ∉ wr) ∧ (∀ b o, H.get? b = some o → s2.heap.get? b = some o) ∧ CmpIn prog w A.in1 .Lt H P bt ∧ ∀ v s', P (argBest bt (n - 1)) v → Moved wr G s2 s' → Q v s') E
      { s with heap := s.heap.push { cls := .type "tuple", data := .seq #[a, b] } }) :
    wpAny (model prog w) A (call (.builtin "min") [a, b]) Q E s := by
  have hname : (toString "min" ++ toString ".loop" : String) = "min.loop" := by decide
  refine call_function_tree F.kind_min F.plain_min F.entry_min (F.args_min2 _ _) ?_
  show wpAny _ A.in1 (Builtin.Builtins.bindParams "min" ["key", "default"] 0 ⟨[], []⟩ >>= _) _ _ s
  refine wpAny_bind (wpAny_of_eq (show Builtin.Builtins.bindParams "min" ["key", "default"] 0 ⟨[], []⟩ = pure [none, none] from rfl) ?_)
  show wpAny _ A.in1 (newTuple [a, b] >>= _) _ _ s
  refine wpAny_bind (wpAny_newObj_type (wpAny_bind (wpAny_mono h (fun it s2 h2 => ?_) fun _ _ e => e)))
  obtain ⟨I, fp, wr, G, n, P, St, H, bt, rfl, W, hst, hfp, hn, hw, hkeep, hcmp, hQ⟩ := h2
  refine wpAny_bind (wpAny_newObj_type ?_)
  rw [hname]
  exact wpAny_pure ⟨plainId_quiet F.plain_min_loop _, codeAny_min_loop_firstH W H hw bt hcmp s2.heap.objs.size (fun hm => Nat.lt_irrefl _ (hfp _ hm)) (fresh_in hkeep) _ hn (fun b o e => Heap.get?_push_of_some _ (hkeep b o e))
    (W.frame 0 s2 _ s2.toks hst (Nat.le_refl _) fun b _ o e => Heap.get?_push_of_some _ e) (Heap.get?_push_size _ rfl) fun v s' hP hm => hQ v s' hP (Moved.drop_new (tk := s2.toks) hm (Nat.le_refl _))⟩
theorem two_max {a b : Value} {Q : Value → Shared → Prop}
    (h : wpAny (model prog w) A.in1 (pyIter (.ref s.heap.objs.size)) (fun it s2 => ∃ I fp wr G n P St H bt, it = .ref I ∧ WalksS prog w A.in1 I fp wr G n P St ∧ St 0 s2 ∧ (∀ b ∈ fp, b < s2.heap.objs.size) ∧ 0 < n ∧
      (∀ b o, H.get? b = some o → b ∉ wr) ∧ (∀ b o, H.get? b = some o → s2.heap.get? b = some o) ∧ CmpIn prog w A.in1 .Gt H P bt ∧ ∀ v s', P (argBest bt (n - 1)) v → Moved wr G s2 s' → Q v s') E
      { s with heap := s.heap.push { cls := .type "tuple", data := .seq #[a, b] } }) :
    wpAny (model prog w) A (call (.builtin "max") [a, b]) Q E s := by
  have hname : (toString "max" ++ toString ".loop" : String) = "max.loop" := by decide
  refine call_function_tree F.kind_max F.plain_max F.entry_max (F.args_max2 _ _) ?_
  show wpAny _ A.in1 (Builtin.Builtins.bindParams "max" ["key", "default"] 0 ⟨[], []⟩ >>= _) _ _ s
  refine wpAny_bind (wpAny_of_eq (show Builtin.Builtins.bindParams "max" ["key", "default"] 0 ⟨[], []⟩ = pure [none, none] from rfl) ?_)
  show wpAny _ A.in1 (newTuple [a, b] >>= _) _ _ s
  refine wpAny_bind (wpAny_newObj_type (wpAny_bind (wpAny_mono h (fun it s2 h2 => ?_) fun _ _ e => e)))
  obtain ⟨I, fp, wr, G, n, P, St, H, bt, rfl, W, hst, hfp, hn, hw, hkeep, hcmp, hQ⟩ := h2
  refine wpAny_bind (wpAny_newObj_type ?_)
  rw [hname]
  exact wpAny_pure ⟨plainId_quiet F.plain_max_loop _, codeAny_max_loop_firstH W H hw bt hcmp s2.heap.objs.size (fun hm => Nat.lt_irrefl _ (hfp _ hm)) (fresh_in hkeep) _ hn (fun b o e => Heap.get?_push_of_some _ (hkeep b o e))
    (W.frame 0 s2 _ s2.toks hst (Nat.le_refl _) fun b _ o e => Heap.get?_push_of_some _ e) (Heap.get?_push_size _ rfl) fun v s' hP hm => hQ v s' hP (Moved.drop_new (tk := s2.toks) hm (Nat.le_refl _))⟩
end
end PySem
namespace G
open PySem L2
/-! ### x < y -/
def rLtP (K : PySem.W.Frag) : R2 := fun x y H Q => ∃ p q k, Dp K H x p ∧ Dp K H y q ∧ SeqAt.shaped p = true ∧ SeqAt.shaped q = true ∧ pLt p q = some k ∧ Q (.bl k) H
theorem room_sh {A : Around} {p q : PyData} (h : SeqAt.shaped p = true) (hu : A.units + 64 < cLine) : A.units + min p.depth q.depth < cLine := SeqAt.room_of_shaped h hu
theorem op_ltP {X : Cx} (hu : X.A.units + 64 < cLine) : OpR X (compareOp .Lt) (rLtP X.K) := by
  intro pins s σ H x y v u Q I rx ry h
  obtain ⟨p, q, k, hp, hq, sp, sq, e, qq⟩ := h
  obtain ⟨as, r1⟩ := Dp.reads I p x v hp rx
  obtain ⟨bs, r2⟩ := Dp.reads I q y u hq ry
  exact rcLt_p p q X.A s v u as bs k r1 r2 (SeqAt.canLay_of_shaped sp) (SeqAt.canLay_of_shaped sq) (room_sh sp hu) e X.prog X.w X.xe _ ⟨.bl k, H, I, rfl, qq⟩
def dLt (S : Sto) (x y : D) : Option D := match pdv S x, pdv S y with
  | some p, some q => if SeqAt.shaped p = true ∧ SeqAt.shaped q = true then (pLt p q).map .bl else none
  | _, _ => none
theorem op2_lt {B : Bas} : Op2 B (rLtP B.K) dLt := fun m S H x y d1 d2 d s c r1 r2 e Q q => by
  unfold dLt at e
  split at e
  · rename_i p z h1 h2
    split at e
    · rename_i hs
      cases h : pLt p z with
      | none => rw [h] at e; cases e
      | some k => rw [h] at e; cases e; exact ⟨p, z, k, r1.dpv s c h1, r2.dpv s c h2, hs.1, hs.2, h, q_val s c q (rp_bl m)⟩
    · cases e
  · cases e
/-! ### min(x, y), max(x, y) -/
def rMin2 (K : PySem.W.Frag) : List V → Hp → VK → Prop := fun xs H Q => ∃ x y p q, xs = [x, y] ∧ Dp K H x p ∧ Dp K H y q ∧ SeqAt.shaped p = true ∧ SeqAt.shaped q = true ∧ PySem.W.AlikeAll [p, q] ∧ Q (if PySem.W.dataLt q p = true then y else x) H
def rMax2 (K : PySem.W.Frag) : List V → Hp → VK → Prop := fun xs H Q => ∃ x y p q, xs = [x, y] ∧ Dp K H x p ∧ Dp K H y q ∧ SeqAt.shaped p = true ∧ SeqAt.shaped q = true ∧ PySem.W.AlikeAll [p, q] ∧ Q (if PySem.W.dataLt p q = true then y else x) H
theorem depth2 {p q : PyData} (sp : SeqAt.shaped p = true) (sq : SeqAt.shaped q = true) : PyData.depthAll [p, q] ≤ 64 := by
  have h1 := SeqAt.depth_of_shaped sp
  have h2 := SeqAt.depth_of_shaped sq
  simp only [PyData.depthAll]
  omega
theorem reads_two {h : Heap} {a b : Value} {p q : PyData} {as bs : List Addr} (r1 : Reads h a p as) (r2 : Reads h b q bs) : ∃ cs, ReadsAll h (#[a, b] : Array Value).toList [p, q] cs := ⟨_, .cons r1 (.cons r2 .nil)⟩
theorem call_min2D {X : Cx} (hc : X.calm = true) (hu : X.A.units + 66 < cLine) : CallR X (.builtin "min") (rMin2 X.K) := by
  intro pins s σ H xs us Q I r h
  obtain ⟨x, y, p, q, rfl, hp, hq, sp, sq, al, qq⟩ := h
  obtain ⟨u, w', rfl, ru, rw'⟩ := vals2 r
  obtain ⟨as, r1⟩ := Dp.reads I p x u hp ru
  obtain ⟨bs, r2⟩ := Dp.reads I q y w' hq rw'
  have kp : ∀ b o, s.heap.get? b = some o → (s.heap.push { cls := .type "tuple", data := .seq #[u, w'] }).get? b = some o := fun b o e => Heap.get?_push_of_some _ e
  have r1' := PySem.W.reads_keeps kp r1
  have r2' := PySem.W.reads_keeps kp r2
  obtain ⟨cs, rr⟩ := reads_two r1' r2'
  have hT : (s.heap.push { cls := .type "tuple", data := .seq #[u, w'] }).IsTuple s.heap.objs.size #[u, w'] := ⟨_, Heap.get?_push_size _ rfl, rfl, 0, rfl⟩
  have hd := depth2 sp sq
  refine two_min (PySem.W.iter_tupleW (s := { s with heap := s.heap.push { cls := .type "tuple", data := .seq #[u, w'] } }) (A := X.A.in1) (I.ok.hd hc) hT fun s2 e Wk st hfp hw hk => ?_)
  refine ⟨_, _, _, _, _, _, _, s.heap.push { cls := .type "tuple", data := .seq #[u, w'] }, _, rfl, Wk, st, hfp, by simp, hw, hk,
    PySem.W.cmpIn_lt (s := { s with heap := s.heap.push { cls := .type "tuple", data := .seq #[u, w'] } }) (A := X.A.in1) (vs := #[u, w']) rr al (by show X.A.units + 1 + _ < _; omega), fun v s' hP mv => ?_⟩
  obtain ⟨h', tk, rfl, hk'⟩ := PySem.W.moved_old e rfl mv
  refine ⟨_, H, I.kept (t' := tk) (fun b o e => hk' b o (kp b o e)), ?_, qq⟩
  have hP' : #[u, w'][argBest (fun i j => PySem.W.dataLt ([p, q].getD i .none) ([p, q].getD j .none)) 1]? = some v := hP
  have e0 : argBest (fun i j => PySem.W.dataLt ([p, q].getD i .none) ([p, q].getD j .none)) 1 = (if PySem.W.dataLt q p = true then 1 else 0) := rfl
  rw [e0] at hP'
  by_cases hl : PySem.W.dataLt q p = true
  · rw [if_pos hl] at hP' ⊢
    cases hP'
    exact rw'
  · rw [if_neg hl] at hP' ⊢
    cases hP'
    exact ru
theorem call_max2D {X : Cx} (hc : X.calm = true) (hu : X.A.units + 66 < cLine) : CallR X (.builtin "max") (rMax2 X.K) := by
  intro pins s σ H xs us Q I r h
  obtain ⟨x, y, p, q, rfl, hp, hq, sp, sq, al, qq⟩ := h
  obtain ⟨u, w', rfl, ru, rw'⟩ := vals2 r
  obtain ⟨as, r1⟩ := Dp.reads I p x u hp ru
  obtain ⟨bs, r2⟩ := Dp.reads I q y w' hq rw'
  have kp : ∀ b o, s.heap.get? b = some o → (s.heap.push { cls := .type "tuple", data := .seq #[u, w'] }).get? b = some o := fun b o e => Heap.get?_push_of_some _ e
  have r1' := PySem.W.reads_keeps kp r1
  have r2' := PySem.W.reads_keeps kp r2
  obtain ⟨cs, rr⟩ := reads_two r1' r2'
  have hT : (s.heap.push { cls := .type "tuple", data := .seq #[u, w'] }).IsTuple s.heap.objs.size #[u, w'] := ⟨_, Heap.get?_push_size _ rfl, rfl, 0, rfl⟩
  have hd := depth2 sp sq
  refine two_max (PySem.W.iter_tupleW (s := { s with heap := s.heap.push { cls := .type "tuple", data := .seq #[u, w'] } }) (A := X.A.in1) (I.ok.hd hc) hT fun s2 e Wk st hfp hw hk => ?_)
  refine ⟨_, _, _, _, _, _, _, s.heap.push { cls := .type "tuple", data := .seq #[u, w'] }, _, rfl, Wk, st, hfp, by simp, hw, hk,
    PySem.W.cmpIn_gt (s := { s with heap := s.heap.push { cls := .type "tuple", data := .seq #[u, w'] } }) (A := X.A.in1) (vs := #[u, w']) rr al (by show X.A.units + 1 + _ < _; omega), fun v s' hP mv => ?_⟩
  obtain ⟨h', tk, rfl, hk'⟩ := PySem.W.moved_old e rfl mv
  refine ⟨_, H, I.kept (t' := tk) (fun b o e => hk' b o (kp b o e)), ?_, qq⟩
  have hP' : #[u, w'][argBest (fun i j => PySem.W.dataLt ([p, q].getD j .none) ([p, q].getD i .none)) 1]? = some v := hP
  have e0 : argBest (fun i j => PySem.W.dataLt ([p, q].getD j .none) ([p, q].getD i .none)) 1 = (if PySem.W.dataLt p q = true then 1 else 0) := rfl
  rw [e0] at hP'
  by_cases hl : PySem.W.dataLt p q = true
  · rw [if_pos hl] at hP' ⊢
    cases hP'
    exact rw'
  · rw [if_neg hl] at hP' ⊢
    cases hP'
    exact ru
open Classical in
noncomputable def dMin2 (S : Sto) : List D → Option D
  | [x, y] => match pdv S x, pdv S y with
    | some p, some q => if SeqAt.shaped p = true ∧ SeqAt.shaped q = true ∧ PySem.W.AlikeAll [p, q] then some (if PySem.W.dataLt q p = true then y else x) else none
    | _, _ => none
  | _ => none
open Classical in
noncomputable def dMax2 (S : Sto) : List D → Option D
  | [x, y] => match pdv S x, pdv S y with
    | some p, some q => if SeqAt.shaped p = true ∧ SeqAt.shaped q = true ∧ PySem.W.AlikeAll [p, q] then some (if PySem.W.dataLt p q = true then y else x) else none
    | _, _ => none
  | _ => none
theorem opn_min2 {B : Bas} : OpN B (rMin2 B.K) dMin2 := fun m S H xs ds d s c r e Q q => by
  unfold dMin2 at e
  split at e
  · rename_i x y
    split at e
    · rename_i p z h1 h2
      split at e
      · rename_i hs
        cases e
        simp only [Reps] at r
        obtain ⟨v, _, rfl, rv, w', _, rfl, rw', rfl⟩ := r
        refine ⟨v, w', p, z, rfl, rv.dpv s c h1, rw'.dpv s c h2, hs.1, hs.2.1, hs.2.2, ?_⟩
        split
        · exact q_val s c (by simpa only [*, if_true] using q) rw'
        · exact q_val s c (by simpa only [*, if_false, Bool.false_eq_true] using q) rv
      · cases e
    · cases e
  · cases e
theorem opn_max2 {B : Bas} : OpN B (rMax2 B.K) dMax2 := fun m S H xs ds d s c r e Q q => by
  unfold dMax2 at e
  split at e
  · rename_i x y
    split at e
    · rename_i p z h1 h2
      split at e
      · rename_i hs
        cases e
        simp only [Reps] at r
        obtain ⟨v, _, rfl, rv, w', _, rfl, rw', rfl⟩ := r
        refine ⟨v, w', p, z, rfl, rv.dpv s c h1, rw'.dpv s c h2, hs.1, hs.2.1, hs.2.2, ?_⟩
        split
        · exact q_val s c (by simpa only [*, if_true] using q) rw'
        · exact q_val s c (by simpa only [*, if_false, Bool.false_eq_true] using q) rv
      · cases e
    · cases e
  · cases e
end G

set_option Elab.async false
set_option linter.all false
set_option maxRecDepth 100000
set_option maxHeartbeats 2000000
/-! G9: built-ins by data -/
namespace G
open PySem L2
theorem CallR.or {X : Cx} {f : Value} {r r' : List V → Hp → VK → Prop} (h : CallR X f r) (h' : CallR X f r') : CallR X f (fun xs H Q => r xs H Q ∨ r' xs H Q) := by
  intro pins s σ H xs us Q I rx q
  rcases q with q | q
  · exact h pins s σ H xs us Q I rx q
  · exact h' pins s σ H xs us Q I rx q
section
variable {X : Cx} {B : Bas} {W : WX} {x : Str} {p pos : Pos} {e : Expr} {es : List Expr} {mr : MA} {id T : String} {r : List V → Hp → VK → Prop} {g : Sto → List D → Option D}
theorem de_callB (hc : CallR X (.builtin id) r) (h : OpN B r g) (hm : X.mg x = none) (hv : bootBuiltins x = some (.builtin id)) (ha : PA X (e :: es) (tA B W mr)) (hg : Gl X x := by rfl) (hn : x ≠ "__name__" := by decide) (hdb : (x == ("__debug__" : Str)) = false := by decide)
    (he : starEach (e :: es) X.env = (false, eval e X.env) :: starEach es X.env := by rfl) (hpl : (backTo pos (starEach es X.env)).any (·.1) = false := by rfl) : PE X (.Call (.Name x p) (e :: es) [] pos) (tE B W (mCB g mr)) :=
  PE.cut (pe_callB hc hg hm hv ha hn hdb he hpl) (tCB_of h)
theorem de_callTy (hc : CallR X (.type T) r) (h : OpN B r g) (hm : X.mg x = none) (hv : bootBuiltins x = some (.type T)) (ha : PA X (e :: es) (tA B W mr)) (hg : Gl X x := by rfl) (hn : x ≠ "__name__" := by decide) (hdb : (x == ("__debug__" : Str)) = false := by decide)
    (he : starEach (e :: es) X.env = (false, eval e X.env) :: starEach es X.env := by rfl) (hpl : (backTo pos (starEach es X.env)).any (·.1) = false := by rfl) : PE X (.Call (.Name x p) (e :: es) [] pos) (tE B W (mCB g mr)) :=
  PE.cut (pe_callTy hc hg hm hv ha hn hdb he hpl) (tCB_of h)
end
theorem Reps.one {B : Bas} {m : Mp} {d : D} {vs : List V} (r : Reps B m [d] vs) : ∃ v, vs = [v] ∧ Rep B m d v := by
  simp only [Reps] at r
  obtain ⟨v, _, rfl, rv, rfl⟩ := r
  exact ⟨v, rfl, rv⟩
theorem Reps.two {B : Bas} {m : Mp} {d e : D} {vs : List V} (r : Reps B m [d, e] vs) : ∃ v w, vs = [v, w] ∧ Rep B m d v ∧ Rep B m e w := by
  simp only [Reps] at r
  obtain ⟨v, _, rfl, rv, w, _, rfl, rw', rfl⟩ := r
  exact ⟨v, w, rfl, rv, rw'⟩
/-! ### len -/
def dLen (S : Sto) : List D → Option D
  | [.str z] => if z.length ≤ sizeLine then some (.int z.length) else none
  | [x] => match seqL S x, seqT x, dicOf S x with
    | some ds, _, _ => some (.int ds.length)
    | none, some ds, _ => some (.int ds.length)
    | none, none, some (ks, _) => some (.int ks.length)
    | none, none, none => none
  | _ => none
def rLenU (K : PySem.W.Frag) : List V → Hp → VK → Prop := fun xs H Q => ((∃ p ys, xs = [.ref p] ∧ (SqL K H p ys ∨ SqT K H p ys) ∧ Q (.int ys.length) H) ∨ (∃ z, xs = [.str z] ∧ z.length ≤ sizeLine ∧ Q (.int z.length) H)) ∨ ((∃ a kvs, xs = [V.ref a] ∧ H a = some (.dK kvs) ∧ Q (.int kvs.length) H) ∨ rLenT xs H Q)
theorem call_lenU {X : Cx} : CallR X (.builtin "len") (rLenU X.K) := (call_len_seq.or call_len_str).or (call_lenD.or call_len_dT)
theorem keysD_length : ∀ {ks : List D} {q : List Key}, keysD ks = some q → q.length = ks.length
  | [], q, h => by cases h; rfl
  | k :: r, q, h => by
    simp only [keysD] at h
    split at h
    · rename_i a b h1 h2
      cases h
      simp [keysD_length h2]
    · cases h
theorem tkeysD_length : ∀ {ks : List D} {q : List (List Key)}, tkeysD ks = some q → q.length = ks.length
  | [], q, h => by cases h; rfl
  | k :: r, q, h => by
    simp only [tkeysD] at h
    split at h
    · rename_i a b h1 h2
      cases h
      simp [tkeysD_length h2]
    · cases h
theorem opn_len {B : Bas} : OpN B (rLenU B.K) dLen := fun m S H xs ds d s c r e Q q => by
  unfold dLen at e
  split at e
  · split at e
    · cases e
      obtain ⟨v, rfl, rv⟩ := r.one
      exact .inl (.inr ⟨_, by rw [rv.str_eq], by assumption, q_val s c q (rp_int m)⟩)
    · cases e
  · obtain ⟨v, rfl, rv⟩ := r.one
    split at e
    · rename_i ds _ _ h1
      cases e
      obtain ⟨a, vs, rfl, k, t⟩ := repL s c rv h1
      exact .inl (.inl ⟨a, vs, rfl, .inl k, by rw [← t.length]; exact q_val s c q (rp_int m)⟩)
    · rename_i ds _ _ h1
      cases e
      obtain ⟨a, vs, rfl, k, t⟩ := repT s rv h1
      exact .inl (.inl ⟨a, vs, rfl, .inr k, by rw [← t.length]; exact q_val s c q (rp_int m)⟩)
    · rename_i ks ds _ _ h1
      cases e
      obtain ⟨a, vs, rfl, ⟨k1, k2⟩, t⟩ := repD s c rv h1
      rcases k2 with ⟨z, hz, k2⟩ | ⟨z, hz, k2⟩
      · have hl : (z.zip vs).length = ks.length := by rw [List.length_zip, keysD_length hz, ← k1, Nat.min_self]
        exact .inr (.inl ⟨a, _, rfl, k2, by rw [hl]; exact q_val s c q (rp_int m)⟩)
      · have hl : (z.zip vs).length = ks.length := by rw [List.length_zip, tkeysD_length hz, ← k1, Nat.min_self]
        exact .inr (.inr ⟨a, _, rfl, k2, by rw [hl]; exact q_val s c q (rp_int m)⟩)
    · cases e
  · cases e
/-! ### int, abs, str -/
def dInt (_ : Sto) : List D → Option D
  | [.int i] => some (.int i)
  | [.bl k] => some (.int (if k then 1 else 0))
  | [.str a] => if a.length ≤ 640 then (PySem.intText? a).map .int else none
  | _ => none
def rIntU : List V → Hp → VK → Prop := fun xs H Q => ((∃ i, xs = [.int i] ∧ Q (.int i) H) ∨ ∃ k, xs = [.bl k] ∧ Q (.int (if k then 1 else 0)) H) ∨ ∃ a n, xs = [.str a] ∧ PySem.intText? a = some n ∧ a.length ≤ 640 ∧ Q (.int n) H
theorem call_intU {X : Cx} : CallR X (.type "int") rIntU := call_int1.or call_int_str
theorem opn_int {B : Bas} : OpN B rIntU dInt := fun m S H xs ds d s c r e Q q => by
  unfold dInt at e
  split at e
  · cases e
    obtain ⟨v, rfl, rv⟩ := r.one
    exact .inl (.inl ⟨_, by rw [rv.int_eq], q_val s c q (rp_int m)⟩)
  · cases e
    obtain ⟨v, rfl, rv⟩ := r.one
    exact .inl (.inr ⟨_, by rw [rv.bl_eq], q_val s c q (rp_int m)⟩)
  · split at e
    · rename_i a hl
      obtain ⟨v, rfl, rv⟩ := r.one
      cases h : PySem.intText? a with
      | none => rw [h] at e; cases e
      | some n => rw [h] at e; cases e; exact .inr ⟨a, n, by rw [rv.str_eq], h, hl, q_val s c q (rp_int m)⟩
    · cases e
  · cases e
def dAbs (_ : Sto) : List D → Option D
  | [.int i] => some (.int (if i < 0 then -i else i))
  | _ => none
def rAbsU : List V → Hp → VK → Prop := fun xs H Q => ∃ i, xs = [.int i] ∧ Q (.int (if i < 0 then -i else i)) H
theorem opn_abs {B : Bas} : OpN B rAbsU dAbs := fun m S H xs ds d s c r e Q q => by
  unfold dAbs at e
  split at e
  · cases e
    obtain ⟨v, rfl, rv⟩ := r.one
    exact ⟨_, by rw [rv.int_eq], q_val s c q (rp_int m)⟩
  · cases e
def dStr (_ : Sto) : List D → Option D
  | [.int i] => if i.natAbs.log2 < 1920 then some (.str (toString i)) else none
  | [.str a] => some (.str a)
  | _ => none
def rStrU : List V → Hp → VK → Prop := fun xs H Q => (∃ i, xs = [.int i] ∧ i.natAbs.log2 < 1920 ∧ Q (.str (toString i)) H) ∨ ∃ a, xs = [.str a] ∧ Q (.str a) H
theorem call_strU {X : Cx} : CallR X (.type "str") rStrU := call_str_int.or SkE.call_str_str
theorem opn_str {B : Bas} : OpN B rStrU dStr := fun m S H xs ds d s c r e Q q => by
  unfold dStr at e
  split at e
  · split at e
    · cases e
      obtain ⟨v, rfl, rv⟩ := r.one
      exact .inl ⟨_, by rw [rv.int_eq], by assumption, q_val s c q (rp_str m)⟩
    · cases e
  · cases e
    obtain ⟨v, rfl, rv⟩ := r.one
    exact .inr ⟨_, by rw [rv.str_eq], q_val s c q (rp_str m)⟩
  · cases e
/-! ### tuple, list -/
def dTuple (S : Sto) : List D → Option D
  | [x] => match seqL S x with
    | some ds => some (.tup ds)
    | none => match x with
      | .tup ds => some (.tup ds)
      | _ => none
  | _ => none
def rTupU (K : PySem.W.Frag) : List V → Hp → VK → Prop := fun xs H Q => ∃ p ys, xs = [.ref p] ∧ ((SqL K H p ys ∧ ∀ l, H l = none → Q (.ref l) (upd H l (.tup ys))) ∨ (SqT K H p ys ∧ Q (.ref p) H))
theorem opn_tuple {B : Bas} : OpN B (rTupU B.K) dTuple := fun m S H xs ds d s c r e Q q => by
  unfold dTuple at e
  split at e
  · obtain ⟨v, rfl, rv⟩ := r.one
    split at e
    · rename_i ds h1
      cases e
      obtain ⟨a, vs, rfl, k, t⟩ := repL s c rv h1
      exact ⟨a, vs, rfl, .inl ⟨k, q_tup s c q t⟩⟩
    · split at e
      · cases e
        obtain ⟨a, vs, rfl, k, t⟩ := repT s rv rfl
        exact ⟨a, vs, rfl, .inr ⟨k, q_val s c q rv⟩⟩
      · cases e
  · cases e
def dList (S : Sto) : List D → Option D
  | [x] => match seqL S x, seqT x with
    | some ds, _ => some (.lst ds)
    | none, some ds => some (.lst ds)
    | none, none => none
  | _ => none
def rListU (K : PySem.W.Frag) : List V → Hp → VK → Prop := fun xs H Q => ∃ p ys, xs = [.ref p] ∧ (SqL K H p ys ∨ SqT K H p ys) ∧ ∀ l, H l = none → Q (.ref l) (upd H l (.lst ys))
theorem opn_list {B : Bas} : OpN B (rListU B.K) dList := fun m S H xs ds d s c r e Q q => by
  unfold dList at e
  split at e
  · obtain ⟨v, rfl, rv⟩ := r.one
    split at e
    · rename_i ds _ h1
      cases e
      obtain ⟨a, vs, rfl, k, t⟩ := repL s c rv h1
      exact ⟨a, vs, rfl, .inl k, q_lst s c q t⟩
    · rename_i ds _ h1
      cases e
      obtain ⟨a, vs, rfl, k, t⟩ := repT s rv h1
      exact ⟨a, vs, rfl, .inr k, q_lst s c q t⟩
    · cases e
  · cases e
/-! ### all, any, sum -/
def bls : List D → Option (List Bool)
  | [] => some []
  | .bl b :: r => (bls r).map (b :: ·)
  | _ => none
theorem bls_reps {B : Bas} {m : Mp} : ∀ {ds : List D} {vs : List V} {bs : List Bool}, Reps B m ds vs → bls ds = some bs → vs = bs.map V.bl
  | [], vs, bs, r, h => by
    simp only [Reps] at r
    cases h
    exact r
  | d :: ds, vs, bs, r, h => by
    cases d with
    | bl b =>
      simp only [bls] at h
      simp only [Reps] at r
      obtain ⟨v, t, rfl, rv, rt⟩ := r
      cases h2 : bls ds with
      | none => rw [h2] at h; cases h
      | some cs =>
        rw [h2] at h
        cases h
        rw [rv.bl_eq, bls_reps rt h2]
        rfl
    | _ => cases h
def intsD : List D → Option (List Int)
  | [] => some []
  | .int b :: r => (intsD r).map (b :: ·)
  | _ => none
theorem ints_reps {B : Bas} {m : Mp} : ∀ {ds : List D} {vs : List V} {bs : List Int}, Reps B m ds vs → intsD ds = some bs → vs = bs.map V.int
  | [], vs, bs, r, h => by
    simp only [Reps] at r
    cases h
    exact r
  | d :: ds, vs, bs, r, h => by
    cases d with
    | int b =>
      simp only [intsD] at h
      simp only [Reps] at r
      obtain ⟨v, t, rfl, rv, rt⟩ := r
      cases h2 : intsD ds with
      | none => rw [h2] at h; cases h
      | some cs =>
        rw [h2] at h
        cases h
        rw [rv.int_eq, ints_reps rt h2]
        rfl
    | _ => cases h
def dAll (S : Sto) : List D → Option D
  | [x] => ((seqL S x).bind bls).map fun bs => .bl (bs.all id)
  | _ => none
def dAny (S : Sto) : List D → Option D
  | [x] => ((seqL S x).bind bls).map fun bs => .bl (bs.any id)
  | _ => none
def dSum (S : Sto) : List D → Option D
  | [x] => ((seqL S x).bind intsD).map fun bs => .int bs.sum
  | _ => none
theorem opn_all {B : Bas} : OpN B (rAll B.K) dAll := fun m S H xs ds d s c r e Q q => by
  unfold dAll at e
  split at e
  · rename_i x
    obtain ⟨v, rfl, rv⟩ := r.one
    cases h1 : seqL S x with
    | none => rw [h1] at e; cases e
    | some ds =>
      cases h2 : bls ds with
      | none => rw [h1, Option.bind_some, h2] at e; cases e
      | some bs =>
        rw [h1, Option.bind_some, h2] at e
        cases e
        obtain ⟨a, vs, rfl, k, t⟩ := repL s c rv h1
        exact ⟨a, bs, rfl, by rw [← bls_reps t h2]; exact k, q_val s c q (rp_bl m)⟩
  · cases e
theorem opn_any {B : Bas} : OpN B (rAny B.K) dAny := fun m S H xs ds d s c r e Q q => by
  unfold dAny at e
  split at e
  · rename_i x
    obtain ⟨v, rfl, rv⟩ := r.one
    cases h1 : seqL S x with
    | none => rw [h1] at e; cases e
    | some ds =>
      cases h2 : bls ds with
      | none => rw [h1, Option.bind_some, h2] at e; cases e
      | some bs =>
        rw [h1, Option.bind_some, h2] at e
        cases e
        obtain ⟨a, vs, rfl, k, t⟩ := repL s c rv h1
        exact ⟨a, bs, rfl, by rw [← bls_reps t h2]; exact k, q_val s c q (rp_bl m)⟩
  · cases e
theorem opn_sum {B : Bas} : OpN B (rSum B.K) dSum := fun m S H xs ds d s c r e Q q => by
  unfold dSum at e
  split at e
  · rename_i x
    obtain ⟨v, rfl, rv⟩ := r.one
    cases h1 : seqL S x with
    | none => rw [h1] at e; cases e
    | some ds =>
      cases h2 : intsD ds with
      | none => rw [h1, Option.bind_some, h2] at e; cases e
      | some bs =>
        rw [h1, Option.bind_some, h2] at e
        cases e
        obtain ⟨a, vs, rfl, k, t⟩ := repL s c rv h1
        exact ⟨a, bs, rfl, by rw [← ints_reps t h2]; exact k, q_val s c q (rp_int m)⟩
  · cases e
/-! ### isinstance, of a built-in class -/
def tyN (S : Sto) (d : D) : Option String := match d with
  | .non => some "NoneType"
  | .bl _ => some "bool"
  | .int _ => some "int"
  | .str _ => some "str"
  | .tup _ => some "tuple"
  | .ktp _ => some "tuple"
  | .lst _ => some "list"
  | .dic _ _ => some "dict"
  | .ref i => match S[i]? with
    | some (.lst _) => some "list"
    | some (.dic _ _) => some "dict"
    | _ => none
  | _ => none
theorem tyN_of {B : Bas} {m : Mp} {H : Hp} {S : Sto} {d : D} {v : V} {n : String} (s : Sub m H) (c : Cor B m S) (r : Rep B m d v) (e : tyN S d = some n) : TyX B.K H v (.type n) := by
  have dic : ∀ {a : Addr} {ks : List D} {vs : List V}, DicAt (m.Z a) ks vs → TyX B.K H (.ref a) (.type "dict") := fun {a ks vs} h => by
    rcases h with ⟨_, ⟨q, _, z⟩ | ⟨q, _, z⟩⟩
    · exact .base (.dK (s _ _ z))
    · exact .base (.dT (s _ _ z))
  cases d with
  | non => cases e; rw [r.non_eq]; exact .base .non
  | bl b => cases e; rw [r.bl_eq]; exact .base (.bl b)
  | int b => cases e; rw [r.int_eq]; exact .base (.int b)
  | str b => cases e; rw [r.str_eq]; exact .base (.str b)
  | tup ds =>
    cases e
    simp only [Rep] at r
    obtain ⟨a, vs, rfl, t, _⟩ := r
    exact .base (.tup (s _ _ t.1))
  | ktp ds =>
    cases e
    simp only [Rep] at r
    obtain ⟨a, vs, rfl, t, _⟩ := r
    rcases t with (t | ⟨_, t⟩) | ⟨o, its, k, h1, h2, _⟩
    · cases t
    · cases t
    · exact .kTuple h1 h2
  | lst ds =>
    cases e
    simp only [Rep] at r
    obtain ⟨a, vs, rfl, t, _⟩ := r
    exact .base (.lst (s _ _ t.1))
  | dic ks ds =>
    cases e
    simp only [Rep] at r
    obtain ⟨a, vs, rfl, _, t, _⟩ := r
    exact dic t
  | ref i =>
    simp only [Rep] at r
    obtain ⟨_, rfl⟩ := r
    simp only [tyN] at e
    split at e
    · rename_i ds hx
      cases e
      obtain ⟨vs, z, _⟩ := c.ob _ _ hx
      exact .base (.lst (s _ _ z))
    · rename_i ks ds hx
      cases e
      obtain ⟨vs, z, _⟩ := c.ob _ _ hx
      exact dic z
    · cases e
  | _ => cases e
def dIsi (S : Sto) : List D → Option D
  | [x, .ty T] => ((tyN S x).bind fun n => kitB n T).map .bl
  | _ => none
theorem opn_isi {B : Bas} : OpN B (rIsi B.K) dIsi := fun m S H xs ds d s c r e Q q => by
  unfold dIsi at e
  split at e
  · rename_i x T
    obtain ⟨v, w, rfl, rv, rw'⟩ := r.two
    cases h1 : tyN S x with
    | none => rw [h1] at e; cases e
    | some n =>
      cases h2 : kitB n T with
      | none => rw [h1, Option.bind_some, h2] at e; cases e
      | some b =>
        rw [h1, Option.bind_some, h2] at e
        cases e
        have hw : w = .ty T := by simpa only [Rep] using rw'
        subst hw
        exact ⟨v, .ty T, .type n, .type T, b, rfl, .ty T, tyN_of s c rv h1, kit_ty h2, q_val s c q (rp_bl m)⟩
  · cases e
theorem rp_ty {B : Bas} {n : String} (m : Mp) : Rep B m (.ty n) (.ty n) := by simp only [Rep]
theorem de_ty {X : Cx} {B : Bas} {W : WX} {x : Str} {n : String} {pos : Pos} (hm : X.mg x = none) (hv : bootBuiltins x = some (.type n)) (hg : Gl X x := by rfl) (hn : x ≠ "__name__" := by decide) (hd : (x == ("__debug__" : Str)) = false := by decide) : PE X (.Name x pos) (tE B W (mC (.ty n))) :=
  de_c (pe_bltn hg hm hv (v := .ty n) rfl hn hd) rp_ty
/-- a module's own constant -/
theorem de_glob {X : Cx} {B : Bas} {W : WX} {x : Str} {v : V} {u : Value} {d : D} {pos : Pos} (hm : X.mg x = some u) (r : RelV v u) (rd : ∀ m, Rep B m d v) (hg : Gl X x := by rfl) (hd : (x == ("__debug__" : Str)) = false := by decide) : PE X (.Name x pos) (tE B W (mC d)) :=
  de_c (pe_glob hg hm r hd) rd
end G

set_option Elab.async false
set_option linter.all false
set_option maxRecDepth 100000
set_option maxHeartbeats 2000000
/-! G10: slices, texts, stores -/
namespace G
open PySem L2
/-! ### slices -/
abbrev MO := En → Sto → Res (Option Int)
def RO : Mp → Option Int → Option Int → Prop := fun _ a b => a = b
def tO (B : Bas) (W : WX) (e : MO) : TO := fun σ H Q => ∃ m S en, Sub m H ∧ Cor B m S ∧ EnR B m en σ ∧ Post B RO (at' W σ) m H Q (e en S)
def oNone : MO := fun _ S => .ok none S
def oSome (e : ME) : MO := fun en S => (e en S).bind fun d S1 => match d with
  | .int i => .ok (some i) S1
  | _ => .bad
theorem PO.cut {X : Cx} {e : Option Expr} {t t' : TO} (h : PO X e t) (f : ∀ σ H Q, t' σ H Q → t σ H Q) : PO X e t' := ⟨fun pins s σ H Q I q => h.run pins s σ H Q I (f σ H Q q)⟩
theorem do_none {X : Cx} {B : Bas} {W : WX} : PO X none (tO B W oNone) := PO.cut po_none fun σ H Q ⟨m, S, en, s, c, er, p⟩ => p m H none (Le.refl s) c rfl
theorem do_some {X : Cx} {B : Bas} {W : WX} {e : Expr} {me : ME} (h : PE X e (tE B W me)) : PO X (some e) (tO B W (oSome me)) := PO.cut (po_some h) fun σ H Q ⟨m, S, en, s, c, er, p⟩ => ⟨m, S, en, s, c, er, (Post.bind p).imp (by
  rintro v H1 ⟨d, S1, m1, _, l1, c1, r1, p1⟩
  cases d with
  | int i => exact ⟨i, r1.int_eq, p1 m1 H1 _ (Le.refl l1.sub) c1 rfl⟩
  | _ => exact p1.elim)⟩
def cutD (xs : List D) (lo hi : Option Int) : List D := (xs.drop (HT.sIx xs.length 0 lo)).take (HT.sIx xs.length xs.length hi - HT.sIx xs.length 0 lo)
theorem Reps.cutD {B : Bas} {m : Mp} {ds : List D} {vs : List V} (r : Reps B m ds vs) (lo hi : Option Int) : Reps B m (cutD ds lo hi) (cutV vs lo hi) := by
  unfold G.cutD cutV
  rw [r.length]
  exact (r.drop _).take _
def dSl (S : Sto) (x : D) (lo hi : Option Int) : Option D := match x with
  | .str z => if z.length ≤ sizeLine then some (.str (cutS z lo hi)) else none
  | .tup ds => some (.tup (cutD ds lo hi))
  | x => (seqL S x).map fun ds => .lst (cutD ds lo hi)
def mSl (a : ME) (l h : MO) : ME := fun en S => (a en S).bind fun x S1 => (l en S1).bind fun lo S2 => (h en S2).bind fun hi S3 => match dSl S3 x lo hi with
  | some d => .ok d S3
  | none => .bad
theorem sIx_le (n d : Nat) (hd : d ≤ n) (o : Option Int) : HT.sIx n d o ≤ n := by
  cases o with
  | none => exact hd
  | some v =>
    show (if v < 0 then (v + (n : Int)).toNat else min v.toNat n) ≤ n
    split
    · omega
    · exact Nat.min_le_right _ _
theorem de_slice {X : Cx} {B : Bas} {W : WX} {e : Expr} {lo hi : Option Expr} {p2 pos : Pos} {me : ME} {ml mh : MO} (hK : B.K = X.K := by rfl) (he : PE X e (tE B W me)) (hl : PO X lo (tO B W ml)) (hu : PO X hi (tO B W mh)) :
    PE X (.Subscript e (.Slice lo hi none p2) pos) (tE B W (mSl me ml mh)) := PE.cut (pe_slice ((sl_list.or sl_tupA).or sl_str) he hl hu) fun σ H Q ⟨m, S, en, s, c, er, p⟩ => ⟨m, S, en, s, c, er, (Post.bind p).imp (by
  rintro v H1 ⟨d, S1, m1, _, l1, c1, r1, p1⟩
  refine ⟨m1, S1, en, l1.sub, c1, er.mono l1, (Post.bind p1).imp ?_⟩
  rintro a H2 ⟨a', S2, m2, _, l2, c2, r2, p2⟩
  cases r2
  refine ⟨m2, S2, en, l2.sub, c2, (er.mono l1).mono l2, (Post.bind p2).imp ?_⟩
  rintro b H3 ⟨b', S3, m3, _, l3, c3, r3, p3⟩
  cases r3
  have rv := (r1.mono l2).mono l3
  rw [← hK]
  cases h : dSl S3 d a b with
  | none => rw [h] at p3; exact p3.elim
  | some x =>
    rw [h] at p3
    unfold dSl at h
    split at h
    · split at h
      · cases h
        exact .inr ⟨_, rv.str_eq, by assumption, q_val l3.sub c3 p3 (rp_str m3)⟩
      · cases h
    · rename_i ds _
      cases h
      have rv' := rv
      simp only [Rep] at rv
      obtain ⟨q, vs, rfl, t, rs⟩ := rv
      refine .inl (.inr ⟨q, vs, rfl, t.sq l3.sub, fun hz => ?_, fun _ => q_tup l3.sub c3 p3 (rs.cutD a b)⟩)
      have e1 : cutD ds a b = ds := by
        unfold G.cutD
        rw [rs.length, hz.1, hz.2]
        simp [← rs.length]
      rw [e1] at p3
      exact q_val l3.sub c3 p3 rv'
    · cases h1 : seqL S3 d with
      | none => rw [h1] at h; cases h
      | some ds =>
        rw [h1] at h
        cases h
        obtain ⟨q, vs, rfl, t, rs⟩ := repL l3.sub c3 rv h1
        exact .inl (.inl ⟨q, vs, rfl, t, q_lst l3.sub c3 p3 (rs.cutD a b)⟩))⟩
/-! ### methods of texts -/
def mBM (g : Sto → D → List D → Option D) (o : ME) (r : MA) : ME := fun en S => (o en S).bind fun x S1 => (r en S1).bind fun xs S2 => match g S2 x xs with
  | some d => .ok d S2
  | none => .bad
def isStr : D → Bool
  | .str _ => true
  | _ => false
/-- a method of a text: by the receiver's and the arguments' data -/
def OpM (B : Bas) (r : V → List V → Hp → VK → Prop) (g : Sto → D → List D → Option D) : Prop := ∀ (m : Mp) (S : Sto) (H : Hp) (x : V) (xs : List V) (d0 d : D) (ds : List D), Sub m H → Cor B m S → Rep B m d0 x → Reps B m ds xs → g S d0 ds = some d →
  ∀ Q : VK, (∀ m' H' v, Le m H m' H' → Cor B m' S → Rep B m' d v → Q v H') → r x xs H Q
def mBMs (g : Sto → D → List D → Option D) (o : ME) (r : MA) : ME := fun en S => (o en S).bind fun x S1 => match x with
  | .str z => (r en S1).bind fun xs S2 => match g S2 (.str z) xs with
    | some d => .ok d S2
    | none => .bad
  | _ => .bad
theorem de_bms {X : Cx} {B : Bas} {W : WX} {o e : Expr} {es : List Expr} {name : Str} {id : String} {apos cpos : Pos} {r : V → List V → Hp → VK → Prop} {g : Sto → D → List D → Option D} {mo : ME} {mr : MA}
    (slot : Slot "str" name id) (hty : typeOf (.builtin id) = pure (.type "method_descriptor")) (hm : MtR X id r) (h : OpM B r g) (ho : PE X o (tE B W mo)) (ha : PA X (e :: es) (tA B W mr))
    (hbase : attributeBase o name X.env (eval o X.env) = eval o X.env := by rfl)
    (hfew : ((backTo cpos (starEach (e :: es) X.env)).all (fun x => !x.1) && (backToKw cpos (keywordEach [] X.env)).all (fun x => x.1.isSome)
      && decide ((e :: es).length + ([] : List Keyword).length + (if ([] : List Keyword).isEmpty then 0 else 1) < 30)) = true := by rfl)
    (hline : (apos.endLine == cpos.line) = true := by rfl) (hs : starEach (e :: es) X.env = (false, eval e X.env) :: starEach es X.env := by rfl) (hplain : (backTo cpos (starEach es X.env)).any (·.1) = false := by rfl) :
    PE X (.Call (.Attribute o name apos) (e :: es) [] cpos) (tE B W (mBMs g mo mr)) :=
  PE.cut (pe_bm PySem.F.plainAttrs_str slot hty hm ho ha hbase hfew hline hs hplain) fun σ H Q ⟨m, S, en, s, c, er, p⟩ => ⟨m, S, en, s, c, er, (Post.bind p).imp (by
    rintro v H1 ⟨d, S1, m1, _, l1, c1, r1, p1⟩
    cases d with
    | str z =>
      have ev := r1.str_eq
      subst ev
      refine ⟨rfl, m1, S1, en, l1.sub, c1, er.mono l1, (Post.bind p1).imp ?_⟩
      rintro xs H2 ⟨ds, S2, m2, _, l2, c2, r2, p2⟩
      cases hg : g S2 (.str z) ds with
      | none => rw [hg] at p2; exact p2.elim
      | some d => rw [hg] at p2; exact h m2 S2 H2 _ xs _ d ds l2.sub c2 (r1.mono l2) r2 hg Q p2
    | _ => exact p1.elim)⟩
theorem Reps.strs {B : Bas} {m : Mp} : ∀ (ys : List Str), Reps B m (ys.map .str) (ys.map V.str)
  | [] => Reps.nil
  | y :: ys => Reps.cons (rp_str m) (Reps.strs ys)
def dSplit (_ : Sto) : D → List D → Option D
  | .str a, [.str b] => if (b.length == 0) = false ∧ a.length + 2 ≤ sizeLine then some (.lst ((Txt.split a b).map .str)) else none
  | _, _ => none
def rSplit : V → List V → Hp → VK → Prop := fun x xs H Q => ∃ a b, x = .str a ∧ xs = [.str b] ∧ (b.length == 0) = false ∧ a.length + 2 ≤ sizeLine ∧ rNewStrs (Txt.split a b) H Q
theorem opm_split {B : Bas} : OpM B rSplit dSplit := fun m S H x xs d0 d ds s c r0 r e Q q => by
  unfold dSplit at e
  split at e
  · split at e
    · rename_i a b hh
      cases e
      obtain ⟨v, rfl, rv⟩ := r.one
      exact ⟨a, b, r0.str_eq, by rw [rv.str_eq], hh.1, hh.2, fun p hp => q_lst s c q (Reps.strs _) p hp⟩
    · cases e
  · cases e
def strsD : List D → Option (List Str)
  | [] => some []
  | .str b :: r => (strsD r).map (b :: ·)
  | _ => none
theorem strs_reps {B : Bas} {m : Mp} : ∀ {ds : List D} {vs : List V} {bs : List Str}, Reps B m ds vs → strsD ds = some bs → vs = bs.map V.str
  | [], vs, bs, r, h => by
    simp only [Reps] at r
    cases h
    exact r
  | d :: ds, vs, bs, r, h => by
    cases d with
    | str b =>
      simp only [strsD] at h
      simp only [Reps] at r
      obtain ⟨v, t, rfl, rv, rt⟩ := r
      cases h2 : strsD ds with
      | none => rw [h2] at h; cases h
      | some cs =>
        rw [h2] at h
        cases h
        rw [rv.str_eq, strs_reps rt h2]
        rfl
    | _ => cases h
def dJoin (S : Sto) : D → List D → Option D
  | .str a, [x] => match (match seqL S x with | some ds => some ds | none => seqT x).bind strsD with
    | some ys => if (ys.map (·.length)).sum + ys.length * a.length ≤ 16777216 then some (.str (Txt.join a ys)) else none
    | none => none
  | _, _ => none
def rJoin (K : PySem.W.Frag) : V → List V → Hp → VK → Prop := fun x xs H Q => ∃ a p, ∃ ys : List Str, x = .str a ∧ xs = [.ref p] ∧ (SqL K H p (ys.map V.str) ∨ SqT K H p (ys.map V.str)) ∧ (ys.map (·.length)).sum + ys.length * a.length ≤ 16777216 ∧ Q (.str (Txt.join a ys)) H
theorem opm_join {B : Bas} : OpM B (rJoin B.K) dJoin := fun m S H x xs d0 d ds s c r0 r e Q q => by
  unfold dJoin at e
  split at e
  · rename_i a y
    obtain ⟨v, rfl, rv⟩ := r.one
    split at e
    · rename_i ys h1
      split at e
      · rename_i hl
        cases e
        cases h2 : seqL S y with
        | some zs =>
          rw [h2] at h1
          obtain ⟨q', vs, rfl, t, rs⟩ := repL s c rv h2
          have := strs_reps rs h1
          subst this
          exact ⟨a, q', ys, r0.str_eq, rfl, .inl t, hl, q_val s c q (rp_str m)⟩
        | none =>
          rw [h2] at h1
          cases h3 : seqT y with
          | none => rw [h3] at h1; cases h1
          | some zs =>
            rw [h3] at h1
            obtain ⟨q', vs, rfl, t, rs⟩ := repT s rv h3
            have := strs_reps rs h1
            subst this
            exact ⟨a, q', ys, r0.str_eq, rfl, .inr t, hl, q_val s c q (rp_str m)⟩
      · cases e
    · cases e
  · cases e
/-! ### f-strings -/
def dFmt (_ : Sto) : D → Option D
  | .str y => if y.length ≤ sizeLine then some (.str y) else none
  | .int i => if i.natAbs.log2 < 1920 then some (.str (toString i)) else none
  | _ => none
theorem de_fmt {X : Cx} {B : Bas} {W : WX} {e : Expr} {pos : Pos} {me : ME} (he : PE X e (tE B W me)) : PE X (.FormattedValue e (-1) none pos) (tE B W (mUn dFmt me)) :=
  PE.cut (pe_fmt he) fun σ H Q ⟨m, S, en, s, c, er, p⟩ => ⟨m, S, en, s, c, er, (Post.bind p).imp (by
    rintro v H1 ⟨d, S1, m1, _, l1, c1, r1, p1⟩
    cases h : dFmt S1 d with
    | none => rw [h] at p1; exact p1.elim
    | some x =>
      rw [h] at p1
      unfold dFmt at h
      split at h
      · split at h
        · cases h
          exact .inl ⟨_, r1.str_eq, by assumption, q_val l1.sub c1 p1 (rp_str m1)⟩
        · cases h
      · split at h
        · cases h
          exact .inr ⟨_, r1.int_eq, by assumption, q_val l1.sub c1 p1 (rp_str m1)⟩
        · cases h
      · cases h)⟩
def fsAll : List ME → Str → En → Sto → Res D
  | [], acc, _, S => .ok (.str acc) S
  | m :: ms, acc, en, S => (m en S).bind fun d S1 => match d with
    | .str y => if (acc ++ y).length ≤ sizeLine then fsAll ms (acc ++ y) en S1 else .bad
    | _ => .bad
def mFs (ms : List ME) : ME := fun en S => fsAll ms Str.empty en S
theorem tJs_of {B : Bas} {W : WX} : ∀ (ms : List ME) (acc : Str) (σ : L2.St) (H : Hp) (Q : VK) (m : Mp) (S : Sto) (en : En), Sub m H → Cor B m S → EnR B m en σ → Post B (Rep B) (at' W σ) m H Q (fsAll ms acc en S) → tJs (ms.map (tE B W)) acc σ H fun out H1 => Q (.str out) H1
  | [], acc, σ, H, Q, m, S, en, s, c, er, p => p m H _ (Le.refl s) c (rp_str m)
  | e :: ms, acc, σ, H, Q, m, S, en, s, c, er, p => by
    refine ⟨m, S, en, s, c, er, (Post.bind p).imp ?_⟩
    rintro v H1 ⟨d, S1, m1, _, l1, c1, r1, p1⟩
    cases d with
    | str y =>
      simp only [] at p1
      split at p1
      · rename_i hl
        exact ⟨y, r1.str_eq, hl, tJs_of ms (acc ++ y) σ H1 Q m1 S1 en l1.sub c1 (er.mono l1) p1⟩
      · exact p1.elim
    | _ => exact p1.elim
inductive DJ (X : Cx) (B : Bas) (W : WX) : List Expr → List ME → Prop where
  | nil : DJ X B W [] []
  | cons {e : Expr} {m : ME} {es : List Expr} {ms : List ME} (h : PE X e (tE B W m)) (r : DJ X B W es ms) : DJ X B W (e :: es) (m :: ms)
theorem DJ.pj {X : Cx} {B : Bas} {W : WX} {es : List Expr} {ms : List ME} (h : DJ X B W es ms) : PJ X es (ms.map (tE B W)) := by
  induction h with
  | nil => exact .nil
  | cons h _ ih => exact .cons h ih
theorem de_joined {X : Cx} {B : Bas} {W : WX} {v1 v2 : Expr} {rest : List Expr} {pos : Pos} {ms : List ME} (h : DJ X B W (v1 :: v2 :: rest) ms) : PE X (.JoinedStr (v1 :: v2 :: rest) pos) (tE B W (mFs ms)) :=
  PE.cut (pe_joined h.pj) fun σ H Q ⟨m, S, en, s, c, er, p⟩ => tJs_of ms Str.empty σ H Q m S en s c er p
/-! ### c + o.replace(y, z) -/
def dRepl (y z : Str) (_ : Sto) : D → Option D
  | .str x => if x.length + (x.length + 1) * z.length ≤ 16777216 then some (.str (Txt.replace x y z)) else none
  | _ => none
theorem pe_opT {X : Cx} {b : Expr} {op : Operator} {r : R2} {x : Str} {j} {cp pos : Pos} {tb : TE} (ho : OpR X (binaryOp op) r) (hb : PET X b tb) : PE X (.BinOp (.Constant (.str x) j cp) op b pos) (tOp r (tC (.str x)) tb) := ⟨fun pins s σ H Q I h => by
  refine wpAny_BinOp (Calls.Constant_str ?_)
  exact thn (hb pins _ σ H _ (Nat.succ_le_succ (Nat.zero_le _)) (I.tok _) h) fun u s2 ⟨y, H2, I2, r2, q2⟩ => ho pins s2 σ H2 (.str x) y _ u Q I2 ⟨_, rfl⟩ r2 q2⟩
theorem de_cRepl {X : Cx} {B : Bas} {W : WX} {o : Expr} {op : Operator} {r : R2} {x y z : Str} {i j k} {cp c0 c1 apos pos pos2 : Pos} {mo : ME} {g : Sto → D → D → Option D} (ho : OpR X (binaryOp op) r) (h : Op2 B r g) (hp : PE X o (tE B W mo)) (hyz : (y == z) = false := by decide)
    (hst : starEach [.Constant (.str y) j c0, .Constant (.str z) k c1] X.env = [(false, eval (.Constant (.str y) j c0) X.env), (false, eval (.Constant (.str z) k c1) X.env)] := by rfl)
    (hbase : attributeBase o "replace" X.env (eval o X.env) = eval o X.env := by rfl) (hline : (apos.endLine == pos.line) = true := by rfl) :
    PE X (.BinOp (.Constant (.str x) i cp) op (.Call (.Attribute o "replace" apos) [.Constant (.str y) j c0, .Constant (.str z) k c1] [] pos) pos2) (tE B W (mOp g (mC (.str x)) (mUn (dRepl y z) mo))) :=
  PE.cut (pe_opT ho (CwR.pet_replC hp hyz hst hbase hline)) fun σ H Q ⟨m, S, en, s, c, er, p⟩ => by
    refine ⟨m, S, en, s, c, er, ?_⟩
    have p' : Post B (Rep B) (at' W σ) m H Q (((mo en S).bind fun d S1 => match dRepl y z S1 d with | some d => .ok d S1 | none => .bad).bind fun y' S2 => match g S2 (.str x) y' with | some d => .ok d S2 | none => .bad) := p
    have e1 : (((mo en S).bind fun d S1 => match dRepl y z S1 d with | some d => .ok d S1 | none => .bad).bind fun y' S2 => match g S2 (.str x) y' with | some d => Res.ok d S2 | none => .bad) =
        (mo en S).bind fun d S1 => (match dRepl y z S1 d with | some d => Res.ok d S1 | none => .bad).bind fun y' S2 => match g S2 (.str x) y' with | some d => Res.ok d S2 | none => .bad := by
      cases mo en S <;> rfl
    rw [e1] at p'
    refine (Post.bind p').imp ?_
    rintro v H1 ⟨d, S1, m1, _, l1, c1, r1, p1⟩
    cases h1 : dRepl y z S1 d with
    | none => rw [h1] at p1; exact p1.elim
    | some d2 =>
      rw [h1] at p1
      simp only [Res.bind_ok] at p1
      unfold dRepl at h1
      split at h1
      · split at h1
        · rename_i w _ hl
          cases h1
          refine ⟨w, r1.str_eq, hl, ?_⟩
          cases h2 : g S1 (.str x) (.str (Txt.replace w y z)) with
          | none => rw [h2] at p1; exact p1.elim
          | some d3 => rw [h2] at p1; exact h m1 S1 H1 _ _ _ _ d3 l1.sub c1 (rp_str m1) (rp_str m1) h2 Q p1
        · cases h1
      · cases h1
/-! ### the store's objects change -/
section
variable {B : Bas} {m : Mp} {H : Hp} {S : Sto}
theorem Le.write {i : Nat} {o : HO} (c : Cor B m S) (s : Sub m H) (hi : i < m.n) : Le m H (m.put (m.mu i) o) (upd H (m.mu i) o) where
  le := Nat.le_refl _
  mu := fun _ _ => rfl
  keep := fun a u e q => ⟨by show upd m.Z (m.mu i) o a = _; rw [upd_ne (fun z => q i hi z.symm)]; exact e, q⟩
  fr := fun a u e q => by
    obtain ⟨w, hw⟩ := c.at hi
    have ne : a ≠ m.mu i := fun z => by rw [z, hw] at e; cases e
    exact ⟨by rw [upd_ne ne]; exact q, by show upd m.Z (m.mu i) o a = _; rw [upd_ne ne]; exact e⟩
  sub := fun a u e => by
    by_cases ha : a = m.mu i
    · subst ha
      have e' : upd m.Z (m.mu i) o (m.mu i) = some u := e
      rw [upd_same] at e' ⊢
      exact e'
    · have e' : upd m.Z (m.mu i) o a = some u := e
      rw [upd_ne ha] at e' ⊢
      exact s a u e'
theorem Cor.write {i : Nat} {o : HO} {b : Ob} (c : Cor B m S) (s : Sub m H) (hi : i < m.n) (r : ObR B (m.put (m.mu i) o) (m.mu i) b) : Cor B (m.put (m.mu i) o) (S.set i b) where
  n := by rw [List.length_set]; exact c.n
  ob := fun j x e => by
    by_cases hj : i = j
    · subst hj
      rw [List.getElem?_set_self (by rw [← c.n]; exact hi)] at e
      cases e
      exact r
    · rw [List.getElem?_set_ne hj] at e
      have hm : j < m.n := by rw [c.n]; exact (List.getElem?_eq_some_iff.mp e).1
      refine (c.ob j x e).mono (Le.write (o := o) c s hi) ?_
      show upd m.Z (m.mu i) o (m.mu j) = _
      rw [upd_ne (fun z => hj (c.inj j i hm hi z).symm)]
  inj := c.inj
end
theorem Reps.setR {B : Bas} {m : Mp} {d : D} {v : V} (rv : Rep B m d v) : ∀ {ds : List D} {vs : List V} (i : Nat), Reps B m ds vs → Reps B m (ds.set i d) (vs.set i v)
  | [], vs, i, r => by
    simp only [Reps] at r
    subst r
    exact Reps.nil
  | x :: ds, vs, 0, r => by
    simp only [Reps] at r
    obtain ⟨y, t, rfl, ry, rt⟩ := r
    exact Reps.cons rv rt
  | x :: ds, vs, i + 1, r => by
    simp only [Reps] at r
    obtain ⟨y, t, rfl, ry, rt⟩ := r
    exact Reps.cons ry (Reps.setR rv i rt)
/-- o[k] = e, a list of the store -/
def sIx (o k e : ME) : MS := fun en S => (e en S).bind fun d S1 => (o en S1).bind fun x S2 => (k en S2).bind fun y S3 => match x, y with
  | .ref i, .int n => match S3[i]? with
    | some (.lst ds) => match ixN ds.length n with
      | some j => .ok (.nx en) (S3.set i (.lst (ds.set j d)))
      | none => .bad
    | _ => .bad
  | _, _ => .bad
theorem ds_ix {X : Cx} {B : Bas} {W : WX} {o k e : Expr} {p1 pos : Pos} {mo mk me : ME} (ho : PE X o (tE B W mo)) (hk : PE X k (tE B W mk)) (he : PE X e (tE B W me)) (hg : PG X (.Subscript o k p1) (gSub (tE B W mo) (tE B W mk) rSetL))
    (hs : swapsWithSole [.Subscript o k p1] e pos.line X.env = pure false := by rfl) (hw : swappedStores [.Subscript o k p1] e X.env = pure none := by rfl)
    (h1 : (assignEach [.Subscript o k p1] X.env).map (·.2) = [assign (.Subscript o k p1) X.env] := by rfl) : PS X (.Assign [.Subscript o k p1] e pos) (tS B W (sIx mo mk me)) :=
  PS.cut (ps_asg he hg hs hw h1) fun D σ H ⟨m, S, en, s, c, er, p⟩ => ⟨m, S, en, s, c, er, (Post.bind p).imp (by
    rintro v H1 ⟨d, S1, m1, _, l1, c1, r1, p1⟩
    refine ⟨m1, S1, en, l1.sub, c1, er.mono l1, (Post.bind p1).imp ?_⟩
    rintro u H2 ⟨x, S2, m2, _, l2, c2, r2, p2⟩
    refine ⟨m2, S2, en, l2.sub, c2, (er.mono l1).mono l2, (Post.bind p2).imp ?_⟩
    rintro w H3 ⟨y, S3, m3, _, l3, c3, r3, p3⟩
    split at p3
    · rename_i i n _ _
      split at p3
      · rename_i ds hx
        split at p3
        · rename_i j hj
          have r2' := r2.mono l3
          simp only [Rep] at r2'
          obtain ⟨hi, rfl⟩ := r2'
          obtain ⟨vs, z, rs⟩ := c3.ob _ _ hx
          have l4 := Le.write (o := .lst (vs.set j v)) c3 l3.sub hi
          have rv := ((r1.mono l2).mono l3).mono l4
          refine ⟨m3.mu i, vs, n, j, rfl, r3.int_eq, l3.sub _ _ z, by rw [← rs.length]; exact hj, ?_⟩
          exact p3 _ _ (.nx σ) l4 (Cor.write c3 l3.sub hi ⟨_, upd_same, Reps.setR rv j (rs.mono l4)⟩) (((er.mono l1).mono l2).mono l3 |>.mono l4)
        · exact p3.elim
      · exact p3.elim
    · exact p3.elim)⟩
/-- o.append(e), o.extend(e), o a list of the store -/
def sApp (o e : ME) : MS := fun en S => (o en S).bind fun x S1 => match x with
  | .ref i => match S1[i]? with
    | some (.lst _) => (e en S1).bind fun d S2 => match S2[i]? with
      | some (.lst ds) => if ds.length < sizeLine then .ok (.nx en) (S2.set i (.lst (ds ++ [d]))) else .bad
      | _ => .bad
    | _ => .bad
  | _ => .bad
def sExt (o e : ME) : MS := fun en S => (o en S).bind fun x S1 => match x with
  | .ref i => match S1[i]? with
    | some (.lst _) => (e en S1).bind fun d S2 => match S2[i]?, d with
      | some (.lst ds), .lst es => if ds.length + es.length ≤ sizeLine then .ok (.nx en) (S2.set i (.lst (ds ++ es))) else .bad
      | _, _ => .bad
    | _ => .bad
  | _ => .bad
section
variable {X : Cx} {B : Bas} {W : WX} {o e : Expr} {apos cpos pos : Pos} {mo me : ME}
theorem ds_app (hK : B.K = X.K := by rfl) (ho : PE X o (tE B W mo)) (he : PE X e (tE B W me))
    (hbase : attributeBase o "append" X.env (eval o X.env) = eval o X.env := by rfl)
    (hfew : ((backTo cpos (starEach [e] X.env)).all (fun x => !x.1) && (backToKw cpos (keywordEach [] X.env)).all (fun x => x.1.isSome)
      && decide ([e].length + ([] : List Keyword).length + (if ([] : List Keyword).isEmpty then 0 else 1) < 30)) = true := by rfl)
    (hline : (apos.endLine == cpos.line) = true := by rfl) (hs : starEach [e] X.env = (false, eval e X.env) :: starEach [] X.env := by rfl) (hplain : (backTo cpos (starEach [] X.env)).any (·.1) = false := by rfl)
    (hsw : swapsWith (.Call (.Attribute o "append" apos) [e] [] cpos) none pos.line X.env = pure false := by rfl) :
    PS X (.Expr (.Call (.Attribute o "append" apos) [e] [] cpos) pos) (tS B W (sApp mo me)) :=
  PS.cut (ps_expr (pe_bm PySem.F.plainAttrs_list PySem.F.slot_list_append PySem.F.type_list_append mt_append ho (da_cons he da_nil hs) hbase hfew hline hs hplain) hsw) fun D σ H ⟨m, S, en, s, c, er, p⟩ => ⟨m, S, en, s, c, er, (Post.bind p).imp (by
    rintro v H1 ⟨x, S1, m1, _, l1, c1, r1, p1⟩
    split at p1
    · rename_i i _
      split at p1
      · rename_i ds0 h0
        have r1' := r1
        simp only [Rep] at r1'
        obtain ⟨hi, rfl⟩ := r1'
        obtain ⟨vs0, z0, _⟩ := c1.ob _ _ h0
        refine ⟨.inl ⟨rfl, vs0, .inl (.inl (l1.sub _ _ z0))⟩, m1, S1, en, l1.sub, c1, er.mono l1, ?_⟩
        have p1' : Post B (RFl B) (at' W σ) m1 H1 (qOf D) ((aCons me aNil en S1).bind fun ds S2 => match ds with | [d] => (match S2[i]? with | some (.lst ds) => if ds.length < sizeLine then Res.ok (Fl.nx en) (S2.set i (.lst (ds ++ [d]))) else .bad | _ => .bad) | _ => .bad) := by
          have : ((aCons me aNil en S1).bind fun ds S2 => match ds with | [d] => (match S2[i]? with | some (.lst ds) => if ds.length < sizeLine then Res.ok (Fl.nx en) (S2.set i (.lst (ds ++ [d]))) else .bad | _ => .bad) | _ => .bad) =
              (me en S1).bind fun d S2 => match S2[i]? with | some (.lst ds) => if ds.length < sizeLine then Res.ok (Fl.nx en) (S2.set i (.lst (ds ++ [d]))) else .bad | _ => .bad := by
            unfold aCons aNil
            cases me en S1 <;> rfl
          rw [this]
          exact p1
        refine (Post.bind p1').imp ?_
        rintro ys H2 ⟨dd, S2, m2, _, l2, c2, r2, p2⟩
        match dd, r2, p2 with
        | [d], r2, p2 =>
          simp only [] at p2
          obtain ⟨w, rfl, rw'⟩ := r2.one
          split at p2
          · rename_i ds hx
            split at p2
            · rename_i hl
              have hi2 : i < m2.n := Nat.lt_of_lt_of_le hi l2.le
              obtain ⟨vs, z, rs⟩ := c2.ob _ _ hx
              have l4 := Le.write (o := .lst (vs ++ [w])) c2 l2.sub hi2
              have emu : m2.mu i = m1.mu i := l2.mu i hi
              refine ⟨m1.mu i, vs, w, rfl, rfl, by rw [← emu]; exact l2.sub _ _ z, by rw [← rs.length]; exact hl, ?_⟩
              rw [← emu]
              exact p2 _ _ (.nx σ) l4 (Cor.write c2 l2.sub hi2 ⟨_, upd_same, (rs.mono l4).append (Reps.cons (rw'.mono l4) Reps.nil)⟩) (((er.mono l1).mono l2).mono l4)
            · exact p2.elim
          · exact p2.elim
        | [], _, p2 => exact p2.elim
        | _ :: _ :: _, _, p2 => exact p2.elim
      · exact p1.elim
    · exact p1.elim)⟩
theorem ds_ext (hK : B.K = X.K := by rfl) (ho : PE X o (tE B W mo)) (he : PE X e (tE B W me))
    (hbase : attributeBase o "extend" X.env (eval o X.env) = eval o X.env := by rfl)
    (hfew : ((backTo cpos (starEach [e] X.env)).all (fun x => !x.1) && (backToKw cpos (keywordEach [] X.env)).all (fun x => x.1.isSome)
      && decide ([e].length + ([] : List Keyword).length + (if ([] : List Keyword).isEmpty then 0 else 1) < 30)) = true := by rfl)
    (hline : (apos.endLine == cpos.line) = true := by rfl) (hs : starEach [e] X.env = (false, eval e X.env) :: starEach [] X.env := by rfl) (hplain : (backTo cpos (starEach [] X.env)).any (·.1) = false := by rfl)
    (hsw : swapsWith (.Call (.Attribute o "extend" apos) [e] [] cpos) none pos.line X.env = pure false := by rfl) :
    PS X (.Expr (.Call (.Attribute o "extend" apos) [e] [] cpos) pos) (tS B W (sExt mo me)) :=
  PS.cut (ps_expr (pe_bm PySem.F.plainAttrs_list PySem.F.slot_list_extend PySem.F.type_list_extend mt_extend ho (da_cons he da_nil hs) hbase hfew hline hs hplain) hsw) fun D σ H ⟨m, S, en, s, c, er, p⟩ => ⟨m, S, en, s, c, er, (Post.bind p).imp (by
    rintro v H1 ⟨x, S1, m1, _, l1, c1, r1, p1⟩
    split at p1
    · rename_i i _
      split at p1
      · rename_i ds0 h0
        have r1' := r1
        simp only [Rep] at r1'
        obtain ⟨hi, rfl⟩ := r1'
        obtain ⟨vs0, z0, _⟩ := c1.ob _ _ h0
        refine ⟨.inl ⟨rfl, vs0, .inl (.inl (l1.sub _ _ z0))⟩, m1, S1, en, l1.sub, c1, er.mono l1, ?_⟩
        have p1' : Post B (RFl B) (at' W σ) m1 H1 (qOf D) ((aCons me aNil en S1).bind fun ds S2 => match ds with | [d] => (match S2[i]?, d with | some (.lst ds), .lst es => if ds.length + es.length ≤ sizeLine then Res.ok (Fl.nx en) (S2.set i (.lst (ds ++ es))) else .bad | _, _ => .bad) | _ => .bad) := by
          have : ((aCons me aNil en S1).bind fun ds S2 => match ds with | [d] => (match S2[i]?, d with | some (.lst ds), .lst es => if ds.length + es.length ≤ sizeLine then Res.ok (Fl.nx en) (S2.set i (.lst (ds ++ es))) else .bad | _, _ => .bad) | _ => .bad) =
              (me en S1).bind fun d S2 => match S2[i]?, d with | some (.lst ds), .lst es => if ds.length + es.length ≤ sizeLine then Res.ok (Fl.nx en) (S2.set i (.lst (ds ++ es))) else .bad | _, _ => .bad := by
            unfold aCons aNil
            cases me en S1 <;> rfl
          rw [this]
          exact p1
        refine (Post.bind p1').imp ?_
        rintro ys H2 ⟨dd, S2, m2, _, l2, c2, r2, p2⟩
        match dd, r2, p2 with
        | [d], r2, p2 =>
          simp only [] at p2
          obtain ⟨w, rfl, rw'⟩ := r2.one
          cases hx : S2[i]? with
          | none => rw [hx] at p2; exact p2.elim
          | some ob =>
            cases ob with
            | lst ds =>
              cases d with
              | lst es =>
                rw [hx] at p2
                simp only [] at p2
                split at p2
                · rename_i hl
                  have hi2 : i < m2.n := Nat.lt_of_lt_of_le hi l2.le
                  obtain ⟨vs, z, rs⟩ := c2.ob _ _ hx
                  simp only [Rep] at rw'
                  obtain ⟨b, us, rfl, hb, ru⟩ := rw'
                  have l4 := Le.write (o := .lst (vs ++ us)) c2 l2.sub hi2
                  have emu : m2.mu i = m1.mu i := l2.mu i hi
                  refine ⟨m1.mu i, b, vs, us, rfl, rfl, by rw [← emu]; exact l2.sub _ _ z, l2.sub _ _ hb.1, by rw [← rs.length, ← ru.length]; exact hl, ?_⟩
                  rw [← emu]
                  exact p2 _ _ (.nx σ) l4 (Cor.write c2 l2.sub hi2 ⟨_, upd_same, (rs.mono l4).append (ru.mono l4)⟩) (((er.mono l1).mono l2).mono l4)
                · exact p2.elim
              | _ => rw [hx] at p2; exact p2.elim
            | _ => rw [hx] at p2; exact p2.elim
        | [], _, p2 => exact p2.elim
        | _ :: _ :: _, _, p2 => exact p2.elim
      · exact p1.elim
    · exact p1.elim)⟩
end
end G

set_option Elab.async false
set_option linter.all false
set_option maxRecDepth 100000
set_option maxHeartbeats 2000000
/-! G11: repr; the law's own call, whose guards are known -/
namespace G
open PySem L2
def rRepr (K : PySem.W.Frag) : List V → Hp → VK → Prop := fun xs H Q => ∃ x p, xs = [x] ∧ x ≠ .non ∧ (∀ b, x ≠ .bl b) ∧ Dp K H x p ∧ SeqAt.shaped p = true ∧ p.showable = true ∧ p.shown.length ≤ sizeLine ∧ Q (.str p.shown) H
theorem call_reprD {X : Cx} (hg : X.A.guards = some []) (hu : X.A.units + 66 < cLine) : CallR X (.builtin "repr") (rRepr X.K) := by
  intro pins s σ H xs us Q I r h
  obtain ⟨x, p, rfl, n1, n2, hp, sp, sh, hl, q⟩ := h
  obtain ⟨u, rfl, ru⟩ := vals1 r
  obtain ⟨as, rd⟩ := Dp.reads I p x u hp ru
  have hd := SeqAt.depth_of_shaped sp
  cases hp with
  | non => exact absurd rfl n1
  | bl b => exact absurd rfl (n2 b)
  | int i =>
    obtain ⟨t, rfl⟩ := ru
    have hi : i.natAbs.log2 < 1920 := by simpa [PyData.showable] using sh
    exact PySem.P.repr_of_int hi ⟨.str _, H, I.tok _, ⟨_, rfl⟩, by simpa [PyData.shown] using q⟩
  | str z =>
    obtain ⟨t, rfl⟩ := ru
    exact PySem.P.repr_of_str ⟨.str _, H, I.tok _, ⟨_, rfl⟩, by simpa [PyData.shown] using q⟩ (by simpa [PyData.shown] using hl)
  | lst hs ha =>
    cases ru
    exact repr_of_reads' rd sh (PyData.noDict_hsm (PyData.hasDict_of_canLay _ (SeqAt.canLay_of_shaped sp))) hg (by omega) (fun _ _ e => e) (fun h' u tk hk => ⟨.str _, H, I.kept hk, ⟨_, rfl⟩, q⟩) hl
  | tup hs ha =>
    cases ru
    exact repr_of_reads' rd sh (PyData.noDict_hsm (PyData.hasDict_of_canLay _ (SeqAt.canLay_of_shaped sp))) hg (by omega) (fun _ _ e => e) (fun h' u tk hk => ⟨.str _, H, I.kept hk, ⟨_, rfl⟩, q⟩) hl
def reprOk (p : PyData) : Prop := SeqAt.shaped p = true ∧ p.showable = true ∧ p.shown.length ≤ sizeLine
instance (p : PyData) : Decidable (reprOk p) := by unfold reprOk; exact inferInstance
def dRepr (S : Sto) : List D → Option D
  | [.non] => none
  | [.bl _] => none
  | [x] => match pdv S x with
    | some p => if reprOk p then some (.str p.shown) else none
    | none => none
  | _ => none
theorem opn_repr {B : Bas} : OpN B (rRepr B.K) dRepr := fun m S H xs ds d s c r e Q q => by
  unfold dRepr at e
  split at e
  · cases e
  · cases e
  · rename_i x h1 h2
    obtain ⟨v, rfl, rv⟩ := r.one
    split at e
    · rename_i p hp
      split at e
      · rename_i ok
        cases e
        have n1 : v ≠ .non := fun z => by
          have := rep_non_iff rv
          rw [z] at this
          cases x with
          | non => exact h1 rfl
          | _ => cases this
        have n2 : ∀ b, v ≠ .bl b := fun b z => by
          subst z
          have dp := rv.dpv s c hp
          cases dp
          cases x with
          | bl b' => exact h2 b' rfl
          | _ => simp only [Rep] at rv <;> first | (cases rv; done) | (obtain ⟨_, _, h, _⟩ := rv; cases h; done) | (obtain ⟨_, h⟩ := rv; cases h; done) | (obtain ⟨_, _, _, h, _⟩ := rv; cases h; done)
        exact ⟨v, p, rfl, n1, n2, rv.dpv s c hp, ok.1, ok.2.1, ok.2.2, q_val s c q (rp_str m)⟩
      · cases e
    · cases e
  · cases e
/-! ### a def that is called where no repr runs -/
structure FnG (P : Program) (w : World) (K : PySem.W.Frag) (mg : Str → Option Value) (base : Heap) (CX : CXT) (k : Nat) (f : Addr) (fd : FuncData) (ps : List Str) (sp : Sp) : Prop where
  len : ∀ vs H Q E, sp vs H Q E → vs.length = ps.length
  run : ∀ (A : Around) (outer : List Env) (s : Shared) (H : Hp) (args : Args) (us : List Value) (vs : List V) (Q : VK) (E : XK), A.guards = some [] → Room k A → Env0 P w K mg base A outer s H → BindsTo s fd args (ps.zip us) → Vals vs us → sp vs H Q E →
    codeAny (model P w) A (.call (.ref f) args) (CR CX outer P w H s Q E) s
theorem guards_deeper {A : Around} {env : Env} (h : A.guards = some []) : (A.deeper env).guards = some [] := h
theorem fnG_ok {P : Program} {w : World} {K : PySem.W.Frag} {mg : Str → Option Value} {base : Heap} {B : Bas} {x qual : Str} {st : Stmt} {f : Addr} {fd : FuncData} {N ps : List Str} {k n : Nat} {ms : MS} (F : Fun K x qual st f fd) (S : FnScope N ps (defScope st)) (hn : n = ps.length)
    (hbody : ∀ (cdv : Value) (A : Around) (outer : List Env) (s : Shared) (H : Hp) (E : XK), (A.deeper (PyProof.Rows.envOfC qual (defScope st) s.heap.objs.size f cdv)).guards = some [] → Room k (A.deeper (PyProof.Rows.envOfC qual (defScope st) s.heap.objs.size f cdv)) →
      PSs (cxOf (L2.CX P w) P w K mg base N qual (defScope st) f cdv A outer s H E) (defBody st) (tS B (WE0 E) ms)) : FnG P w K mg base (L2.CX P w) (k + 1) f fd ps (spF B (fnB n N.length ms)) := by
  obtain ⟨oc, od, kV, doc, pm, an, cdv, ct, osl, rfl, lk, hcd⟩ := F.ex
  refine ⟨spF_len hn, fun A outer s H args us vs Q E hg hr e0 hb r hsp => ?_⟩
  have KX : K.In s.heap := e0.mod.kin.keeps fun b o e => (e0.bs b o e).1
  have lim : s.heap.NoLimit := e0.mod.nolimit.keeps fun b o e => (e0.bs b o e).1
  have hkind : ∀ y ∈ ps.zip us, (defScope st).names.lookup y.1 = some .local ∨ ((defScope st).names.lookup y.1 = some .cell ∧ ((cellsFrom (s.heap.objs.size + 1) (defScope st).names []).lookup y.1).isSome = true) := fun y hy =>
    (S.par y.1 (List.of_mem_zip (show (y.1, y.2) ∈ ps.zip us from hy)).1).imp id fun q => ⟨q, PySem.W.cellsFrom_some _ _ _ (.inl q)⟩
  refine codeAny_call_function hr.depth (KX _ _ lk) rfl S.co S.gen rfl (PySem.W.codeRec_of KX hcd) (hb _ _ _ _ (wpAny_newFunctionEnv_cells S.kind hkind fun env he s1 x => ?_))
  subst he
  refine ⟨lim.keeps x.toInCall.keep, codeAny_func ?_⟩
  have I := inv_start (CX := L2.CX P w) (N := N) (E := E) S hr.hd e0 (spF_len hn _ _ _ _ hsp) r x
  refine wpAny_mono ((hbody cdv A outer s H E hg (hr.deeper _)).run [] s1 _ H _ I (fn_body hsp)) (fun fl s' hs => ?_) fun e s' hs => hs
  cases fl with
  | ret u =>
    obtain ⟨v, σ', H', J, rv, q⟩ := hs
    exact ⟨v, H', J.os, J.bare, J.base, J.hok, rv, q⟩
  | next =>
    obtain ⟨σ', H', J, q⟩ := hs
    exact ⟨.non, H', J.os, J.bare, J.base, J.hok, rfl, q⟩
  | brk =>
    obtain ⟨_, _, _, q⟩ := hs
    exact q.elim
  | cont =>
    obtain ⟨_, _, _, q⟩ := hs
    exact q.elim
/-! ### the law -/
theorem lawG_call {P : Program} {w : World} {K : PySem.W.Frag} {mg mb : Str → Option Value} {CX : CXT} {k : Nat} {fa a : Addr} {fd : FuncData} {x : Str} {sp : Sp} {s1 : Shared} {vs : List Value} {ns : List Int}
    (KX : K.In s1.heap) (hns : s1.heap.Ns mainGlobals mg) (hb : s1.heap.Ns builtinsNs mb) (hbb : ∀ x : Str, x ≠ "__name__" → mb x = bootBuiltins x) (hlim : s1.heap.NoLimit) (hg : s1.gens = #[])
    (ha : s1.heap.get? a = some { cls := .type "list", data := .seq vs.toArray }) (hi : PyProof.Rows.IntsAre vs ns) (hl : ns.length ≤ sizeLine) (hr : Room k callerA)
    (F : ∀ base : Heap, K.In base → base.Ns mainGlobals mg → FnG P w K mg base CX k fa fd [x] sp) (hbind : ∀ (s : Shared) (u : Value), BindsTo s fd ⟨[u], []⟩ [(x, u)])
    (hsp : ∀ H : Hp, L2.Only H → SqL K H a (ns.map V.int) → sp [.ref a] H (fun v _ => v = .bl true) fun _ _ _ => False)
    (hCX : ∀ H e s', CX [] H s1 (fun _ _ _ => False) e s' → False) :
    codeAny (model P w) callerA (.call (.ref fa) ⟨[.ref a], []⟩) (fun r s' => r = .ok (.ret (.bool true)) ∧ OldK s1.heap s'.heap ∧ s'.os = s1.os ∧ PyProof.Rows.AllBare s'.gens) s1 := by
  have rv := vals_ints hi
  have lenV := hi.length
  -- H: nothing, or the script alone
  suffices core : ∀ H : Hp, L2.Only H → SqL K H a (ns.map V.int) → HOk P w H s1.heap → (∀ b u, H b = some u → b = a ∧ K.lookup a = none) →
      codeAny (model P w) callerA (.call (.ref fa) ⟨[.ref a], []⟩) (fun r s' => r = .ok (.ret (.bool true)) ∧ OldK s1.heap s'.heap ∧ s'.os = s1.os ∧ PyProof.Rows.AllBare s'.gens) s1 by
    by_cases hk : ∃ o, K.lookup a = some o
    · obtain ⟨o, hk⟩ := hk
      have e := KX a o hk
      rw [ha] at e
      cases e
      exact core (fun _ => none) (fun _ => .inl rfl) (.inr ⟨_, vs.toArray, _, hk, rfl, rfl, rfl, by rw [List.size_toArray, lenV]; exact hl, by simpa using rv⟩) (fun b u z => nomatch z) (fun b u z => nomatch z)
    · have hkn : K.lookup a = none := by
        cases e : K.lookup a with
        | none => rfl
        | some o => exact absurd ⟨o, e⟩ hk
      have at_a : upd (fun _ => none) a (.frz { cls := .type "list", data := .seq vs.toArray } (.lst (ns.map V.int))) a = some (.frz { cls := .type "list", data := .seq vs.toArray } (.lst (ns.map V.int))) := upd_same
      refine core (upd (fun _ => none) a (.frz { cls := .type "list", data := .seq vs.toArray } (.lst (ns.map V.int)))) (fun b => ?_) (.inl (.inr ⟨_, at_a⟩)) (fun b u z => ?_) fun b u z => ⟨?_, hkn⟩
      · by_cases e : b = a
        · exact .inr ⟨_, _, by rw [e]; exact at_a⟩
        · exact .inl (upd_ne e)
      · by_cases e : b = a
        · subst e
          rw [at_a] at z
          cases z
          exact ⟨ha, by rw [List.length_map]; exact hl, vs, _, rv, ha⟩
        · rw [upd_ne e] at z; cases z
      · by_cases e : b = a
        · exact e
        · rw [upd_ne e] at z; cases z
  intro H hO hS hok hA
  have nodict : ∀ {b : Addr} {o : Obj} {es : Array DictEntry} {ep : Nat}, s1.heap.get? b = some o → o.data = .dict es ep → H b = none := fun {b o es ep} e d => by
    cases q : H b with
    | none => rfl
    | some u =>
      rw [(hA b u q).1, ha] at e
      cases e
      cases d
  have nsK : ∀ {b : Addr} {mm : Str → Option Value}, s1.heap.Ns b mm → (hidT s1.heap H).Ns b mm := fun {b mm} ⟨o, es, ep, e, d, r⟩ => ⟨o, es, ep, hidT_get e (nodict e d), d, r⟩
  have hKb : K.In (hidT s1.heap H) := fun b o e => hidT_get (KX b o e) (by
    cases q : H b with
    | none => rfl
    | some u =>
      obtain ⟨z, zn⟩ := hA b u q
      rw [z, zn] at e
      cases e)
  have e0 : Env0 P w K mg (hidT s1.heap H) callerA [] s1 H :=
    ⟨rfl, ⟨hKb, nsK hns, ⟨mb, nsK hb, hbb⟩, let ⟨mc, h1, h2⟩ := hlim; ⟨mc, nsK h1, h2⟩⟩, fun b o e => of_hidT e, Nat.le_of_eq (hidT_size _ _), trivial, fun b z => absurd (show b ∈ ([] : List Addr) from z) (by simp), hok, .of_eq hg⟩
  refine codeAny_mono ((F _ hKb (nsK hns)).run callerA [] s1 H ⟨[.ref a], []⟩ [.ref a] [.ref a] _ _ rfl hr e0 (hbind s1 (.ref a)) (.cons rfl .nil) (hsp H hO hS)) fun r s' h => ?_
  match r, h with
  | .error e, h => exact (hCX H e s' h).elim
  | .ok (.ret u), h =>
    obtain ⟨v, H', os, bare, un, hok', r', q⟩ := h
    have q' : v = .bl true := q
    subst q'
    obtain rfl : u = Value.bool true := r'
    refine ⟨rfl, OldK.of_keep fun b o e => ?_, os, bare⟩
    cases q : H b with
    | none => exact un.keep b o e q (fun z => absurd (show b ∈ ([] : List Addr) from z) (by simp)) (by simp)
    | some u =>
      rcases hO b with z | ⟨ob, xs, z⟩
      · rw [q] at z; cases z
      · obtain ⟨e1, _⟩ := hok b _ z
        obtain ⟨e2, _⟩ := hok' b _ (un.frzs b ob _ z)
        rw [e] at e1
        cases e1
        exact e2
theorem walkG {l : PySem.W.OpenLaw} {n k : Nat} {q : Program} {loose : List Str} {XP : (Str → Option Value) → Heap → Prop} {YP : World → Heap → Prop} {d : DefRec} {CX : World → CXT} {x : Str}
    (hn : l.most = some n) (hn2 : n ≤ sizeLine) (hdf : d.params.defaults = []) (hr : Room k callerA)
    (F : ∀ (w : World) (mg : Str → Option Value) (fa : Addr) (h : Heap), YP w h → h.Ns mainGlobals mg → mg d.name = some (.ref fa) →
      ∃ (K : PySem.W.Frag) (fd : FuncData) (sp : Sp), K.In h ∧ (∀ (s : Shared) (u : Value), BindsTo s fd ⟨[u], []⟩ [(x, u)]) ∧
        (∀ (H : Hp) (a : Addr) (ns : List Int), ns.length ≤ n → L2.Only H → SqL K H a (ns.map V.int) → sp [.ref a] H (fun v _ => v = .bl true) fun _ _ _ => False) ∧
        ∀ base : Heap, K.In base → base.Ns mainGlobals mg → FnG l.prog w K mg base (CX w) k fa fd [x] sp)
    (hCX : ∀ (w : World) (H : Hp) (s : Shared) (e : Value) (s' : Shared), CX w [] H s (fun _ _ _ => False) e s' → False) :
    PySem.W.WalkO q loose XP YP l.row.toRowW d [] (fun f vs => PySem.call f vs) := by
  refine Att.attach_call hn hdf fun w s0 s1 mg mb fa o pm cd doc a vs ns G Y ho hd hcd hmg hobj hints hlen hg => ?_
  obtain ⟨K, fd, sp, KX, hb, hsp, hF⟩ := F w mg fa _ Y G.T.g hmg
  exact lawG_call KX G.T.g G.T.b G.T.builtins G.T.nolimit hg hobj hints (Nat.le_trans hlen hn2) hr hF hb (fun H hO hS => hsp H a ns hlen hO hS) fun H e s' => hCX w H s1 e s'
/-- the law's promise, from what its function is worth at every script -/
theorem law_sp {B : Bas} {F : Fn} {H : Hp} {a : Addr} {ns : List Int} (hn : F.n = 1) (hO : L2.Only H) (hS : SqL B.K H a (ns.map V.int)) (h : ∃ S, F.run [.scr (ns.map .int)] [] = .ok (.bl true) S) : spF B F [.ref a] H (fun v _ => v = .bl true) fun _ _ _ => False := by
  obtain ⟨S, h⟩ := h
  have ri : ∀ (m : Mp) (l : List Int), Reps B m (l.map .int) (l.map V.int) := fun m l => by
    induction l with
    | nil => exact Reps.nil
    | cons i r ih => exact Reps.cons (rp_int m) ih
  refine ⟨⟨fun _ => 0, 0, H⟩, [], [.scr (ns.map .int)], fun _ _ e => e, ⟨rfl, fun i o e => by simp at e, fun i j hi => absurd hi (Nat.not_lt_zero _)⟩, Reps.cons ?_ Reps.nil, hn.symm, ?_⟩
  · simp only [Rep]
    refine ⟨a, ns.map V.int, rfl, ?_, ri _ ns⟩
    rcases hS with hS | hS
    · exact .inl ⟨hS, fun i hi => absurd hi (Nat.not_lt_zero _)⟩
    · exact .inr (.inr hS)
  · rw [h]
    exact fun m' H' v _ _ r => r.bl_eq
end G

set_option Elab.async false
set_option linter.all false
set_option maxRecDepth 100000
set_option maxHeartbeats 2000000
/-! G12: the words that the printed derivations use -/
namespace G
open PySem L2
section
variable {B : Bas}
theorem op2_sub : Op2 B (rI0 fun i j => .int (i - j)) dSub := op2_I0
theorem op2_div : Op2 B (rI CDiv fun i j => .int (i / j)) dDiv := op2_I
theorem op2_mod : Op2 B (rI (fun _ j => 0 < j) fun i j => .int (i % j)) dMod := op2_I
theorem op2_pow : Op2 B (rI CPow fun i j => .int (i ^ j.toNat)) dPow := op2_I
theorem op2_shl : Op2 B (rI CPow fun i j => .int (i * 2 ^ j.toNat)) dShl := op2_I
theorem op2_and : Op2 B (rI0 fun i j => .int (Builtin.bitAnd i j)) dAnd := op2_I0
theorem op2_or : Op2 B (rI0 fun i j => .int (Builtin.bitOr i j)) dOr := op2_I0
theorem op2_le0 : Op2 B (rI0 fun i j => .bl (decide (i ≤ j))) dLe0 := op2_B0
theorem op2_gt0 : Op2 B (rI0 fun i j => .bl (decide (j < i))) dGt0 := op2_B0
theorem op2_ge0 : Op2 B (rI0 fun i j => .bl (decide (j ≤ i))) dGe0 := op2_B0
end
theorem hu64 {A : Around} {k : Nat} (hr : Room k A) : A.units + 64 < cLine := by have := hr.un; omega
theorem hu65 {A : Around} {k : Nat} (hr : Room k A) : A.units + 65 < cLine := by have := hr.un; omega
theorem hu66 {A : Around} {k : Nat} (hr : Room k A) : A.units + 66 < cLine := by have := hr.un; omega
/-- a def that may be called by its name -/
def Cal (P : Program) (w : World) (K : PySem.W.Frag) (mg : Str → Option Value) (base : Heap) (B : Bas) (x : Str) (k : Nat) (F : Fn) : Prop :=
  ∃ (f : Addr) (fd : FuncData) (ps : List Str), FnOk P w K mg base (L2.CX P w) k f fd ps (spF B F) ∧ mg x = some (.ref f) ∧ PySem.W.keepIn K (.ref f) = true ∧ Binds K fd ps []
section
variable {X : Cx} {B : Bas} {W : WX} {e : Expr} {es : List Expr} {pos p : Pos} {mr : MA} {x : Str}
theorem de_fn {k j : Nat} {F : Fn} (c : Cal X.prog X.w X.K X.mg X.base B x k F) (hr : Room j X.A) (hk : k ≤ j) (tk : Takes X W) (ha : PA X (e :: es) (tA B W mr)) (hg : Gl X x := by rfl) (hdb : (x == ("__debug__" : Str)) = false := by decide)
    (he : starEach (e :: es) X.env = (false, eval e X.env) :: starEach es X.env := by rfl) (hpl : (backTo pos (starEach es X.env)).any (·.1) = false := by rfl) : PE X (.Call (.Name x p) (e :: es) [] pos) (tE B W (mCall F mr)) := by
  obtain ⟨f, fd, ps, h1, h2, h3, h4⟩ := c
  exact de_call h1 (hr.mono hk) tk h2 h3 h4 ha hg hdb he hpl
theorem de_tup {k : Nat} (ha : PA X es (tA B W mr)) : PE X (.Tuple es k pos) (tE B W (mTup mr)) := PE.cut (pe_tup ha) tTup_of
theorem de_lst (ha : PA X es (tA B W mr)) : PE X (.List es pos) (tE B W (mLst mr)) := PE.cut (pe_lst ha) tLst_of
theorem de_new (ha : PA X es (tA B W mr)) : PE X (.List es pos) (tE B W (mNew mr)) := PE.cut (pe_lst ha) tNew_of
theorem de_gint {i : Int} (h : ∃ t, X.mg x = some (.int i t)) (hg : Gl X x := by rfl) (hd : (x == ("__debug__" : Str)) = false := by decide) : PE X (.Name x pos) (tE B W (mC (.int i))) := by
  obtain ⟨t, h⟩ := h
  exact de_c (pe_glob hg h (v := .int i) ⟨t, rfl⟩ hd) rp_int
theorem de_gstr {z : Str} (h : ∃ t, X.mg x = some (.str z t)) (hg : Gl X x := by rfl) (hd : (x == ("__debug__" : Str)) = false := by decide) : PE X (.Name x pos) (tE B W (mC (.str z))) := by
  obtain ⟨t, h⟩ := h
  exact de_c (pe_glob hg h (v := .str z) ⟨t, rfl⟩ hd) rp_str
end
theorem toFun {K : PySem.W.Frag} {x qual : Str} {st : Stmt} {f : Addr} {fd : FuncData} (F : FunD K x qual (defArgs st) (defBody st) (defScope st) [] [] f fd) : Fun K x qual st f fd := by
  obtain ⟨oc, od, dV, kV, doc, pm, an, cdv, ct, osl, e, lk, hcd, hD, _⟩ := F.ex
  rcases hD with ⟨_, rfl⟩ | ⟨z, _⟩
  · exact ⟨⟨oc, od, kV, doc, pm, an, cdv, ct, osl, e, lk, hcd⟩, F.kp⟩
  · exact absurd rfl z
theorem noCX {P : Program} {w : World} {H : Hp} {s : Shared} {e : Value} {s' : Shared} (h : L2.CX P w [] H s (fun _ _ _ => False) e s') : False := by
  obtain ⟨_, _, _, _, _, _, _, _, _, _, _, _, z⟩ := h
  exact z
end G

set_option Elab.async false
set_option linter.all false
set_option maxRecDepth 100000
set_option maxHeartbeats 2000000
/-! G13: the combinators' values, step by step (for simp only): no lambda is ever opened ahead of its turn -/
namespace G
open PySem L2
def optR (o : Option D) (S : Sto) : Res D := match o with
  | some d => .ok d S
  | none => .bad
@[simp] theorem optR_some (d : D) (S : Sto) : optR (some d) S = .ok d S := rfl
@[simp] theorem optR_none (S : Sto) : optR none S = .bad := rfl
def varR (o : Option (Option D)) (S : Sto) : Res D := match o with
  | some (some d) => .ok d S
  | _ => .bad
@[simp] theorem varR_some (d : D) (S : Sto) : varR (some (some d)) S = .ok d S := rfl
@[simp] theorem mVar_ap (i : Nat) (en : En) (S : Sto) : mVar i en S = varR en[i]? S := rfl
@[simp] theorem mC_ap (d : D) (en : En) (S : Sto) : mC d en S = .ok d S := rfl
def opK2 (g : Sto → D → D → Option D) (x : D) (y : D) (S : Sto) : Res D := optR (g S x y) S
def opK1 (g : Sto → D → D → Option D) (b : ME) (en : En) (x : D) (S : Sto) : Res D := (b en S).bind (opK2 g x)
theorem mOp_ap (g : Sto → D → D → Option D) (a b : ME) (en : En) (S : Sto) : mOp g a b en S = (a en S).bind (opK1 g b en) := rfl
theorem opK1_ap (g : Sto → D → D → Option D) (b : ME) (en : En) (x : D) (S : Sto) : opK1 g b en x S = (b en S).bind (opK2 g x) := rfl
theorem opK2_ap (g : Sto → D → D → Option D) (x y : D) (S : Sto) : opK2 g x y S = optR (g S x y) S := rfl
def unK (g : Sto → D → Option D) (x : D) (S : Sto) : Res D := optR (g S x) S
theorem mUn_ap (g : Sto → D → Option D) (a : ME) (en : En) (S : Sto) : mUn g a en S = (a en S).bind (unK g) := rfl
theorem unK_ap (g : Sto → D → Option D) (x : D) (S : Sto) : unK g x S = optR (g S x) S := rfl
def testK (x : D) (S : Sto) : Res Bool := match x with
  | .bl k => .ok k S
  | _ => .bad
theorem mTest_ap (a : ME) (en : En) (S : Sto) : mTest a en S = (a en S).bind testK := rfl
theorem testK_bl (k : Bool) (S : Sto) : testK (.bl k) S = .ok k S := rfl
def andK (b : MT) (en : En) (k : Bool) (S : Sto) : Res Bool := match k with
  | true => b en S
  | false => .ok false S
theorem mAnd_ap (a b : MT) (en : En) (S : Sto) : mAnd a b en S = (a en S).bind (andK b en) := rfl
theorem andK_t (b : MT) (en : En) (S : Sto) : andK b en true S = b en S := rfl
theorem andK_f (b : MT) (en : En) (S : Sto) : andK b en false S = .ok false S := rfl
def orK (b : MT) (en : En) (k : Bool) (S : Sto) : Res Bool := match k with
  | true => .ok true S
  | false => b en S
theorem mOr_ap (a b : MT) (en : En) (S : Sto) : mOr a b en S = (a en S).bind (orK b en) := rfl
theorem orK_t (b : MT) (en : En) (S : Sto) : orK b en true S = .ok true S := rfl
theorem orK_f (b : MT) (en : En) (S : Sto) : orK b en false S = b en S := rfl
def notK (k : Bool) (S : Sto) : Res Bool := .ok (!k) S
theorem mNot_ap (a : MT) (en : En) (S : Sto) : mNot a en S = (a en S).bind notK := rfl
theorem notK_ap (k : Bool) (S : Sto) : notK k S = .ok (!k) S := rfl
def ifK (a b : ME) (en : En) (k : Bool) (S : Sto) : Res D := match k with
  | true => a en S
  | false => b en S
theorem mIf_ap (t : MT) (a b : ME) (en : En) (S : Sto) : mIf t a b en S = (t en S).bind (ifK a b en) := rfl
theorem ifK_t (a b : ME) (en : En) (S : Sto) : ifK a b en true S = a en S := rfl
theorem ifK_f (a b : ME) (en : En) (S : Sto) : ifK a b en false S = b en S := rfl
def andVK (b : ME) (en : En) (x : D) (S : Sto) : Res D := match x with
  | .bl true => b en S
  | .bl false => .ok (.bl false) S
  | _ => .bad
theorem mAndV_ap (a b : ME) (en : En) (S : Sto) : mAndV a b en S = (a en S).bind (andVK b en) := rfl
theorem andVK_t (b : ME) (en : En) (S : Sto) : andVK b en (.bl true) S = b en S := rfl
theorem andVK_f (b : ME) (en : En) (S : Sto) : andVK b en (.bl false) S = .ok (.bl false) S := rfl
def orVK (b : ME) (en : En) (x : D) (S : Sto) : Res D := match x with
  | .bl true => .ok (.bl true) S
  | .bl false => b en S
  | _ => .bad
theorem mOrV_ap (a b : ME) (en : En) (S : Sto) : mOrV a b en S = (a en S).bind (orVK b en) := rfl
theorem orVK_t (b : ME) (en : En) (S : Sto) : orVK b en (.bl true) S = .ok (.bl true) S := rfl
theorem orVK_f (b : ME) (en : En) (S : Sto) : orVK b en (.bl false) S = b en S := rfl
def notVK (x : D) (S : Sto) : Res D := match x with
  | .bl k => .ok (.bl (!k)) S
  | _ => .bad
theorem mNotV_ap (a : ME) (en : En) (S : Sto) : mNotV a en S = (a en S).bind notVK := rfl
theorem notVK_bl (k : Bool) (S : Sto) : notVK (.bl k) S = .ok (.bl (!k)) S := rfl
theorem aNil_ap (en : En) (S : Sto) : aNil en S = .ok [] S := rfl
def consK2 (x : D) (xs : List D) (S : Sto) : Res (List D) := .ok (x :: xs) S
def consK1 (r : MA) (en : En) (x : D) (S : Sto) : Res (List D) := (r en S).bind (consK2 x)
theorem aCons_ap (a : ME) (r : MA) (en : En) (S : Sto) : aCons a r en S = (a en S).bind (consK1 r en) := rfl
theorem consK1_ap (r : MA) (en : En) (x : D) (S : Sto) : consK1 r en x S = (r en S).bind (consK2 x) := rfl
theorem consK2_ap (x : D) (xs : List D) (S : Sto) : consK2 x xs S = .ok (x :: xs) S := rfl
theorem sz_small {n : Nat} (h : n ≤ 1000000) : n ≤ sizeLine := Nat.le_trans h (by decide)
def tupK (xs : List D) (S : Sto) : Res D := if xs.length ≤ sizeLine then .ok (.tup xs) S else .bad
def lstK (xs : List D) (S : Sto) : Res D := if xs.length ≤ sizeLine then .ok (.lst xs) S else .bad
def newK (xs : List D) (S : Sto) : Res D := if xs.length ≤ sizeLine then .ok (.ref S.length) (S ++ [.lst xs]) else .bad
theorem mTup_ap (r : MA) (en : En) (S : Sto) : mTup r en S = (r en S).bind tupK := rfl
theorem mLst_ap (r : MA) (en : En) (S : Sto) : mLst r en S = (r en S).bind lstK := rfl
theorem mNew_ap (r : MA) (en : En) (S : Sto) : mNew r en S = (r en S).bind newK := rfl
theorem tupK_ok {xs : List D} {S : Sto} (h : xs.length ≤ 1000000) : tupK xs S = .ok (.tup xs) S := if_pos (sz_small h)
theorem lstK_ok {xs : List D} {S : Sto} (h : xs.length ≤ 1000000) : lstK xs S = .ok (.lst xs) S := if_pos (sz_small h)
theorem newK_ok {xs : List D} {S : Sto} (h : xs.length ≤ 1000000) : newK xs S = .ok (.ref S.length) (S ++ [.lst xs]) := if_pos (sz_small h)
def cbK (g : Sto → List D → Option D) (xs : List D) (S : Sto) : Res D := optR (g S xs) S
theorem mCB_ap (g : Sto → List D → Option D) (r : MA) (en : En) (S : Sto) : mCB g r en S = (r en S).bind (cbK g) := rfl
theorem cbK_ap (g : Sto → List D → Option D) (xs : List D) (S : Sto) : cbK g xs S = optR (g S xs) S := rfl
def callK (F : Fn) (ds : List D) (S : Sto) : Res D := if ds.length = F.n then F.run ds S else .bad
theorem mCall_ap (F : Fn) (r : MA) (en : En) (S : Sto) : mCall F r en S = (r en S).bind (callK F) := rfl
theorem callK_ok {F : Fn} {ds : List D} {S : Sto} (h : ds.length = F.n) : callK F ds S = F.run ds S := if_pos h
/-! statements -/
theorem sNil_ap (en : En) (S : Sto) : sNil en S = .ok (.nx en) S := rfl
def seqK (b : MS) (f : Fl) (S : Sto) : Res Fl := match f with
  | .nx en1 => b en1 S
  | .rt d => .ok (.rt d) S
  | .bk e => .ok (.bk e) S
  | .ct e => .ok (.ct e) S
theorem sSeq_ap (a b : MS) (en : En) (S : Sto) : sSeq a b en S = (a en S).bind (seqK b) := rfl
theorem seqK_nx (b : MS) (en : En) (S : Sto) : seqK b (.nx en) S = b en S := rfl
theorem seqK_rt (b : MS) (d : D) (S : Sto) : seqK b (.rt d) S = .ok (.rt d) S := rfl
theorem seqK_bk (b : MS) (d : En) (S : Sto) : seqK b (.bk d) S = .ok (.bk d) S := rfl
theorem seqK_ct (b : MS) (d : En) (S : Sto) : seqK b (.ct d) S = .ok (.ct d) S := rfl
def ifSK (a b : MS) (en : En) (k : Bool) (S : Sto) : Res Fl := match k with
  | true => a en S
  | false => b en S
theorem sIf_ap (t : MT) (a b : MS) (en : En) (S : Sto) : sIf t a b en S = (t en S).bind (ifSK a b en) := rfl
theorem ifSK_t (a b : MS) (en : En) (S : Sto) : ifSK a b en true S = a en S := rfl
theorem ifSK_f (a b : MS) (en : En) (S : Sto) : ifSK a b en false S = b en S := rfl
def retK (d : D) (S : Sto) : Res Fl := .ok (.rt d) S
theorem sRet_ap (e : ME) (en : En) (S : Sto) : sRet e en S = (e en S).bind retK := rfl
theorem retK_ap (d : D) (S : Sto) : retK d S = .ok (.rt d) S := rfl
theorem sRetN_ap (en : En) (S : Sto) : sRetN en S = .ok (.rt .non) S := rfl
def dropK (en : En) (_ : D) (S : Sto) : Res Fl := .ok (.nx en) S
theorem sDrop_ap (e : ME) (en : En) (S : Sto) : sDrop e en S = (e en S).bind (dropK en) := rfl
theorem dropK_ap (en : En) (d : D) (S : Sto) : dropK en d S = .ok (.nx en) S := rfl
def enR (o : Option En) (S : Sto) : Res Fl := match o with
  | some en => .ok (.nx en) S
  | none => .bad
theorem enR_some (en : En) (S : Sto) : enR (some en) S = .ok (.nx en) S := rfl
def asgK (g : MG) (en : En) (d : D) (S : Sto) : Res Fl := enR (g d en) S
theorem sAsg_ap (e : ME) (g : MG) (en : En) (S : Sto) : sAsg e g en S = (e en S).bind (asgK g en) := rfl
theorem asgK_ap (g : MG) (en : En) (d : D) (S : Sto) : asgK g en d S = enR (g d en) S := rfl
theorem gN_ap (i : Nat) (d : D) (en : En) : gN i d en = some (en.set i (some d)) := rfl
theorem gsNil_ap (en : En) : gsNil [] en = some en := rfl
theorem gsCons_ap (g : MG) (r : MGs) (d : D) (ds : List D) (en : En) : gsCons g r (d :: ds) en = (g d en).bind (r ds) := rfl
theorem gT_ap (n : Nat) (g : MGs) (ds : List D) (en : En) : gT n g (.tup ds) en = if ds.length = n then g ds en else none := rfl
def parK (i j : Nat) (en : En) (ds : List D) (S : Sto) : Res Fl := match ds with
  | [x, y] => .ok (.nx ((en.set i (some x)).set j (some y))) S
  | _ => .bad
theorem sPar_ap (i j : Nat) (r : MA) (en : En) (S : Sto) : sPar i j r en S = (r en S).bind (parK i j en) := rfl
theorem parK_ap (i j : Nat) (en : En) (x y : D) (S : Sto) : parK i j en [x, y] S = .ok (.nx ((en.set i (some x)).set j (some y))) S := rfl
theorem sBk_ap (en : En) (S : Sto) : sBk en S = .ok (.bk en) S := rfl
theorem sCt_ap (en : En) (S : Sto) : sCt en S = .ok (.ct en) S := rfl
/-! loops -/
noncomputable def forK (g : MG) (b : MS) (en : En) (its : Its) (S : Sto) : Res Fl := loop g b its.P its.ds en S
theorem sFor_ap (i : MI) (g : MG) (b : MS) (en : En) (S : Sto) : sFor i g b en S = (i en S).bind (forK g b en) := rfl
theorem forK_ap (g : MG) (b : MS) (en : En) (ds : List D) (P : Sto → Prop) (S : Sto) : forK g b en ⟨ds, P⟩ S = loop g b P ds en S := rfl
def seqIK (d : D) (S : Sto) : Res Its := match seqL S d, seqT d with
  | some ds, _ => .ok ⟨ds, fun S => seqL S d = some ds⟩ S
  | none, some ds => .ok ⟨ds, fun _ => True⟩ S
  | none, none => .bad
theorem iSeq_ap (e : ME) (en : En) (S : Sto) : iSeq e en S = (e en S).bind seqIK := rfl
theorem seqIK_lst (ds : List D) (S : Sto) : seqIK (.lst ds) S = .ok ⟨ds, fun _ => True⟩ S := by
  unfold seqIK
  simp only [seqL]
theorem seqIK_scr (ds : List D) (S : Sto) : seqIK (.scr ds) S = .ok ⟨ds, fun _ => True⟩ S := by
  unfold seqIK
  simp only [seqL]
theorem seqIK_tup (ds : List D) (S : Sto) : seqIK (.tup ds) S = .ok ⟨ds, fun _ => True⟩ S := rfl
theorem seqIK_ktp (ds : List D) (S : Sto) : seqIK (.ktp ds) S = .ok ⟨ds, fun _ => True⟩ S := rfl
def rg1K (ds : List D) (S : Sto) : Res Its := match ds with
  | [.int j] => if -(2 ^ 62) ≤ j ∧ j < 2 ^ 62 then .ok ⟨rangeD 0 j.toNat, fun _ => True⟩ S else .bad
  | _ => .bad
theorem iRg1_ap (r : MA) (en : En) (S : Sto) : iRg1 r en S = (r en S).bind rg1K := rfl
theorem rg1K_ok {j : Int} {S : Sto} (h : -(2 ^ 62) ≤ j ∧ j < 2 ^ 62) : rg1K [.int j] S = .ok ⟨rangeD 0 j.toNat, fun _ => True⟩ S := if_pos h
def rg2K (ds : List D) (S : Sto) : Res Its := match ds with
  | [.int i, .int j] => if (-(2 ^ 62) ≤ i ∧ i < 2 ^ 62) ∧ -(2 ^ 62) ≤ j ∧ j < 2 ^ 62 then .ok ⟨rangeD i (j - i).toNat, fun _ => True⟩ S else .bad
  | _ => .bad
theorem iRg2_ap (r : MA) (en : En) (S : Sto) : iRg2 r en S = (r en S).bind rg2K := rfl
theorem rg2K_ok {i j : Int} {S : Sto} (h : (-(2 ^ 62) ≤ i ∧ i < 2 ^ 62) ∧ -(2 ^ 62) ≤ j ∧ j < 2 ^ 62) : rg2K [.int i, .int j] S = .ok ⟨rangeD i (j - i).toNat, fun _ => True⟩ S := if_pos h
noncomputable def turnK (g : MG) (b : MS) (P : Sto → Prop) (ds : List D) (f : Fl) (S : Sto) : Res Fl := match f with
  | .nx en2 => loop g b P ds en2 S
  | .ct en2 => loop g b P ds en2 S
  | .bk en2 => .ok (.nx en2) S
  | .rt d => .ok (.rt d) S
theorem turnK_nx (g : MG) (b : MS) (P : Sto → Prop) (ds : List D) (en : En) (S : Sto) : turnK g b P ds (.nx en) S = loop g b P ds en S := rfl
theorem turnK_ct (g : MG) (b : MS) (P : Sto → Prop) (ds : List D) (en : En) (S : Sto) : turnK g b P ds (.ct en) S = loop g b P ds en S := rfl
theorem turnK_bk (g : MG) (b : MS) (P : Sto → Prop) (ds : List D) (en : En) (S : Sto) : turnK g b P ds (.bk en) S = .ok (.nx en) S := rfl
theorem turnK_rt (g : MG) (b : MS) (P : Sto → Prop) (ds : List D) (d : D) (S : Sto) : turnK g b P ds (.rt d) S = .ok (.rt d) S := rfl
noncomputable def stepR (g : MG) (b : MS) (P : Sto → Prop) (ds : List D) (o : Option En) (S : Sto) : Res Fl := match o with
  | none => .bad
  | some en => (b en S).bind (turnK g b P ds)
theorem stepR_some (g : MG) (b : MS) (P : Sto → Prop) (ds : List D) (en : En) (S : Sto) : stepR g b P ds (some en) S = (b en S).bind (turnK g b P ds) := rfl
theorem loop_nil (g : MG) (b : MS) (en : En) (S : Sto) : loop g b (fun _ => True) [] en S = .ok (.nx en) S := if_pos trivial
theorem loop_cons (g : MG) (b : MS) (d : D) (ds : List D) (en : En) (S : Sto) : loop g b (fun _ => True) (d :: ds) en S = stepR g b (fun _ => True) ds (g d en) S := by
  rw [loop, if_pos trivial]
  rfl
/-! a def's value -/
def endK (f : Fl) (S : Sto) : Res D := match f with
  | .nx _ => .ok .non S
  | .rt d => .ok d S
  | _ => .bad
theorem fnB_run (n N : Nat) (b : MS) (ds : List D) (S : Sto) : (fnB n N b).run ds S = (b (startE N ds) S).bind endK := rfl
theorem endK_nx (en : En) (S : Sto) : endK (.nx en) S = .ok .non S := rfl
theorem endK_rt (d : D) (S : Sto) : endK (.rt d) S = .ok d S := rfl
theorem dropF_run (F : Fn) (ds : List D) (S : Sto) : (dropF F).run ds S = (F.run ds S).drop S := rfl
theorem fnB_n (n N : Nat) (b : MS) : (fnB n N b).n = n := rfl
theorem dropF_n (F : Fn) : (dropF F).n = F.n := rfl
/-! what must hold of a result -/
def Wp {α : Type} (r : Res α) (Q : α → Sto → Prop) : Prop := match r with
  | .ok a S => Q a S
  | _ => False
theorem Wp_ok {α : Type} (a : α) (S : Sto) (Q : α → Sto → Prop) : Wp (.ok a S) Q = Q a S := rfl
theorem Wp_bind {α β : Type} (r : Res α) (k : α → Sto → Res β) (Q : β → Sto → Prop) : Wp (r.bind k) Q = Wp r (fun a S => Wp (k a S) Q) := by cases r <;> rfl
theorem Wp.mono {α : Type} {r : Res α} {Q Q' : α → Sto → Prop} (h : Wp r Q) (f : ∀ a S, Q a S → Q' a S) : Wp r Q' := by
  cases r with
  | ok a S => exact f a S h
  | ex c ns vs S => exact h.elim
  | bad => exact h.elim
theorem Wp.of {α : Type} {r : Res α} {a : α} {S : Sto} {Q : α → Sto → Prop} (h : r = .ok a S) (q : Q a S) : Wp r Q := by rw [h]; exact q
theorem Wp.ok_of {α : Type} {r : Res α} {Q : α → Sto → Prop} (h : Wp r Q) : ∃ a S, r = .ok a S ∧ Q a S := by
  cases r with
  | ok a S => exact ⟨a, S, rfl, h⟩
  | ex c ns vs S => exact h.elim
  | bad => exact h.elim
open Classical in
theorem Wp_drop {r : Res D} {S : Sto} {Q : D → Sto → Prop} : Wp (r.drop S) Q = Wp r (fun d S' => (Cl S S' ∧ d.bel S.length) ∧ Q d (S'.take S.length)) := by
  cases r with
  | ok d S' =>
    simp only [Res.drop, Wp]
    by_cases h : Cl S S' ∧ d.bel S.length
    · rw [if_pos h]
      simp [h]
    · rw [if_neg h]
      simp only [h, false_and]
  | ex c ns vs S' =>
    simp only [Res.drop, Wp]
    split
    · rename_i h
      split at h <;> cases h
    · rfl
  | bad => rfl
theorem Cl.set {S : Sto} {i : Nat} {b : Ob} (hb : b.bel S.length) : Cl S (S.set i b) := ⟨by simp, fun j hj => by
  by_cases h : i = j
  · subst h
    exact .inr ⟨b, List.getElem?_set_self hj, hb⟩
  · exact .inl (List.getElem?_set_ne h)⟩
theorem Cl.refl (S : Sto) : Cl S S := ⟨Nat.le_refl _, fun _ _ => .inl rfl⟩
theorem take_set (S : Sto) (i : Nat) (b : Ob) : (S.set i b).take S.length = S.set i b := List.take_of_length_le (by simp)
/-- a for loop by its invariant -/
theorem Wp_loop {g : MG} {b : MS} {ds : List D} {en : En} {S : Sto} {Q : Fl → Sto → Prop} (I : Nat → En → Sto → Prop) (h0 : I 0 en S)
    (turn : ∀ (i : Nat) (d : D) (en : En) (S : Sto), ds[i]? = some d → I i en S → ∃ en1, g d en = some en1 ∧ Wp (b en1 S) fun f S1 => match f with
      | .nx en2 => I (i + 1) en2 S1
      | .ct en2 => I (i + 1) en2 S1
      | .bk en2 => Q (.nx en2) S1
      | .rt d => Q (.rt d) S1)
    (done : ∀ en S, I ds.length en S → Q (.nx en) S) : Wp (loop g b (fun _ => True) ds en S) Q := by
  have key : ∀ (n i : Nat) (en : En) (S : Sto), ds.length - i = n → i ≤ ds.length → I i en S → Wp (loop g b (fun _ => True) (ds.drop i) en S) Q := by
    intro n
    induction n with
    | zero =>
      intro i en S hn hi h
      have e : i = ds.length := by omega
      subst e
      rw [List.drop_length, loop_nil]
      exact done en S h
    | succ n ih =>
      intro i en S hn hi h
      have hi' : i < ds.length := by omega
      rw [List.drop_eq_getElem_cons hi', loop_cons]
      obtain ⟨en1, e1, w⟩ := turn i ds[i] en S (List.getElem?_eq_getElem hi') h
      rw [e1, stepR_some, Wp_bind]
      refine w.mono fun f S1 q => ?_
      cases f with
      | nx en2 => exact ih (i + 1) en2 S1 (by omega) hi' q
      | ct en2 => exact ih (i + 1) en2 S1 (by omega) hi' q
      | bk en2 => exact q
      | rt d => exact q
  exact key _ 0 en S rfl (Nat.zero_le _) h0
/-- a while loop by its invariant and its measure -/
theorem Wp_whil {t : MT} {b : MS} {Q : Fl → Sto → Prop} (I : En → Sto → Prop) (μ : En → Sto → Nat)
    (turn : ∀ en S, I en S → Wp (t en S) fun k S1 => match k with
      | false => Q (.nx en) S1
      | true => Wp (b en S1) fun f S2 => match f with
        | .nx en2 => I en2 S2 ∧ μ en2 S2 < μ en S
        | .ct en2 => I en2 S2 ∧ μ en2 S2 < μ en S
        | .bk en2 => Q (.nx en2) S2
        | .rt d => Q (.rt d) S2) :
    ∀ (n : Nat) (en : En) (S : Sto), I en S → μ en S < n → Wp (whil t b n en S) Q := by
  intro n
  induction n with
  | zero => intro en S _ h; exact absurd h (Nat.not_lt_zero _)
  | succ n ih =>
    intro en S h hm
    rw [whil, Wp_bind]
    refine (turn en S h).mono fun k S1 q => ?_
    cases k with
    | false => exact q
    | true =>
      simp only [] at q ⊢
      rw [Wp_bind]
      refine q.mono fun f S2 r => ?_
      cases f with
      | nx en2 => exact ih en2 S2 r.1 (by omega)
      | ct en2 => exact ih en2 S2 r.1 (by omega)
      | bk en2 => exact r
      | rt d => exact r
theorem sWhile_ap (n : Nat) (t : MT) (b : MS) (en : En) (S : Sto) : sWhile n t b en S = whil t b n en S := rfl
/-! comprehensions -/
noncomputable def itK (g : MG) (t : MT) (e : ME) (en : En) (its : Its) (S : Sto) : Res (List D) := comp g t e its.P en its.ds [] S
theorem cItems_ap (i : MI) (g : MG) (t : MT) (e : ME) (vs : List Nat) (en : En) (S : Sto) : cItems i g t e vs en S = (i en S).bind (itK g t e (wipeE en vs)) := rfl
theorem itK_ap (g : MG) (t : MT) (e : ME) (en : En) (ds : List D) (P : Sto → Prop) (S : Sto) : itK g t e en ⟨ds, P⟩ S = comp g t e P en ds [] S := rfl
def lcK (ds : List D) (S : Sto) : Res D := .ok (.lst ds) S
def lcNK (ds : List D) (S : Sto) : Res D := .ok (.ref S.length) (S ++ [.lst ds])
theorem mLc_ap (i : MI) (g : MG) (t : MT) (e : ME) (vs : List Nat) (en : En) (S : Sto) : mLc i g t e vs en S = (cItems i g t e vs en S).bind lcK := rfl
theorem mLcN_ap (i : MI) (g : MG) (t : MT) (e : ME) (vs : List Nat) (en : En) (S : Sto) : mLcN i g t e vs en S = (cItems i g t e vs en S).bind lcNK := rfl
theorem lcK_ap (ds : List D) (S : Sto) : lcK ds S = .ok (.lst ds) S := rfl
theorem lcNK_ap (ds : List D) (S : Sto) : lcNK ds S = .ok (.ref S.length) (S ++ [.lst ds]) := rfl
theorem tYesM_ap (en : En) (S : Sto) : tYesM en S = .ok true S := rfl
/-- a comprehension that leaves the store alone: filter and map -/
theorem comp_pure {g : MG} {t : MT} {e : ME} {en : En} {S : Sto} {p : D → Bool} {f : D → D} : ∀ (ds acc : List D),
    (∀ d ∈ ds, ∃ en1, g d en = some en1 ∧ t en1 S = .ok (p d) S ∧ (p d = true → e en1 S = .ok (f d) S)) → acc.length + ds.length ≤ 1000000 →
    comp g t e (fun _ => True) en ds acc S = .ok (acc ++ (ds.filter p).map f) S
  | [], acc, _, _ => by rw [comp, if_pos trivial]; simp
  | d :: ds, acc, h, hl => by
    obtain ⟨en1, h1, h2, h3⟩ := h d (by simp)
    rw [comp, if_pos trivial, h1]
    simp only [h2, Res.noex, Res.bind_ok]
    simp only [List.length_cons] at hl
    cases hp : p d with
    | false =>
      simp only [hp]
      rw [comp_pure ds acc (fun x hx => h x (by simp [hx])) (by omega), List.filter_cons_of_neg (by simp [hp])]
    | true =>
      simp only [hp, h3 hp, Res.bind_ok]
      rw [if_pos (show acc.length < sizeLine from Nat.lt_of_lt_of_le (by omega : acc.length < 1000000) (by decide)), comp_pure ds (acc ++ [f d]) (fun x hx => h x (by simp [hx])) (by simp; omega), List.filter_cons_of_pos hp]
      simp
end G

set_option Elab.async false
set_option linter.all false
set_option maxRecDepth 100000
set_option maxHeartbeats 2000000
/-! G14: the operators' values by their operands' kinds -/
namespace G
open PySem L2
theorem dAdd_int (S : Sto) (i j : Int) : dAdd S (.int i) (.int j) = some (.int (i + j)) := rfl
theorem dAdd_str (S : Sto) (x y : Str) : dAdd S (.str x) (.str y) = if x.length + y.length ≤ sizeLine then some (.str (x ++ y)) else none := rfl
theorem dAdd_lst (S : Sto) (x y : List D) : dAdd S (.lst x) (.lst y) = if x.length + y.length ≤ sizeLine then some (.lst (x ++ y)) else none := rfl
theorem dAdd_tup (S : Sto) (x y : List D) : dAdd S (.tup x) (.tup y) = if x.length + y.length ≤ sizeLine then some (.tup (x ++ y)) else none := rfl
theorem dSub_int (S : Sto) (i j : Int) : dSub S (.int i) (.int j) = some (.int (i - j)) := rfl
theorem dMul_int (S : Sto) (i j : Int) : dMul S (.int i) (.int j) = if CMul i j then some (.int (i * j)) else none := rfl
theorem dMul_l {S : Sto} {i j : Int} (h : -(2 ^ 64) < i ∧ i < 2 ^ 64) : dMul S (.int i) (.int j) = some (.int (i * j)) := if_pos (.inl h)
theorem dMul_r {S : Sto} {i j : Int} (h : -(2 ^ 64) < j ∧ j < 2 ^ 64) : dMul S (.int i) (.int j) = some (.int (i * j)) := if_pos (.inr h)
theorem dDiv_int {S : Sto} {i j : Int} (h : 0 < j ∧ j < 1073741824) : dDiv S (.int i) (.int j) = some (.int (i / j)) := if_pos h
theorem dMod_int {S : Sto} {i j : Int} (h : 0 < j) : dMod S (.int i) (.int j) = some (.int (i % j)) := if_pos h
theorem dPow_int {S : Sto} {i j : Int} (h : CPow i j) : dPow S (.int i) (.int j) = some (.int (i ^ j.toNat)) := if_pos h
theorem dShl_int {S : Sto} {i j : Int} (h : CPow i j) : dShl S (.int i) (.int j) = some (.int (i * 2 ^ j.toNat)) := if_pos h
theorem dAnd_int (S : Sto) (i j : Int) : dAnd S (.int i) (.int j) = some (.int (Builtin.bitAnd i j)) := rfl
theorem dOr_int (S : Sto) (i j : Int) : dOr S (.int i) (.int j) = some (.int (Builtin.bitOr i j)) := rfl
theorem dLe0_int (S : Sto) (i j : Int) : dLe0 S (.int i) (.int j) = some (.bl (decide (i ≤ j))) := rfl
theorem dGt0_int (S : Sto) (i j : Int) : dGt0 S (.int i) (.int j) = some (.bl (decide (j < i))) := rfl
theorem dGe0_int (S : Sto) (i j : Int) : dGe0 S (.int i) (.int j) = some (.bl (decide (j ≤ i))) := rfl
theorem sh_int (i : Int) : SeqAt.shaped (.int i) = true := by simp [SeqAt.shaped, PyData.canLay0, PyData.depth]
theorem sh_str (x : Str) : SeqAt.shaped (.str x) = PyData.strOk x := by simp [SeqAt.shaped, PyData.canLay0, PyData.depth]
theorem sh_none : SeqAt.shaped .none = true := by simp [SeqAt.shaped, PyData.canLay0, PyData.depth]
theorem sh_bool (b : Bool) : SeqAt.shaped (.bool b) = true := by simp [SeqAt.shaped, PyData.canLay0, PyData.depth]
theorem pdv_int (S : Sto) (i : Int) : pdv S (.int i) = some (.int i) := by simp [pdv, seqL, pd]
theorem pdv_str (S : Sto) (i : Str) : pdv S (.str i) = some (.str i) := by simp [pdv, seqL, pd]
theorem pdv_bl (S : Sto) (i : Bool) : pdv S (.bl i) = some (.bool i) := by simp [pdv, seqL, pd]
theorem pdv_non (S : Sto) : pdv S .non = some .none := by simp [pdv, seqL, pd]
theorem pdv_tup (S : Sto) (ds : List D) : pdv S (.tup ds) = (pds ds).map .tuple := by simp [pdv, seqL, pd]
theorem pdv_lst (S : Sto) (ds : List D) : pdv S (.lst ds) = (pds ds).map .list := by simp [pdv, seqL]
theorem dLt_int (S : Sto) (i j : Int) : dLt S (.int i) (.int j) = some (.bl (decide (i < j))) := by
  simp only [dLt, pdv_int, sh_int, and_self, if_true, pLt, Option.map_some]
theorem dEq_int (S : Sto) (i j : Int) : dEq S (.int i) (.int j) = some (.bl (decide (i = j))) := by
  simp only [dEq, dEqB, pdv_int, sh_int, and_self, if_true, PyData.eqv, Option.map_some]
  rfl
theorem dNe_int (S : Sto) (i j : Int) : dNe S (.int i) (.int j) = some (.bl (!decide (i = j))) := by
  simp only [dNe, dEqB, pdv_int, sh_int, and_self, if_true, PyData.eqv, Option.map_some]
  rfl
theorem dEq_str (S : Sto) (i j : Str) : dEq S (.str i) (.str j) = some (.bl (decide (i = j))) := rfl
theorem dNe_str (S : Sto) (i j : Str) : dNe S (.str i) (.str j) = some (.bl (!decide (i = j))) := rfl
theorem dNe_same {S : Sto} {x : Str} : dNe S (.str x) (.str x) = some (.bl false) := by rw [dNe_str]; simp
theorem dIs_non (S : Sto) (x : D) : dIs S x .non = some (.bl (isNon x)) := rfl
theorem dIsNot_non (S : Sto) (x : D) : dIsNot S x .non = some (.bl (!isNon x)) := rfl
theorem dNeg_int (S : Sto) (i : Int) : dNeg S (.int i) = some (.int (-i)) := rfl
theorem dIdx_tup (S : Sto) (ds : List D) (i : Int) : dIdx S (.tup ds) (.int i) = atI ds i := rfl
theorem dIdx_lst (S : Sto) (ds : List D) (i : Int) : dIdx S (.lst ds) (.int i) = atI ds i := rfl
theorem dIdx_scr (S : Sto) (ds : List D) (i : Int) : dIdx S (.scr ds) (.int i) = atI ds i := rfl
def idxO (o : Option Ob) (i : Int) : Option D := match o with
  | some (.lst ds) => atI ds i
  | _ => none
theorem dIdx_ref (S : Sto) (k : Nat) (i : Int) : dIdx S (.ref k) (.int i) = idxO S[k]? i := by
  simp only [dIdx, seqL, seqT, idxO]
  cases S[k]? with
  | none => rfl
  | some o => cases o <;> rfl
theorem idxO_lst (ds : List D) (i : Int) : idxO (some (.lst ds)) i = atI ds i := rfl
theorem atI_0 {α : Type} (x : α) (xs : List α) : atI (x :: xs) 0 = some x := by
  unfold atI ixN
  rw [if_pos (by omega), if_pos (by simp only [List.length_cons]; omega)]
  rfl
theorem atI_1 {α : Type} (x y : α) (xs : List α) : atI (x :: y :: xs) 1 = some y := by
  unfold atI ixN
  rw [if_pos (by omega), if_pos (by simp only [List.length_cons]; omega)]
  rfl
theorem atI_2 {α : Type} (x y z : α) (xs : List α) : atI (x :: y :: z :: xs) 2 = some z := by
  unfold atI ixN
  rw [if_pos (by omega), if_pos (by simp only [List.length_cons]; omega)]
  rfl
theorem atI_3 {α : Type} (x y z w : α) (xs : List α) : atI (x :: y :: z :: w :: xs) 3 = some w := by
  unfold atI ixN
  rw [if_pos (by omega), if_pos (by simp only [List.length_cons]; omega)]
  rfl
theorem atI_4 {α : Type} (x y z w u : α) (xs : List α) : atI (x :: y :: z :: w :: u :: xs) 4 = some u := by
  unfold atI ixN
  rw [if_pos (by omega), if_pos (by simp only [List.length_cons]; omega)]
  rfl
theorem atI_at {α : Type} {xs : List α} {i : Int} {x : α} (h : 0 ≤ i) (e : xs[i.toNat]? = some x) : atI xs i = some x := by
  have hl := (List.getElem?_eq_some_iff.mp e).1
  unfold atI ixN
  rw [if_pos h, if_pos (by omega)]
  exact e
theorem dLen_str {S : Sto} {z : Str} (h : z.length ≤ sizeLine) : dLen S [.str z] = some (.int z.length) := if_pos h
theorem dLen_lst (S : Sto) (ds : List D) : dLen S [.lst ds] = some (.int ds.length) := rfl
theorem dLen_scr (S : Sto) (ds : List D) : dLen S [.scr ds] = some (.int ds.length) := rfl
theorem dLen_tup (S : Sto) (ds : List D) : dLen S [.tup ds] = some (.int ds.length) := rfl
theorem dInt_int (S : Sto) (i : Int) : dInt S [.int i] = some (.int i) := rfl
theorem dInt_bl (S : Sto) (k : Bool) : dInt S [.bl k] = some (.int (if k then 1 else 0)) := rfl
theorem dAbs_int (S : Sto) (i : Int) : dAbs S [.int i] = some (.int (if i < 0 then -i else i)) := rfl
theorem dStr_int {S : Sto} {i : Int} (h : i.natAbs.log2 < 1920) : dStr S [.int i] = some (.str (toString i)) := if_pos h
theorem dStr_str (S : Sto) (x : Str) : dStr S [.str x] = some (.str x) := rfl
theorem dTuple_lst (S : Sto) (ds : List D) : dTuple S [.lst ds] = some (.tup ds) := rfl
theorem dTuple_tup (S : Sto) (ds : List D) : dTuple S [.tup ds] = some (.tup ds) := rfl
theorem dList_tup (S : Sto) (ds : List D) : dList S [.tup ds] = some (.lst ds) := rfl
theorem dList_lst (S : Sto) (ds : List D) : dList S [.lst ds] = some (.lst ds) := rfl
theorem dAll_lst (S : Sto) (ds : List D) : dAll S [.lst ds] = (bls ds).map fun bs => .bl (bs.all id) := rfl
theorem dAny_lst (S : Sto) (ds : List D) : dAny S [.lst ds] = (bls ds).map fun bs => .bl (bs.any id) := rfl
theorem dFmt_str {S : Sto} {y : Str} (h : y.length ≤ sizeLine) : dFmt S (.str y) = some (.str y) := if_pos h
theorem dFmt_int {S : Sto} {i : Int} (h : i.natAbs.log2 < 1920) : dFmt S (.int i) = some (.str (toString i)) := if_pos h
theorem dSplit_str {S : Sto} {a b : Str} (h : (b.length == 0) = false ∧ a.length + 2 ≤ sizeLine) : dSplit S (.str a) [.str b] = some (.lst ((Txt.split a b).map .str)) := if_pos h
def bmsK1 (g : Sto → D → List D → Option D) (r : MA) (en : En) (x : D) (S : Sto) : Res D := match x with
  | .str z => (r en S).bind fun xs S2 => optR (g S2 (.str z) xs) S2
  | _ => .bad
def bmsK2 (g : Sto → D → List D → Option D) (z : Str) (xs : List D) (S : Sto) : Res D := optR (g S (.str z) xs) S
theorem mBMs_ap (g : Sto → D → List D → Option D) (o : ME) (r : MA) (en : En) (S : Sto) : mBMs g o r en S = (o en S).bind (bmsK1 g r en) := rfl
theorem bmsK1_str (g : Sto → D → List D → Option D) (r : MA) (en : En) (z : Str) (S : Sto) : bmsK1 g r en (.str z) S = (r en S).bind (bmsK2 g z) := rfl
theorem bmsK2_ap (g : Sto → D → List D → Option D) (z : Str) (xs : List D) (S : Sto) : bmsK2 g z xs S = optR (g S (.str z) xs) S := rfl
/-! slices -/
theorem oNone_ap (en : En) (S : Sto) : oNone en S = .ok none S := rfl
def oSomeK (d : D) (S : Sto) : Res (Option Int) := match d with
  | .int i => .ok (some i) S
  | _ => .bad
theorem oSome_ap (e : ME) (en : En) (S : Sto) : oSome e en S = (e en S).bind oSomeK := rfl
theorem oSomeK_int (i : Int) (S : Sto) : oSomeK (.int i) S = .ok (some i) S := rfl
def slK3 (x : D) (lo hi : Option Int) (S : Sto) : Res D := optR (dSl S x lo hi) S
def slK2 (h : MO) (en : En) (x : D) (lo : Option Int) (S : Sto) : Res D := (h en S).bind (slK3 x lo)
def slK1 (l h : MO) (en : En) (x : D) (S : Sto) : Res D := (l en S).bind (slK2 h en x)
theorem mSl_ap (a : ME) (l h : MO) (en : En) (S : Sto) : mSl a l h en S = (a en S).bind (slK1 l h en) := rfl
theorem slK1_ap (l h : MO) (en : En) (x : D) (S : Sto) : slK1 l h en x S = (l en S).bind (slK2 h en x) := rfl
theorem slK2_ap (h : MO) (en : En) (x : D) (lo : Option Int) (S : Sto) : slK2 h en x lo S = (h en S).bind (slK3 x lo) := rfl
theorem slK3_ap (x : D) (lo hi : Option Int) (S : Sto) : slK3 x lo hi S = optR (dSl S x lo hi) S := rfl
theorem dSl_lst (S : Sto) (ds : List D) (lo hi : Option Int) : dSl S (.lst ds) lo hi = some (.lst (cutD ds lo hi)) := rfl
theorem dSl_scr (S : Sto) (ds : List D) (lo hi : Option Int) : dSl S (.scr ds) lo hi = some (.lst (cutD ds lo hi)) := rfl
theorem dSl_tup (S : Sto) (ds : List D) (lo hi : Option Int) : dSl S (.tup ds) lo hi = some (.tup (cutD ds lo hi)) := rfl
/-! stores -/
def ixK3 (d : D) (x : D) (en : En) (y : D) (S : Sto) : Res Fl := match x, y with
  | .ref i, .int n => match S[i]? with
    | some (.lst ds) => match ixN ds.length n with
      | some j => .ok (.nx en) (S.set i (.lst (ds.set j d)))
      | none => .bad
    | _ => .bad
  | _, _ => .bad
def ixK2 (k : ME) (en : En) (d : D) (x : D) (S : Sto) : Res Fl := (k en S).bind (ixK3 d x en)
def ixK1 (o k : ME) (en : En) (d : D) (S : Sto) : Res Fl := (o en S).bind (ixK2 k en d)
theorem sIx_ap (o k e : ME) (en : En) (S : Sto) : sIx o k e en S = (e en S).bind (ixK1 o k en) := rfl
theorem ixK1_ap (o k : ME) (en : En) (d : D) (S : Sto) : ixK1 o k en d S = (o en S).bind (ixK2 k en d) := rfl
theorem ixK2_ap (k : ME) (en : En) (d x : D) (S : Sto) : ixK2 k en d x S = (k en S).bind (ixK3 d x en) := rfl
def ixO2 (o : Option Nat) (ds : List D) (d : D) (i : Nat) (en : En) (S : Sto) : Res Fl := match o with
  | some j => .ok (.nx en) (S.set i (.lst (ds.set j d)))
  | none => .bad
def ixO (o : Option Ob) (d : D) (i : Nat) (en : En) (n : Int) (S : Sto) : Res Fl := match o with
  | some (.lst ds) => ixO2 (ixN ds.length n) ds d i en S
  | _ => .bad
theorem ixK3_ref (d : D) (i : Nat) (en : En) (n : Int) (S : Sto) : ixK3 d (.ref i) en (.int n) S = ixO S[i]? d i en n S := by
  simp only [ixK3, ixO]
  cases S[i]? with
  | none => rfl
  | some o => cases o <;> rfl
theorem ixO_lst (ds : List D) (d : D) (i : Nat) (en : En) (n : Int) (S : Sto) : ixO (some (.lst ds)) d i en n S = ixO2 (ixN ds.length n) ds d i en S := rfl
theorem ixO2_some (j : Nat) (ds : List D) (d : D) (i : Nat) (en : En) (S : Sto) : ixO2 (some j) ds d i en S = .ok (.nx en) (S.set i (.lst (ds.set j d))) := rfl
theorem ixN_0 (n : Nat) : ixN (n + 1) 0 = some 0 := by unfold ixN; rw [if_pos (by omega), if_pos (by omega)]; rfl
theorem ixN_1 (n : Nat) : ixN (n + 1 + 1) 1 = some 1 := by unfold ixN; rw [if_pos (by omega), if_pos (by omega)]; rfl
theorem ixN_2 (n : Nat) : ixN (n + 1 + 1 + 1) 2 = some 2 := by unfold ixN; rw [if_pos (by omega), if_pos (by omega)]; rfl
def appK2 (i : Nat) (en : En) (d : D) (S : Sto) : Res Fl := match S[i]? with
  | some (.lst ds) => if ds.length < sizeLine then .ok (.nx en) (S.set i (.lst (ds ++ [d]))) else .bad
  | _ => .bad
def appK1 (e : ME) (en : En) (x : D) (S : Sto) : Res Fl := match x with
  | .ref i => match S[i]? with
    | some (.lst _) => (e en S).bind (appK2 i en)
    | _ => .bad
  | _ => .bad
theorem sApp_ap (o e : ME) (en : En) (S : Sto) : sApp o e en S = (o en S).bind (appK1 e en) := rfl
def appO1 (o : Option Ob) (e : ME) (en : En) (i : Nat) (S : Sto) : Res Fl := match o with
  | some (.lst _) => (e en S).bind (appK2 i en)
  | _ => .bad
theorem appK1_ref (e : ME) (en : En) (i : Nat) (S : Sto) : appK1 e en (.ref i) S = appO1 S[i]? e en i S := by
  simp only [appK1, appO1]
theorem appO1_lst (ds : List D) (e : ME) (en : En) (i : Nat) (S : Sto) : appO1 (some (.lst ds)) e en i S = (e en S).bind (appK2 i en) := rfl
def appO2 (o : Option Ob) (en : En) (i : Nat) (d : D) (S : Sto) : Res Fl := match o with
  | some (.lst ds) => if ds.length < sizeLine then .ok (.nx en) (S.set i (.lst (ds ++ [d]))) else .bad
  | _ => .bad
theorem appK2_ap (i : Nat) (en : En) (d : D) (S : Sto) : appK2 i en d S = appO2 S[i]? en i d S := by
  simp only [appK2, appO2]
theorem appO2_lst {ds : List D} {en : En} {i : Nat} {d : D} {S : Sto} (hl : ds.length < 1000000) : appO2 (some (.lst ds)) en i d S = .ok (.nx en) (S.set i (.lst (ds ++ [d]))) := if_pos (Nat.lt_of_lt_of_le hl (by decide))
def extK2 (i : Nat) (en : En) (d : D) (S : Sto) : Res Fl := match S[i]?, d with
  | some (.lst ds), .lst es => if ds.length + es.length ≤ sizeLine then .ok (.nx en) (S.set i (.lst (ds ++ es))) else .bad
  | _, _ => .bad
def extK1 (e : ME) (en : En) (x : D) (S : Sto) : Res Fl := match x with
  | .ref i => match S[i]? with
    | some (.lst _) => (e en S).bind (extK2 i en)
    | _ => .bad
  | _ => .bad
theorem sExt_ap (o e : ME) (en : En) (S : Sto) : sExt o e en S = (o en S).bind (extK1 e en) := rfl
def extO1 (o : Option Ob) (e : ME) (en : En) (i : Nat) (S : Sto) : Res Fl := match o with
  | some (.lst _) => (e en S).bind (extK2 i en)
  | _ => .bad
theorem extK1_ref (e : ME) (en : En) (i : Nat) (S : Sto) : extK1 e en (.ref i) S = extO1 S[i]? e en i S := by
  simp only [extK1, extO1]
theorem extO1_lst (ds : List D) (e : ME) (en : En) (i : Nat) (S : Sto) : extO1 (some (.lst ds)) e en i S = (e en S).bind (extK2 i en) := rfl
def extO2 (o : Option Ob) (en : En) (i : Nat) (es : List D) (S : Sto) : Res Fl := match o with
  | some (.lst ds) => if ds.length + es.length ≤ sizeLine then .ok (.nx en) (S.set i (.lst (ds ++ es))) else .bad
  | _ => .bad
theorem extK2_ap (i : Nat) (en : En) (es : List D) (S : Sto) : extK2 i en (.lst es) S = extO2 S[i]? en i es S := by
  simp only [extK2, extO2]
  cases S[i]? with
  | none => rfl
  | some o => cases o <;> rfl
theorem extO2_lst {ds es : List D} {en : En} {i : Nat} {S : Sto} (hl : ds.length + es.length ≤ 1000000) : extO2 (some (.lst ds)) en i es S = .ok (.nx en) (S.set i (.lst (ds ++ es))) := if_pos (sz_small hl)
/-! f-strings -/
def fsK (ms : List ME) (acc : Str) (en : En) (d : D) (S : Sto) : Res D := match d with
  | .str y => if (acc ++ y).length ≤ sizeLine then fsAll ms (acc ++ y) en S else .bad
  | _ => .bad
theorem mFs_ap (ms : List ME) (en : En) (S : Sto) : mFs ms en S = fsAll ms Str.empty en S := rfl
theorem fsAll_nil (acc : Str) (en : En) (S : Sto) : fsAll [] acc en S = .ok (.str acc) S := rfl
theorem fsAll_cons (m : ME) (ms : List ME) (acc : Str) (en : En) (S : Sto) : fsAll (m :: ms) acc en S = (m en S).bind (fsK ms acc en) := rfl
theorem fsK_str {ms : List ME} {acc : Str} {en : En} {y : Str} {S : Sto} (h : (acc ++ y).length ≤ sizeLine) : fsK ms acc en (.str y) S = fsAll ms (acc ++ y) en S := if_pos h
end G

set_option Elab.async false
set_option linter.all false
set_option maxRecDepth 100000
set_option maxHeartbeats 2000000
/-! G15: texts as lists of code points; what repr takes; comprehensions step by step -/
namespace G
open PySem L2
def tx (l : List Nat) : Str := ⟨l.toArray⟩
theorem tx_len (l : List Nat) : (tx l).length = l.length := by simp [tx, Str.length]
theorem tx_app (a b : List Nat) : tx a ++ tx b = tx (a ++ b) := by
  show Str.append _ _ = _
  simp [tx, Str.append]
theorem tx_inj {a b : List Nat} : (tx a = tx b) = (a = b) := by simp [tx]
theorem tx_emp : Str.empty = tx [] := rfl
theorem tx_cps (l : List Nat) : (tx l).cps.toList = l := by simp [tx]
theorem tx_of (x : Str) : x = tx x.cps.toList := by cases x; simp [tx]
theorem tx_one (c : Nat) : (⟨#[c]⟩ : Str) = tx [c] := rfl
/-- the words between a sign -/
def spl (c : Nat) : List Nat → List (List Nat)
  | [] => [[]]
  | x :: l => if x = c then [] :: spl c l else match spl c l with
    | [] => [[x]]
    | w :: r => (x :: w) :: r
def glu (c : Nat) : List (List Nat) → List Nat
  | [] => []
  | [w] => w
  | w :: r => w ++ c :: glu c r
theorem glu_cons (c : Nat) (w v : List Nat) (r : List (List Nat)) : glu c (w :: v :: r) = w ++ c :: glu c (v :: r) := rfl
theorem spl_ne (c : Nat) (l : List Nat) : spl c l ≠ [] := by
  cases l with
  | nil => simp [spl]
  | cons x l =>
    rw [spl]
    split
    · simp
    · split <;> simp
def hdc (x : Nat) : List (List Nat) → List (List Nat)
  | [] => [[x]]
  | w :: r => (x :: w) :: r
theorem hdc_cons (x : Nat) (w : List Nat) (r : List (List Nat)) : hdc x (w :: r) = (x :: w) :: r := rfl
theorem spl_nil (c : Nat) : spl c [] = [[]] := rfl
theorem spl_cons (c x : Nat) (l : List Nat) : spl c (x :: l) = if x = c then [] :: spl c l else hdc x (spl c l) := by
  rw [spl]
  congr 1
theorem spl_free (c : Nat) (w : List Nat) (h : c ∉ w) : spl c w = [w] := by
  induction w with
  | nil => rfl
  | cons x w ih =>
    rw [spl, if_neg (by intro e; exact h (by simp [e])), ih (by intro e; exact h (by simp [e]))]
theorem spl_app (c : Nat) (w l : List Nat) (h : c ∉ w) : spl c (w ++ c :: l) = w :: spl c l := by
  induction w with
  | nil => simp [spl]
  | cons x w ih =>
    rw [List.cons_append, spl, if_neg (by intro e; exact h (by simp [e])), ih (by intro e; exact h (by simp [e]))]
theorem spl_glu (c : Nat) : ∀ (ws : List (List Nat)), ws ≠ [] → (∀ w ∈ ws, c ∉ w) → spl c (glu c ws) = ws
  | [], h, _ => absurd rfl h
  | [w], _, h => spl_free c w (h w (by simp))
  | w :: v :: r, _, h => by
    rw [glu_cons, spl_app c w _ (h w (by simp)), spl_glu c (v :: r) (by simp) fun u hu => h u (by simp [hu])]
theorem join_tx (z : List Nat) : ∀ ws : List (List Nat), Str.join (tx z) (ws.map tx) = tx ((ws.intersperse z).flatten)
  | [] => rfl
  | [w] => by simp [Str.join]
  | w :: v :: r => by
    show tx w ++ tx z ++ Str.join (tx z) ((v :: r).map tx) = _
    rw [join_tx z (v :: r), tx_app, tx_app]
    simp [List.intersperse]
theorem glu_flat (c : Nat) : ∀ ws : List (List Nat), (ws.intersperse [c]).flatten = glu c ws
  | [] => rfl
  | [w] => by simp [glu]
  | w :: v :: r => by
    rw [glu_cons, ← glu_flat c (v :: r)]
    simp [List.intersperse]
theorem split_tx (l : List Nat) (c : Nat) : Txt.split (tx l) (tx [c]) = (spl c l).map tx := by
  have h1 := StrLaws.join_split (tx l) (tx [c])
  have h2 : ∀ p ∈ Txt.split (tx l) (tx [c]), c ∉ p.cps.toList := StrLaws.split_free (tx l) c
  have hp : 1 ≤ (Txt.split (tx l) (tx [c])).length := PyProof.Rows.split_pos _ _
  generalize Txt.split (tx l) (tx [c]) = ps at h1 h2 hp
  have e : ps = (ps.map fun p => p.cps.toList).map tx := by
    rw [List.map_map]
    conv => lhs; rw [← List.map_id ps]
    exact List.map_congr_left fun p _ => tx_of p
  rw [e, join_tx, glu_flat, tx_inj] at h1
  rw [e, ← h1, spl_glu]
  · intro h
    simp at h
    subst h
    simp at hp
  · intro w hw
    obtain ⟨p, hp1, rfl⟩ := List.mem_map.mp hw
    exact h2 p hp1
theorem replace_tx (l : List Nat) (c : Nat) (z : List Nat) : Txt.replace (tx l) (tx [c]) (tx z) = tx (((spl c l).intersperse z).flatten) := by
  rw [← join_tx, ← split_tx]
  exact StrLaws.replace_one (tx l) (tx z) c
/-! numbers below ten -/
theorem tos10 {i : Int} (h0 : 0 ≤ i) (h : i < 10) : Str.ofString (toString i) = tx [48 + i.toNat] := by
  obtain ⟨n, rfl⟩ := Int.eq_ofNat_of_zero_le h0
  match n, h with
  | 0, _ => decide +kernel
  | 1, _ => decide +kernel
  | 2, _ => decide +kernel
  | 3, _ => decide +kernel
  | 4, _ => decide +kernel
  | 5, _ => decide +kernel
  | 6, _ => decide +kernel
  | 7, _ => decide +kernel
  | 8, _ => decide +kernel
  | 9, _ => decide +kernel
  | n + 10, h => exact absurd h (by simp; omega)
theorem log10 {i : Int} (h0 : 0 ≤ i) (h : i < 10) : i.natAbs.log2 < 1920 := by
  have h1 : i.natAbs < 2 ^ 1920 := Nat.lt_of_lt_of_le (by omega : i.natAbs < 10) (Nat.le_trans (by decide : 10 ≤ 2 ^ 4) (Nat.pow_le_pow_right (by decide) (by decide)))
  by_cases h2 : i.natAbs = 0
  · rw [h2]; decide
  · exact (Nat.log2_lt h2).mpr h1
theorem dStr10 {S : Sto} {i : Int} (h0 : 0 ≤ i) (h : i < 10) : dStr S [.int i] = some (.str (tx [48 + i.toNat])) := by
  rw [dStr_int (log10 h0 h), tos10 h0 h]
theorem dFmt10 {S : Sto} {i : Int} (h0 : 0 ≤ i) (h : i < 10) : dFmt S (.int i) = some (.str (tx [48 + i.toNat])) := by
  rw [dFmt_int (log10 h0 h), tos10 h0 h]
theorem intText10 {n : Nat} (h : n < 10) : PySem.intText? (tx [48 + n]) = some (n : Int) := by
  match n, h with
  | 0, _ => decide +kernel
  | 1, _ => decide +kernel
  | 2, _ => decide +kernel
  | 3, _ => decide +kernel
  | 4, _ => decide +kernel
  | 5, _ => decide +kernel
  | 6, _ => decide +kernel
  | 7, _ => decide +kernel
  | 8, _ => decide +kernel
  | 9, _ => decide +kernel
  | n + 10, h => exact absurd h (by omega)
theorem dInt10 {S : Sto} {i : Int} (h0 : 0 ≤ i) (h : i < 10) : dInt S [.str (tx [48 + i.toNat])] = some (.int i) := by
  show (if (tx [48 + i.toNat]).length ≤ 640 then (PySem.intText? (tx [48 + i.toNat])).map D.int else none) = _
  rw [if_pos (by simp [tx_len]), intText10 (by omega), Option.map_some]
  congr 2
  omega
/-! texts' values -/
theorem dAdd_tx {S : Sto} {x y : List Nat} (h : x.length + y.length ≤ 1000000) : dAdd S (.str (tx x)) (.str (tx y)) = some (.str (tx (x ++ y))) := by
  rw [dAdd_str, tx_len, tx_len, if_pos (Nat.le_trans h (by decide)), tx_app]
theorem dSplit_tx {S : Sto} {x : List Nat} {c : Nat} (h : x.length ≤ 1000000) : dSplit S (.str (tx x)) [.str (tx [c])] = some (.lst ((spl c x).map fun w => .str (tx w))) := by
  rw [dSplit_str ⟨rfl, by rw [tx_len]; exact Nat.le_trans (Nat.add_le_add_right h 2) (by decide)⟩, split_tx, List.map_map]
  rfl
theorem dFmt_tx {S : Sto} {x : List Nat} (h : x.length ≤ 1000000) : dFmt S (.str (tx x)) = some (.str (tx x)) := dFmt_str (by rw [tx_len]; exact Nat.le_trans h (by decide))
theorem dLen_tx {S : Sto} {x : List Nat} (h : x.length ≤ 1000000) : dLen S [.str (tx x)] = some (.int x.length) := by
  rw [dLen_str (by rw [tx_len]; exact Nat.le_trans h (by decide)), tx_len]
theorem fsK_tx {ms : List ME} {acc y : List Nat} {en : En} {S : Sto} (h : acc.length + y.length ≤ 1000000) : fsK ms (tx acc) en (.str (tx y)) S = fsAll ms (tx (acc ++ y)) en S := by
  rw [fsK_str (by rw [tx_app, tx_len, List.length_append]; exact Nat.le_trans h (by decide)), tx_app]
theorem dIn_tx1 {S : Sto} {c : Nat} {z : List Nat} : dIn S (.str (tx [c])) (.str (tx z)) = some (.bl (decide (c ∈ z))) := by
  show (dInB S (.str (tx [c])) (.str (tx z))).map D.bl = _
  have : dInB S (.str (tx [c])) (.str (tx z)) = (sign1 (tx [c])).map fun c => decide (c ∈ (tx z).cps.toList) := rfl
  rw [this, tx_cps]
  rfl
theorem dRepl_tx {S : Sto} {x z : List Nat} {c : Nat} (h : x.length + (x.length + 1) * z.length ≤ 16777216) : dRepl (tx [c]) (tx z) S (.str (tx x)) = some (.str (tx (((spl c x).intersperse z).flatten))) := by
  show (if (tx x).length + ((tx x).length + 1) * (tx z).length ≤ 16777216 then some (D.str (Txt.replace (tx x) (tx [c]) (tx z))) else none) = _
  rw [tx_len, tx_len, if_pos h, replace_tx]
theorem dEq_tx (S : Sto) (a b : List Nat) : dEq S (.str (tx a)) (.str (tx b)) = some (.bl (decide (a = b))) := by
  rw [dEq_str]
  simp only [tx_inj]
theorem dNe_tx (S : Sto) (a b : List Nat) : dNe S (.str (tx a)) (.str (tx b)) = some (.bl (!decide (a = b))) := by
  rw [dNe_str]
  simp only [tx_inj]
/-- the sign of a digit -/
def dg (i : Int) : Nat := 48 + i.toNat
theorem dg_fold (i : Int) : 48 + i.toNat = dg i := rfl
theorem dg46 (i : Int) : (dg i = 46) = False := eq_false (by unfold dg; omega)
theorem dg32 (i : Int) : (dg i = 32) = False := eq_false (by unfold dg; omega)
theorem dg_in {i : Int} (h0 : 0 ≤ i) (h : i < 10) : (dg i ∈ [48, 49, 50, 51, 52, 53, 54, 55, 56, 57]) = True := eq_true (by
  simp only [List.mem_cons, List.not_mem_nil, or_false, dg]
  omega)
theorem dInt_dg {S : Sto} {i : Int} (h0 : 0 ≤ i) (h : i < 10) : dInt S [.str (tx [dg i])] = some (.int i) := dInt10 h0 h
theorem dg_lt {i : Int} (h0 : 0 ≤ i) (h : i < 10) : dg i < 1114112 := by unfold dg; omega
theorem nc0 : ((0 : Nat) : Int) = 0 := Int.le_antisymm (Int.le_refl _) (Int.le_refl _)
theorem nc1 : ((1 : Nat) : Int) = 1 := Int.le_antisymm (Int.le_refl _) (Int.le_refl _)
theorem nc2 : ((2 : Nat) : Int) = 2 := Int.le_antisymm (Int.le_refl _) (Int.le_refl _)
theorem nc3 : ((3 : Nat) : Int) = 3 := Int.le_antisymm (Int.le_refl _) (Int.le_refl _)
theorem nc4 : ((4 : Nat) : Int) = 4 := Int.le_antisymm (Int.le_refl _) (Int.le_refl _)
theorem nc5 : ((5 : Nat) : Int) = 5 := Int.le_antisymm (Int.le_refl _) (Int.le_refl _)
theorem nc6 : ((6 : Nat) : Int) = 6 := Int.le_antisymm (Int.le_refl _) (Int.le_refl _)
theorem nc7 : ((7 : Nat) : Int) = 7 := Int.le_antisymm (Int.le_refl _) (Int.le_refl _)
theorem nc8 : ((8 : Nat) : Int) = 8 := Int.le_antisymm (Int.le_refl _) (Int.le_refl _)
theorem nc9 : ((9 : Nat) : Int) = 9 := Int.le_antisymm (Int.le_refl _) (Int.le_refl _)
/-! below -/
theorem bel_non (n : Nat) : D.bel n .non = True := by simp only [D.bel]
theorem bel_bl (n : Nat) (b : Bool) : D.bel n (.bl b) = True := by simp only [D.bel]
theorem bel_int (n : Nat) (i : Int) : D.bel n (.int i) = True := by simp only [D.bel]
theorem bel_str (n : Nat) (x : Str) : D.bel n (.str x) = True := by simp only [D.bel]
theorem bel_tup (n : Nat) (ds : List D) : D.bel n (.tup ds) = D.bels n ds := by simp only [D.bel]
theorem bel_lst (n : Nat) (ds : List D) : D.bel n (.lst ds) = D.bels n ds := by simp only [D.bel]
theorem bel_scr (n : Nat) (ds : List D) : D.bel n (.scr ds) = D.bels n ds := by simp only [D.bel]
theorem bel_ref (n i : Nat) : D.bel n (.ref i) = (i < n) := by simp only [D.bel]
theorem bels_nil (n : Nat) : D.bels n [] = True := by simp only [D.bels]
theorem bels_cons (n : Nat) (d : D) (r : List D) : D.bels n (d :: r) = (D.bel n d ∧ D.bels n r) := by simp only [D.bels]
/-! repr -/
theorem reprOk_of {p : PyData} (h1 : p.canLay0 = true) (h2 : p.depth ≤ 64) (h3 : p.weight ≤ 1000000) (h4 : p.intsShort 13 = true) (h5 : p.showable = true) : reprOk p := by
  refine ⟨?_, h5, ?_⟩
  · simp [SeqAt.shaped, h1, h2]
  · have := PyData.shown_le 13 (by decide) p (PyData.leavesShort_of_canLay0 13 p h1 h4)
    exact Nat.le_trans this (Nat.le_trans (show (13 + 2) * p.weight + 13 ≤ 15 * 1000000 + 13 by omega) (by decide))
mutual
def smD : D → Bool
  | .non => true
  | .bl _ => true
  | .int i => decide (-999999999999 ≤ i) && decide (i ≤ 999999999999)
  | .str x => PyData.strOk x
  | .tup ds => smDs ds
  | .ktp ds => smDs ds
  | .lst ds => smDs ds
  | .scr ds => smDs ds
  | _ => false
def smDs : List D → Bool
  | [] => true
  | d :: r => smD d && smDs r
end
mutual
def wD : D → Nat
  | .int _ => 64
  | .str x => x.length
  | .tup ds => wDs ds
  | .ktp ds => wDs ds
  | .lst ds => wDs ds
  | .scr ds => wDs ds
  | _ => 0
def wDs : List D → Nat
  | [] => 0
  | d :: r => wD d + 1 + wDs r
end
mutual
def dpD : D → Nat
  | .tup ds => dpDs ds + 1
  | .ktp ds => dpDs ds + 1
  | .lst ds => dpDs ds + 1
  | .scr ds => dpDs ds + 1
  | _ => 0
def dpDs : List D → Nat
  | [] => 0
  | d :: r => max (dpD d) (dpDs r)
end
def Smp (d : D) (p : PyData) : Prop := pd d = some p ∧ p.canLay0 = true ∧ p.depth ≤ dpD d ∧ p.weight ≤ wD d ∧ p.intsShort 13 = true ∧ p.showable = true
def Smps (ds : List D) (ps : List PyData) : Prop := pds ds = some ps ∧ PyData.canLayAll0 ps = true ∧ PyData.depthAll ps ≤ dpDs ds ∧ PyData.weightAll ps ≤ wDs ds ∧ PyData.intsShortAll 13 ps = true ∧ PyData.showableAll ps = true
theorem int_log {i : Int} (h1 : -999999999999 ≤ i) (h2 : i ≤ 999999999999) : i.natAbs.log2 < 63 := by
  by_cases h : i.natAbs = 0
  · rw [h]; decide
  · exact (Nat.log2_lt h).mpr (Nat.lt_of_lt_of_le (by omega : i.natAbs < 1000000000000) (by decide))
mutual
theorem smp_of : ∀ d : D, smD d = true → ∃ p, Smp d p
  | .non, _ => ⟨.none, by simp [Smp, pd, PyData.canLay0, PyData.depth, PyData.weight, PyData.intsShort, PyData.showable]⟩
  | .bl b, _ => ⟨.bool b, by simp [Smp, pd, PyData.canLay0, PyData.depth, PyData.weight, PyData.intsShort, PyData.showable]⟩
  | .int i, h => ⟨.int i, by
    simp only [smD, Bool.and_eq_true, decide_eq_true_eq] at h
    have h1 := PySem.PyData.shown_int_le2 h.1 h.2
    have h2 := int_log h.1 h.2
    refine ⟨by simp only [pd], by simp only [PyData.canLay0], by simp only [PyData.depth]; exact Nat.zero_le _, ?_, by simp only [PyData.intsShort]; exact decide_eq_true h1, by simp only [PyData.showable]; exact decide_eq_true (by omega)⟩
    simp only [PyData.weight, wD]
    split <;> omega⟩
  | .str x, h => ⟨.str x, by
    simp only [smD] at h
    exact ⟨by simp only [pd], by simp only [PyData.canLay0]; exact h, by simp only [PyData.depth]; exact Nat.zero_le _, by simp only [PyData.weight, wD]; exact Nat.le_refl _, by simp only [PyData.intsShort], by simp only [PyData.showable]⟩⟩
  | .tup ds, h => by
    simp only [smD] at h
    obtain ⟨ps, a, b, c, d, e, f⟩ := smps_of ds h
    exact ⟨.tuple ps, by simp only [pd, a, Option.map_some], by simp only [PyData.canLay0]; exact b, by simp only [PyData.depth, dpD]; omega, by simp only [PyData.weight, wD]; exact d, by simp only [PyData.intsShort]; exact e, by simp only [PyData.showable]; exact f⟩
  | .ktp ds, h => by
    simp only [smD] at h
    obtain ⟨ps, a, b, c, d, e, f⟩ := smps_of ds h
    exact ⟨.tuple ps, by simp only [pd, a, Option.map_some], by simp only [PyData.canLay0]; exact b, by simp only [PyData.depth, dpD]; omega, by simp only [PyData.weight, wD]; exact d, by simp only [PyData.intsShort]; exact e, by simp only [PyData.showable]; exact f⟩
  | .lst ds, h => by
    simp only [smD] at h
    obtain ⟨ps, a, b, c, d, e, f⟩ := smps_of ds h
    exact ⟨.list ps, by simp only [pd, a, Option.map_some], by simp only [PyData.canLay0]; exact b, by simp only [PyData.depth, dpD]; omega, by simp only [PyData.weight, wD]; exact d, by simp only [PyData.intsShort]; exact e, by simp only [PyData.showable]; exact f⟩
  | .scr ds, h => by
    simp only [smD] at h
    obtain ⟨ps, a, b, c, d, e, f⟩ := smps_of ds h
    exact ⟨.list ps, by simp only [pd, a, Option.map_some], by simp only [PyData.canLay0]; exact b, by simp only [PyData.depth, dpD]; omega, by simp only [PyData.weight, wD]; exact d, by simp only [PyData.intsShort]; exact e, by simp only [PyData.showable]; exact f⟩
  | .dic _ _, h => by simp [smD] at h
  | .ins _ _ _, h => by simp [smD] at h
  | .ref _, h => by simp [smD] at h
  | .fn _, h => by simp [smD] at h
  | .ty _, h => by simp [smD] at h
  | .cl _, h => by simp [smD] at h
theorem smps_of : ∀ ds : List D, smDs ds = true → ∃ ps, Smps ds ps
  | [], _ => ⟨[], by simp [Smps, pds, PyData.canLayAll0, PyData.depthAll, PyData.weightAll, PyData.intsShortAll, PyData.showableAll]⟩
  | d :: r, h => by
    simp only [smDs, Bool.and_eq_true] at h
    obtain ⟨p, a, b, c, d', e, f⟩ := smp_of d h.1
    obtain ⟨ps, a2, b2, c2, d2, e2, f2⟩ := smps_of r h.2
    exact ⟨p :: ps, by simp only [pds, a, a2], by simp only [PyData.canLayAll0, b, b2]; rfl, by simp only [PyData.depthAll, dpDs]; omega, by simp only [PyData.weightAll, wDs]; omega, by simp only [PyData.intsShortAll, e, e2]; rfl, by simp only [PyData.showableAll, f, f2]; rfl⟩
end
theorem pdv_sm {S : Sto} : ∀ {d : D}, smD d = true → pdv S d = pd d
  | .non, _ => by simp [pdv, seqL]
  | .bl b, _ => by simp [pdv, seqL]
  | .int i, _ => by simp [pdv, seqL]
  | .str i, _ => by simp [pdv, seqL]
  | .tup i, _ => by simp [pdv, seqL]
  | .ktp i, _ => by simp [pdv, seqL]
  | .lst i, _ => by simp [pdv, seqL, pd]
  | .scr i, _ => by simp [pdv, seqL, pd]
  | .dic _ _, h => by simp [smD] at h
  | .ins _ _ _, h => by simp [smD] at h
  | .ref _, h => by simp [smD] at h
  | .fn _, h => by simp [smD] at h
  | .ty _, h => by simp [smD] at h
  | .cl _, h => by simp [smD] at h
def plainK : D → Bool
  | .non => false
  | .bl _ => false
  | _ => true
theorem repr_sm {d : D} (h : smD d = true) (hd : dpD d ≤ 64) (hw : wD d ≤ 1000000) (hp : plainK d = true) : ∃ z, ∀ S, dRepr S [d] = some (.str z) := by
  obtain ⟨p, a, b, c, e, f, g⟩ := smp_of d h
  refine ⟨p.shown, fun S => ?_⟩
  have hr : reprOk p := reprOk_of b (by omega) (by omega) f g
  have hv : pdv S d = some p := (pdv_sm h).trans a
  unfold dRepr
  split
  · rename_i heq
    cases heq
    cases hp
  · rename_i heq
    cases heq
    cases hp
  · rename_i x _ _ heq
    cases heq
    rw [hv]
    exact if_pos hr
  · rename_i h1
    exact absurd rfl (h1 d)
/-! comprehensions, step by step -/
noncomputable def cK2 (g : MG) (t : MT) (e : ME) (en : En) (ds acc : List D) (x : D) (S : Sto) : Res (List D) := if acc.length < sizeLine then comp g t e (fun _ => True) en ds (acc ++ [x]) S else .bad
noncomputable def cK1 (g : MG) (t : MT) (e : ME) (en en1 : En) (ds acc : List D) (k : Bool) (S : Sto) : Res (List D) := match k with
  | false => comp g t e (fun _ => True) en ds acc S
  | true => (e en1 S).noex.bind (cK2 g t e en ds acc)
noncomputable def cK0 (g : MG) (t : MT) (e : ME) (en : En) (ds acc : List D) (o : Option En) (S : Sto) : Res (List D) := match o with
  | none => .bad
  | some en1 => (t en1 S).noex.bind (cK1 g t e en en1 ds acc)
theorem comp_nil_ap (g : MG) (t : MT) (e : ME) (en : En) (acc : List D) (S : Sto) : comp g t e (fun _ => True) en [] acc S = .ok acc S := by rw [comp, if_pos trivial]
theorem comp_cons_ap (g : MG) (t : MT) (e : ME) (en : En) (d : D) (ds acc : List D) (S : Sto) : comp g t e (fun _ => True) en (d :: ds) acc S = cK0 g t e en ds acc (g d en) S := by
  rw [comp, if_pos trivial]
  rfl
theorem cK0_some (g : MG) (t : MT) (e : ME) (en en1 : En) (ds acc : List D) (S : Sto) : cK0 g t e en ds acc (some en1) S = (t en1 S).noex.bind (cK1 g t e en en1 ds acc) := rfl
theorem cK1_f (g : MG) (t : MT) (e : ME) (en en1 : En) (ds acc : List D) (S : Sto) : cK1 g t e en en1 ds acc false S = comp g t e (fun _ => True) en ds acc S := rfl
theorem cK1_t (g : MG) (t : MT) (e : ME) (en en1 : En) (ds acc : List D) (S : Sto) : cK1 g t e en en1 ds acc true S = (e en1 S).noex.bind (cK2 g t e en ds acc) := rfl
theorem cK2_ap {g : MG} {t : MT} {e : ME} {en : En} {ds acc : List D} {x : D} {S : Sto} (h : acc.length < 1000000) : cK2 g t e en ds acc x S = comp g t e (fun _ => True) en ds (acc ++ [x]) S := if_pos (Nat.lt_of_lt_of_le h (by decide))
theorem noex_ok {α : Type} (a : α) (S : Sto) : (Res.ok a S).noex = .ok a S := rfl
end G

set_option Elab.async false
set_option linter.all false
set_option maxRecDepth 100000
set_option maxHeartbeats 2000000
/-! G16: pairs of numbers (roles) under ==, min, max -/
namespace G
open PySem L2
abbrev t2 (a b : Int) : D := .tup [.int a, .int b]
theorem sh_t2 (a b : Int) : SeqAt.shaped (.tuple [.int a, .int b]) = true := by simp [SeqAt.shaped, PyData.canLay0, PyData.canLayAll0, PyData.depth, PyData.depthAll]
theorem pdv_t2 (S : Sto) (a b : Int) : pdv S (.tup [.int a, .int b]) = some (.tuple [.int a, .int b]) := by simp [pdv_tup, pds, pd]
theorem eqv_t2 (a b c d : Int) : PyData.eqv (.tuple [.int a, .int b]) (.tuple [.int c, .int d]) = decide (a = c ∧ b = d) := by
  simp only [PyData.eqv, PyData.eqvAll, Bool.and_true]
  by_cases h1 : a = c <;> by_cases h2 : b = d <;> simp [h1, h2]
theorem dEq_t2 (S : Sto) (a b c d : Int) : dEq S (.tup [.int a, .int b]) (.tup [.int c, .int d]) = some (.bl (decide (a = c ∧ b = d))) := by
  show (match pdv S (.tup [.int a, .int b]), pdv S (.tup [.int c, .int d]) with
    | some p, some q => if SeqAt.shaped p = true ∧ SeqAt.shaped q = true then some (PyData.eqv p q) else none
    | _, _ => none).map D.bl = _
  rw [pdv_t2, pdv_t2]
  simp only [sh_t2, and_self, if_true, eqv_t2, Option.map_some]
theorem dNe_t2 (S : Sto) (a b c d : Int) : dNe S (.tup [.int a, .int b]) (.tup [.int c, .int d]) = some (.bl (!decide (a = c ∧ b = d))) := by
  show (match pdv S (.tup [.int a, .int b]), pdv S (.tup [.int c, .int d]) with
    | some p, some q => if SeqAt.shaped p = true ∧ SeqAt.shaped q = true then some (PyData.eqv p q) else none
    | _, _ => none).map (fun b => D.bl (!b)) = _
  rw [pdv_t2, pdv_t2]
  simp only [sh_t2, and_self, if_true, eqv_t2, Option.map_some]
theorem alike_t2 (a b c d : Int) : PySem.W.AlikeAll [.tuple [.int a, .int b], .tuple [.int c, .int d]] := by
  simp [PySem.W.AlikeAll, PySem.W.alike, PySem.W.alikeAll]
/-- a pair before another -/
def ltP (a b c d : Int) : Bool := PySem.W.dataLt (.tuple [.int a, .int b]) (.tuple [.int c, .int d])
theorem dMin2_t2 (S : Sto) (a b c d : Int) : dMin2 S [.tup [.int a, .int b], .tup [.int c, .int d]] = some (.tup [.int (if ltP c d a b = true then c else a), .int (if ltP c d a b = true then d else b)]) := by
  unfold dMin2
  simp only [pdv_t2, sh_t2, alike_t2, and_self, if_true, true_and]
  unfold ltP
  split <;> simp
theorem dMax2_t2 (S : Sto) (a b c d : Int) : dMax2 S [.tup [.int a, .int b], .tup [.int c, .int d]] = some (.tup [.int (if ltP a b c d = true then c else a), .int (if ltP a b c d = true then d else b)]) := by
  unfold dMax2
  simp only [pdv_t2, sh_t2, alike_t2, and_self, if_true, true_and]
  unfold ltP
  split <;> simp
theorem ltP_eq (a b c d : Int) : ltP a b c d = decide (a < c ∨ (a = c ∧ b < d)) := by
  have e1 : ∀ x y : Int, PyProof.Rows.itemLt (.inl x) (.inl y) = decide (x < y) := fun _ _ => rfl
  unfold ltP PySem.W.dataLt
  simp only [PySem.W.keyToks, PySem.W.keyToksAll, List.cons_append, List.nil_append, PyProof.Rows.lex_cons, e1]
  simp [PyProof.Rows.lexLt, e1]
  by_cases h1 : a < c
  · simp [h1]
  · by_cases h2 : a = c
    · subst h2
      by_cases h3 : b < d <;> simp [h3]
    · have h4 : c < a := by omega
      simp [h1, h2, h4]
end G

set_option Elab.async false
set_option linter.all false
set_option maxRecDepth 100000
set_option maxHeartbeats 4000000
namespace T50
open PySem L2 G
def topS (i : Nat) : Stmt := PySem.Challenge.pw_grantsgrow_k50_texts_of_grants.main.body.getD i (.Pass ⟨0, 0, 0, 0⟩)
section
variable {P : Program} {w : World} {K : PySem.W.Frag} {mg : Str → Option Value} {base : Heap} {cl fc : Nat → Addr}
abbrev s_words_of : Stmt := topS 6
abbrev N_words_of : List Str := ["text", "word"]
theorem sc_words_of : FnScope N_words_of ["text"] (defScope s_words_of) := ⟨rfl, rfl, rfl, by decide +kernel, rfl, by decide +kernel, by decide +kernel⟩
noncomputable def ms_words_of : MS :=
    (sRet (mLc (iSeq (mBMs dSplit (mVar 0) (aCons (mC (.str " ")) aNil))) (gN 1) (mTest (mOp dNe (mVar 1) (mC (.str "")))) (mVar 1) [1]))
noncomputable def fn_words_of : Fn := dropF (fnB 1 2 ms_words_of)
theorem n_words_of : fn_words_of.n = 1 := Nat.le_antisymm (Nat.le_refl _) (Nat.le_refl _)
theorem ok_words_of {f : Addr} {fd : FuncData} (F : Fun K "words_of" "words_of" s_words_of f fd)  :
    FnOk P w K mg base (L2.CX P w) 1 f fd ["text"] (spF ⟨K, cl, fc⟩ fn_words_of) := by
  refine fn_drop (fn_ok (N := N_words_of) (ms := ms_words_of) F sc_words_of rfl fun cdv A outer s H E hr => ?_)
  exact (ds_one (ds_ret (de_lc (ow := [("word", 1)]) rfl sc_words_of.nd tg_name (by decide) (di_seq (hl := (de_bms PySem.F.slot_str_split PySem.F.type_str_split mt_split opm_split (de_var (pv 0)) (da_cons de_str da_nil)))) (blkOk_by (N := N_words_of) (sc := defScope s_words_of) (by decide +kernel)) (fun _ _ _ _ _ => (pg_name (i := 1) sc_words_of.nd rfl (Or.inl rfl))) (fun _ _ _ _ _ => (dts_one (dt_cmp (op_neU (hu64 hr)) op2_ne (de_var (pv 1)) de_str (nomark _)))) (fun _ _ _ _ _ => (de_var (pv 1))))))
abbrev s_role_text : Stmt := topS 7
abbrev N_role_text : List Str := ["role"]
theorem sc_role_text : FnScope N_role_text ["role"] (defScope s_role_text) := ⟨rfl, rfl, rfl, by decide +kernel, rfl, by decide +kernel, by decide +kernel⟩
noncomputable def ms_role_text : MS :=
    (sRet (mFs [(mUn dFmt (mOp dIdx (mVar 0) (mC (.int 0)))), (mC (.str ".")), (mUn dFmt (mOp dIdx (mVar 0) (mC (.int 1))))]))
noncomputable def fn_role_text : Fn := dropF (fnB 1 1 ms_role_text)
theorem n_role_text : fn_role_text.n = 1 := Nat.le_antisymm (Nat.le_refl _) (Nat.le_refl _)
theorem ok_role_text {f : Addr} {fd : FuncData} (F : Fun K "role_text" "role_text" s_role_text f fd)  :
    FnOk P w K mg base (L2.CX P w) 1 f fd ["role"] (spF ⟨K, cl, fc⟩ fn_role_text) := by
  refine fn_drop (fn_ok (N := N_role_text) (ms := ms_role_text) F sc_role_text rfl fun cdv A outer s H E hr => ?_)
  exact (ds_one (ds_ret (de_joined (.cons (de_fmt (de_idx ix_seq op2_idx (de_var (pv 0)) de_int)) (.cons de_str (.cons (de_fmt (de_idx ix_seq op2_idx (de_var (pv 0)) de_int)) .nil))))))
abbrev s_body_text : Stmt := topS 8
abbrev N_body_text : List Str := ["body"]
theorem sc_body_text : FnScope N_body_text ["body"] (defScope s_body_text) := ⟨rfl, rfl, rfl, by decide +kernel, rfl, by decide +kernel, by decide +kernel⟩
noncomputable def ms_body_text : MS :=
    (sSeq (sIf (mTest (mOp dEq (mOp dIdx (mVar 0) (mC (.int 0))) (mC (.str "owner")))) (sRet (mCB dStr (aCons (mOp dIdx (mVar 0) (mC (.int 1))) aNil))) sNil)
    (sSeq (sIf (mTest (mOp dEq (mOp dIdx (mVar 0) (mC (.int 0))) (mC (.str "role")))) (sRet (mCall fn_role_text (aCons (mOp dIdx (mVar 0) (mC (.int 1))) aNil))) sNil)
    (sSeq (sIf (mTest (mOp dEq (mOp dIdx (mVar 0) (mC (.int 0))) (mC (.str "through")))) (sRet (mFs [(mUn dFmt (mCall fn_role_text (aCons (mOp dIdx (mVar 0) (mC (.int 1))) aNil))), (mC (.str ".")), (mUn dFmt (mOp dIdx (mVar 0) (mC (.int 2))))])) sNil)
    (sRet (mFs [(mUn dFmt (mCall fn_role_text (aCons (mOp dIdx (mVar 0) (mC (.int 1))) aNil))), (mC (.str " & ")), (mUn dFmt (mCall fn_role_text (aCons (mOp dIdx (mVar 0) (mC (.int 2))) aNil)))])))))
noncomputable def fn_body_text : Fn := dropF (fnB 1 1 ms_body_text)
theorem n_body_text : fn_body_text.n = 1 := Nat.le_antisymm (Nat.le_refl _) (Nat.le_refl _)
theorem ok_body_text {f : Addr} {fd : FuncData} (F : Fun K "body_text" "body_text" s_body_text f fd) (b_str : mg "str" = none) (c_role_text : Cal P w K mg base ⟨K, cl, fc⟩ "role_text" 1 fn_role_text) :
    FnOk P w K mg base (L2.CX P w) 2 f fd ["body"] (spF ⟨K, cl, fc⟩ fn_body_text) := by
  refine fn_drop (fn_ok (N := N_body_text) (ms := ms_body_text) F sc_body_text rfl fun cdv A outer s H E hr => ?_)
  exact (ds_cons wi_E (ds_if (dt_cmp (op_eqU (hu64 hr)) op2_eq (de_idx ix_seq op2_idx (de_var (pv 0)) de_int) de_str (nomark _)) (ds_one (ds_ret (de_callTy call_strU opn_str b_str (by decide +kernel) (da_cons (de_idx ix_seq op2_idx (de_var (pv 0)) de_int) da_nil)))) ds_nil)
    (ds_cons wi_E (ds_if (dt_cmp (op_eqU (hu64 hr)) op2_eq (de_idx ix_seq op2_idx (de_var (pv 0)) de_int) de_str (nomark _)) (ds_one (ds_ret (de_fn c_role_text hr (by decide) (takes_of rfl rfl rfl rfl) (da_cons (de_idx ix_seq op2_idx (de_var (pv 0)) de_int) da_nil)))) ds_nil)
    (ds_cons wi_E (ds_if (dt_cmp (op_eqU (hu64 hr)) op2_eq (de_idx ix_seq op2_idx (de_var (pv 0)) de_int) de_str (nomark _)) (ds_one (ds_ret (de_joined (.cons (de_fmt (de_fn c_role_text hr (by decide) (takes_of rfl rfl rfl rfl) (da_cons (de_idx ix_seq op2_idx (de_var (pv 0)) de_int) da_nil))) (.cons de_str (.cons (de_fmt (de_idx ix_seq op2_idx (de_var (pv 0)) de_int)) .nil)))))) ds_nil)
    (ds_one (ds_ret (de_joined (.cons (de_fmt (de_fn c_role_text hr (by decide) (takes_of rfl rfl rfl rfl) (da_cons (de_idx ix_seq op2_idx (de_var (pv 0)) de_int) da_nil))) (.cons de_str (.cons (de_fmt (de_fn c_role_text hr (by decide) (takes_of rfl rfl rfl rfl) (da_cons (de_idx ix_seq op2_idx (de_var (pv 0)) de_int) da_nil))) .nil)))))))))
abbrev s_grant_text : Stmt := topS 9
abbrev N_grant_text : List Str := ["value"]
theorem sc_grant_text : FnScope N_grant_text ["value"] (defScope s_grant_text) := ⟨rfl, rfl, rfl, by decide +kernel, rfl, by decide +kernel, by decide +kernel⟩
noncomputable def ms_grant_text : MS :=
    (sRet (mFs [(mUn dFmt (mCall fn_role_text (aCons (mOp dIdx (mVar 0) (mC (.int 0))) aNil))), (mC (.str " < ")), (mUn dFmt (mCall fn_body_text (aCons (mOp dIdx (mVar 0) (mC (.int 1))) aNil)))]))
noncomputable def fn_grant_text : Fn := dropF (fnB 1 1 ms_grant_text)
theorem n_grant_text : fn_grant_text.n = 1 := Nat.le_antisymm (Nat.le_refl _) (Nat.le_refl _)
theorem ok_grant_text {f : Addr} {fd : FuncData} (F : Fun K "grant_text" "grant_text" s_grant_text f fd) (c_body_text : Cal P w K mg base ⟨K, cl, fc⟩ "body_text" 2 fn_body_text) (c_role_text : Cal P w K mg base ⟨K, cl, fc⟩ "role_text" 1 fn_role_text) :
    FnOk P w K mg base (L2.CX P w) 3 f fd ["value"] (spF ⟨K, cl, fc⟩ fn_grant_text) := by
  refine fn_drop (fn_ok (N := N_grant_text) (ms := ms_grant_text) F sc_grant_text rfl fun cdv A outer s H E hr => ?_)
  exact (ds_one (ds_ret (de_joined (.cons (de_fmt (de_fn c_role_text hr (by decide) (takes_of rfl rfl rfl rfl) (da_cons (de_idx ix_seq op2_idx (de_var (pv 0)) de_int) da_nil))) (.cons de_str (.cons (de_fmt (de_fn c_body_text hr (by decide) (takes_of rfl rfl rfl rfl) (da_cons (de_idx ix_seq op2_idx (de_var (pv 0)) de_int) da_nil))) .nil))))))
abbrev s_numbers_in : Stmt := topS 10
abbrev N_numbers_in : List Str := ["word", "many", "parts", "part"]
theorem sc_numbers_in : FnScope N_numbers_in ["word", "many"] (defScope s_numbers_in) := ⟨rfl, rfl, rfl, by decide +kernel, rfl, by decide +kernel, by decide +kernel⟩
noncomputable def ms_numbers_in : MS :=
    (sSeq (sAsg (mBMs dSplit (mVar 0) (aCons (mC (.str ".")) aNil)) (gN 2))
    (sSeq (sIf (mOr (mTest (mOp dNe (mCB dLen (aCons (mVar 2) aNil)) (mVar 1))) (mNot (mTest (mCB dAll (aCons (mLc (iSeq (mVar 2)) (gN 3) tYesM (mAndV (mOp dEq (mCB dLen (aCons (mVar 3) aNil)) (mC (.int 1))) (mOp dIn (mVar 3) (mC (.str "0123456789")))) [3]) aNil))))) (sRet (mC .non)) sNil)
    (sRet (mCB dTuple (aCons (mLc (iSeq (mVar 2)) (gN 3) tYesM (mCB dInt (aCons (mVar 3) aNil)) [3]) aNil)))))
noncomputable def fn_numbers_in : Fn := dropF (fnB 2 4 ms_numbers_in)
theorem n_numbers_in : fn_numbers_in.n = 2 := Nat.le_antisymm (Nat.le_refl _) (Nat.le_refl _)
theorem ok_numbers_in {f : Addr} {fd : FuncData} (F : Fun K "numbers_in" "numbers_in" s_numbers_in f fd) (b_all : mg "all" = none) (b_int : mg "int" = none) (b_len : mg "len" = none) (b_tuple : mg "tuple" = none) (g_FIGURES : ∃ t, mg "FIGURES" = some (.str "0123456789" t)) :
    FnOk P w K mg base (L2.CX P w) 1 f fd ["word", "many"] (spF ⟨K, cl, fc⟩ fn_numbers_in) := by
  refine fn_drop (fn_ok (N := N_numbers_in) (ms := ms_numbers_in) F sc_numbers_in rfl fun cdv A outer s H E hr => ?_)
  exact (ds_cons wi_E (ds_set (i := 2) sc_numbers_in.nd rfl (Or.inl rfl) (de_bms PySem.F.slot_str_split PySem.F.type_str_split mt_split opm_split (de_var (pv 0)) (da_cons de_str da_nil)))
    (ds_cons wi_E (ds_if (PW.pt (dw_or (dt_cmp (op_neU (hu64 hr)) op2_ne (de_callB call_lenU opn_len b_len PySem.boot_len (da_cons (de_var (pv 2)) da_nil)) (de_var (pv 1)) (nomark _)) (dw_or1 (dt_not (dt_val (de_callB (cr_all rfl) opn_all b_all (by decide +kernel) (da_cons (de_lc (ow := [("part", 3)]) rfl sc_numbers_in.nd tg_name (by decide) (di_seq (hl := (de_var (pv 2)))) (blkOk_by (N := N_numbers_in) (sc := defScope s_numbers_in) (by decide +kernel)) (fun _ _ _ _ _ => (pg_name (i := 3) sc_numbers_in.nd rfl (Or.inl rfl))) (fun _ _ _ _ _ => dts_nil) (fun _ _ _ _ _ => (de_and (de_cmp (op_eqU (hu64 hr)) op2_eq (de_callB call_lenU opn_len b_len PySem.boot_len (da_cons (de_var (pv 3)) da_nil)) de_int (nomark _)) (de_one (de_cmp (op_inU (hu65 hr)) op2_in (de_var (pv 3)) (de_gstr g_FIGURES) (by rfl)))))) da_nil))))))) (ds_one (ds_ret de_non)) ds_nil)
    (ds_one (ds_ret (de_callTy call_tuple_of opn_tuple b_tuple (by decide +kernel) (da_cons (de_lc (ow := [("part", 3)]) rfl sc_numbers_in.nd tg_name (by decide) (di_seq (hl := (de_var (pv 2)))) (blkOk_by (N := N_numbers_in) (sc := defScope s_numbers_in) (by decide +kernel)) (fun _ _ _ _ _ => (pg_name (i := 3) sc_numbers_in.nd rfl (Or.inl rfl))) (fun _ _ _ _ _ => dts_nil) (fun _ _ _ _ _ => (de_callTy call_intU opn_int b_int (by decide +kernel) (da_cons (de_var (pv 3)) da_nil)))) da_nil))))))
abbrev s_check_words : Stmt := topS 11
abbrev N_check_words : List Str := ["words", "line", "number", "many"]
theorem sc_check_words : FnScope N_check_words ["words", "line", "number", "many"] (defScope s_check_words) := ⟨rfl, rfl, rfl, by decide +kernel, rfl, by decide +kernel, by decide +kernel⟩
noncomputable def ms_check_words : MS :=
    (sIf (mOr (mTest (mOp dGe0 (mVar 2) (mCB dLen (aCons (mVar 0) aNil)))) (mTest (mOp dGt0 (mCB dLen (aCons (mVar 0) aNil)) (mVar 3)))) sBad sNil)
noncomputable def fn_check_words : Fn := dropF (fnB 4 4 ms_check_words)
theorem n_check_words : fn_check_words.n = 4 := Nat.le_antisymm (Nat.le_refl _) (Nat.le_refl _)
theorem ok_check_words {f : Addr} {fd : FuncData} (F : Fun K "check_words" "check_words" s_check_words f fd) (b_len : mg "len" = none) :
    FnOk P w K mg base (L2.CX P w) 1 f fd ["words", "line", "number", "many"] (spF ⟨K, cl, fc⟩ fn_check_words) := by
  refine fn_drop (fn_ok (N := N_check_words) (ms := ms_check_words) F sc_check_words rfl fun cdv A outer s H E hr => ?_)
  exact (ds_one (ds_if (PW.pt (dw_or (dt_cmp op_ge op2_ge0 (de_var (pv 2)) (de_callB call_lenU opn_len b_len PySem.boot_len (da_cons (de_var (pv 0)) da_nil)) (nomark _)) (dw_or1 (dt_cmp op_gt op2_gt0 (de_callB call_lenU opn_len b_len PySem.boot_len (da_cons (de_var (pv 0)) da_nil)) (de_var (pv 3)) (nomark _))))) (ds_one ds_never) ds_nil))
abbrev s_body_in : Stmt := topS 12
abbrev N_body_in : List Str := ["words", "line", "first", "many", "word", "numbers", "role", "other"]
theorem sc_body_in : FnScope N_body_in ["words", "line"] (defScope s_body_in) := ⟨rfl, rfl, rfl, by decide +kernel, rfl, by decide +kernel, by decide +kernel⟩
noncomputable def ms_body_in : MS :=
    (sSeq (sAsg (mOp dIdx (mVar 0) (mC (.int 2))) (gN 2))
    (sSeq (sFor (iSeq (mLst (aCons (mTup (aCons (mC (.int 1)) (aCons (mC (.str "owner")) aNil))) (aCons (mTup (aCons (mC (.int 3)) (aCons (mC (.str "through")) aNil))) aNil)))) (gT 2 (gsCons (gN 3) (gsCons (gN 4) gsNil)))
    (sSeq (sAsg (mCall fn_numbers_in (aCons (mVar 2) (aCons (mVar 3) aNil))) (gN 5))
    (sIf (mTest (mOp dIsNot (mVar 5) (mC .non))) (sSeq (sDrop (mCall fn_check_words (aCons (mVar 0) (aCons (mVar 1) (aCons (mC (.int 2)) (aCons (mC (.int 3)) aNil))))))
    (sRet (mIf (mTest (mOp dEq (mVar 4) (mC (.str "owner")))) (mTup (aCons (mC (.str "owner")) (aCons (mOp dIdx (mVar 5) (mC (.int 0))) aNil))) (mTup (aCons (mC (.str "through")) (aCons (mSl (mVar 5) oNone (oSome (mC (.int 2)))) (aCons (mOp dIdx (mVar 5) (mC (.int 2))) aNil))))))) sNil)))
    (sSeq (sAsg (mCall fn_numbers_in (aCons (mVar 2) (aCons (mC (.int 2)) aNil))) (gN 6))
    (sSeq (sIf (mTest (mOp dIs (mVar 6) (mC .non))) sBad sNil)
    (sSeq (sIf (mTest (mOp dEq (mCB dLen (aCons (mVar 0) aNil)) (mC (.int 3)))) (sRet (mTup (aCons (mC (.str "role")) (aCons (mVar 6) aNil)))) sNil)
    (sSeq (sIf (mTest (mOp dNe (mOp dIdx (mVar 0) (mC (.int 3))) (mC (.str "&")))) sBad sNil)
    (sSeq (sDrop (mCall fn_check_words (aCons (mVar 0) (aCons (mVar 1) (aCons (mC (.int 4)) (aCons (mC (.int 99999)) aNil))))))
    (sSeq (sAsg (mCall fn_numbers_in (aCons (mOp dIdx (mVar 0) (mC (.int 4))) (aCons (mC (.int 2)) aNil))) (gN 7))
    (sSeq (sIf (mTest (mOp dIs (mVar 7) (mC .non))) sBad sNil)
    (sSeq (sDrop (mCall fn_check_words (aCons (mVar 0) (aCons (mVar 1) (aCons (mC (.int 4)) (aCons (mC (.int 5)) aNil))))))
    (sRet (mTup (aCons (mC (.str "both")) (aCons (mVar 6) (aCons (mVar 7) aNil)))))))))))))))
noncomputable def fn_body_in : Fn := dropF (fnB 2 8 ms_body_in)
theorem n_body_in : fn_body_in.n = 2 := Nat.le_antisymm (Nat.le_refl _) (Nat.le_refl _)
theorem ok_body_in {f : Addr} {fd : FuncData} (F : Fun K "body_in" "body_in" s_body_in f fd) (b_len : mg "len" = none) (g_MOST_WORDS : ∃ t, mg "MOST_WORDS" = some (.int 99999 t)) (c_check_words : Cal P w K mg base ⟨K, cl, fc⟩ "check_words" 1 fn_check_words) (c_numbers_in : Cal P w K mg base ⟨K, cl, fc⟩ "numbers_in" 1 fn_numbers_in) :
    FnOk P w K mg base (L2.CX P w) 2 f fd ["words", "line"] (spF ⟨K, cl, fc⟩ fn_body_in) := by
  refine fn_drop (fn_ok (N := N_body_in) (ms := ms_body_in) F sc_body_in rfl fun cdv A outer s H E hr => ?_)
  exact (ds_cons wi_E (ds_set (i := 2) sc_body_in.nd rfl (Or.inl rfl) (de_idx ix_seq op2_idx (de_var (pv 0)) de_int))
    (ds_cons wi_E (ds_for wi_E (passes_of rfl) rfl (tg_tup (tgs_cons tg_name (tgs_cons tg_name tgs_nil))) (di_seq (hl := (de_lst (da_cons (de_tup (da_cons de_int (da_cons de_str da_nil))) (da_cons (de_tup (da_cons de_int (da_cons de_str da_nil))) da_nil))))) (pg_tup rfl (pgs_cons (pg_name (i := 3) sc_body_in.nd rfl (Or.inl rfl)) (pgs_cons (pg_name (i := 4) sc_body_in.nd rfl (Or.inl rfl)) pgs_nil)))
    (ds_cons wi_E (ds_set (i := 5) sc_body_in.nd rfl (Or.inl rfl) (de_fn c_numbers_in hr (by decide) (takes_of rfl rfl rfl rfl) (da_cons (de_var (pv 2)) (da_cons (de_var (pv 3)) da_nil))))
    (ds_one (ds_if (dt_cmp op_notN op2_isNot (de_var (pv 5)) de_non (nomark _)) (ds_cons wi_E (ds_expr (de_fn c_check_words hr (by decide) (takes_of rfl rfl rfl rfl) (da_cons (de_var (pv 0)) (da_cons (de_var (pv 1)) (da_cons de_int (da_cons de_int da_nil))))))
    (ds_one (ds_ret (de_if (dt_cmp (op_eqU (hu64 hr)) op2_eq (de_var (pv 4)) de_str (nomark _)) (de_tup (da_cons de_str (da_cons (de_idx ix_seq op2_idx (de_var (pv 5)) de_int) da_nil))) (de_tup (da_cons de_str (da_cons (de_slice (he := (de_var (pv 5))) (hl := do_none) (hu := (do_some de_int))) (da_cons (de_idx ix_seq op2_idx (de_var (pv 5)) de_int) da_nil)))))))) ds_nil))))
    (ds_cons wi_E (ds_set (i := 6) sc_body_in.nd rfl (Or.inl rfl) (de_fn c_numbers_in hr (by decide) (takes_of rfl rfl rfl rfl) (da_cons (de_var (pv 2)) (da_cons de_int da_nil))))
    (ds_cons wi_E (ds_if (dt_cmp op_isN op2_is (de_var (pv 6)) de_non (nomark _)) (ds_one ds_never) ds_nil)
    (ds_cons wi_E (ds_if (dt_cmp (op_eqU (hu64 hr)) op2_eq (de_callB call_lenU opn_len b_len PySem.boot_len (da_cons (de_var (pv 0)) da_nil)) de_int (nomark _)) (ds_one (ds_ret (de_tup (da_cons de_str (da_cons (de_var (pv 6)) da_nil))))) ds_nil)
    (ds_cons wi_E (ds_if (dt_cmp (op_neU (hu64 hr)) op2_ne (de_idx ix_seq op2_idx (de_var (pv 0)) de_int) de_str (nomark _)) (ds_one ds_never) ds_nil)
    (ds_cons wi_E (ds_expr (de_fn c_check_words hr (by decide) (takes_of rfl rfl rfl rfl) (da_cons (de_var (pv 0)) (da_cons (de_var (pv 1)) (da_cons de_int (da_cons (de_gint g_MOST_WORDS) da_nil))))))
    (ds_cons wi_E (ds_set (i := 7) sc_body_in.nd rfl (Or.inl rfl) (de_fn c_numbers_in hr (by decide) (takes_of rfl rfl rfl rfl) (da_cons (de_idx ix_seq op2_idx (de_var (pv 0)) de_int) (da_cons de_int da_nil))))
    (ds_cons wi_E (ds_if (dt_cmp op_isN op2_is (de_var (pv 7)) de_non (nomark _)) (ds_one ds_never) ds_nil)
    (ds_cons wi_E (ds_expr (de_fn c_check_words hr (by decide) (takes_of rfl rfl rfl rfl) (da_cons (de_var (pv 0)) (da_cons (de_var (pv 1)) (da_cons de_int (da_cons de_int da_nil))))))
    (ds_one (ds_ret (de_tup (da_cons de_str (da_cons (de_var (pv 6)) (da_cons (de_var (pv 7)) da_nil))))))))))))))))
abbrev s_grant_in : Stmt := topS 13
abbrev N_grant_in : List Str := ["words", "line", "role"]
theorem sc_grant_in : FnScope N_grant_in ["words", "line"] (defScope s_grant_in) := ⟨rfl, rfl, rfl, by decide +kernel, rfl, by decide +kernel, by decide +kernel⟩
noncomputable def ms_grant_in : MS :=
    (sSeq (sDrop (mCall fn_check_words (aCons (mVar 0) (aCons (mVar 1) (aCons (mC (.int 0)) (aCons (mC (.int 99999)) aNil))))))
    (sSeq (sAsg (mCall fn_numbers_in (aCons (mOp dIdx (mVar 0) (mC (.int 0))) (aCons (mC (.int 2)) aNil))) (gN 2))
    (sSeq (sIf (mTest (mOp dIs (mVar 2) (mC .non))) sBad sNil)
    (sSeq (sDrop (mCall fn_check_words (aCons (mVar 0) (aCons (mVar 1) (aCons (mC (.int 1)) (aCons (mC (.int 99999)) aNil))))))
    (sSeq (sIf (mTest (mOp dNe (mOp dIdx (mVar 0) (mC (.int 1))) (mC (.str "<")))) sBad sNil)
    (sSeq (sDrop (mCall fn_check_words (aCons (mVar 0) (aCons (mVar 1) (aCons (mC (.int 2)) (aCons (mC (.int 99999)) aNil))))))
    (sRet (mTup (aCons (mVar 2) (aCons (mCall fn_body_in (aCons (mVar 0) (aCons (mVar 1) aNil))) aNil))))))))))
noncomputable def fn_grant_in : Fn := dropF (fnB 2 3 ms_grant_in)
theorem n_grant_in : fn_grant_in.n = 2 := Nat.le_antisymm (Nat.le_refl _) (Nat.le_refl _)
theorem ok_grant_in {f : Addr} {fd : FuncData} (F : Fun K "grant_in" "grant_in" s_grant_in f fd) (g_MOST_WORDS : ∃ t, mg "MOST_WORDS" = some (.int 99999 t)) (c_body_in : Cal P w K mg base ⟨K, cl, fc⟩ "body_in" 2 fn_body_in) (c_check_words : Cal P w K mg base ⟨K, cl, fc⟩ "check_words" 1 fn_check_words) (c_numbers_in : Cal P w K mg base ⟨K, cl, fc⟩ "numbers_in" 1 fn_numbers_in) :
    FnOk P w K mg base (L2.CX P w) 3 f fd ["words", "line"] (spF ⟨K, cl, fc⟩ fn_grant_in) := by
  refine fn_drop (fn_ok (N := N_grant_in) (ms := ms_grant_in) F sc_grant_in rfl fun cdv A outer s H E hr => ?_)
  exact (ds_cons wi_E (ds_expr (de_fn c_check_words hr (by decide) (takes_of rfl rfl rfl rfl) (da_cons (de_var (pv 0)) (da_cons (de_var (pv 1)) (da_cons de_int (da_cons (de_gint g_MOST_WORDS) da_nil))))))
    (ds_cons wi_E (ds_set (i := 2) sc_grant_in.nd rfl (Or.inl rfl) (de_fn c_numbers_in hr (by decide) (takes_of rfl rfl rfl rfl) (da_cons (de_idx ix_seq op2_idx (de_var (pv 0)) de_int) (da_cons de_int da_nil))))
    (ds_cons wi_E (ds_if (dt_cmp op_isN op2_is (de_var (pv 2)) de_non (nomark _)) (ds_one ds_never) ds_nil)
    (ds_cons wi_E (ds_expr (de_fn c_check_words hr (by decide) (takes_of rfl rfl rfl rfl) (da_cons (de_var (pv 0)) (da_cons (de_var (pv 1)) (da_cons de_int (da_cons (de_gint g_MOST_WORDS) da_nil))))))
    (ds_cons wi_E (ds_if (dt_cmp (op_neU (hu64 hr)) op2_ne (de_idx ix_seq op2_idx (de_var (pv 0)) de_int) de_str (nomark _)) (ds_one ds_never) ds_nil)
    (ds_cons wi_E (ds_expr (de_fn c_check_words hr (by decide) (takes_of rfl rfl rfl rfl) (da_cons (de_var (pv 0)) (da_cons (de_var (pv 1)) (da_cons de_int (da_cons (de_gint g_MOST_WORDS) da_nil))))))
    (ds_one (ds_ret (de_tup (da_cons (de_var (pv 2)) (da_cons (de_fn c_body_in hr (by decide) (takes_of rfl rfl rfl rfl) (da_cons (de_var (pv 0)) (da_cons (de_var (pv 1)) da_nil))) da_nil)))))))))))
abbrev s_read_grant : Stmt := topS 14
abbrev N_read_grant : List Str := ["value"]
theorem sc_read_grant : FnScope N_read_grant ["value"] (defScope s_read_grant) := ⟨rfl, rfl, rfl, by decide +kernel, rfl, by decide +kernel, by decide +kernel⟩
noncomputable def ms_read_grant : MS :=
    (sSeq (sIf (mNot (mTest (mCB dIsi (aCons (mVar 0) (aCons (mC (.ty "str")) aNil))))) sBad sNil)
    (sRet (mCall fn_grant_in (aCons (mCall fn_words_of (aCons (mVar 0) aNil)) (aCons (mC (.int 0)) aNil)))))
noncomputable def fn_read_grant : Fn := dropF (fnB 1 1 ms_read_grant)
theorem n_read_grant : fn_read_grant.n = 1 := Nat.le_antisymm (Nat.le_refl _) (Nat.le_refl _)
theorem ok_read_grant {f : Addr} {fd : FuncData} (F : Fun K "read_grant" "read_grant" s_read_grant f fd) (b_isinstance : mg "isinstance" = none) (b_str : mg "str" = none) (c_grant_in : Cal P w K mg base ⟨K, cl, fc⟩ "grant_in" 3 fn_grant_in) (c_words_of : Cal P w K mg base ⟨K, cl, fc⟩ "words_of" 1 fn_words_of) :
    FnOk P w K mg base (L2.CX P w) 4 f fd ["value"] (spF ⟨K, cl, fc⟩ fn_read_grant) := by
  refine fn_drop (fn_ok (N := N_read_grant) (ms := ms_read_grant) F sc_read_grant rfl fun cdv A outer s H E hr => ?_)
  exact (ds_cons wi_E (ds_if (dt_not (dt_val (de_callB call_isi opn_isi b_isinstance (by decide +kernel) (da_cons (de_var (pv 0)) (da_cons (de_ty b_str (by decide +kernel)) da_nil))))) (ds_one ds_never) ds_nil)
    (ds_one (ds_ret (de_fn c_grant_in hr (by decide) (takes_of rfl rfl rfl rfl) (da_cons (de_fn c_words_of hr (by decide) (takes_of rfl rfl rfl rfl) (da_cons (de_var (pv 0)) da_nil)) (da_cons de_int da_nil))))))
abbrev s_law_deck : Stmt := topS 16
abbrev N_law_deck : List Str := ["_law_script", "_law_great", "_law_small", "_law_cell", "_law_mixed"]
theorem sc_law_deck : FnScope N_law_deck ["_law_script"] (defScope s_law_deck) := ⟨rfl, rfl, rfl, by decide +kernel, rfl, by decide +kernel, by decide +kernel⟩
noncomputable def ms_law_deck : MS :=
    (sSeq (sPar 1 2 (aCons (mC (.int 0)) (aCons (mOp dAdd (mC (.int 11227)) (mOp dMul (mC (.int 37)) (mCB dLen (aCons (mVar 0) aNil)))) aNil)))
    (sSeq (sFor (iSeq (mSl (mVar 0) oNone (oSome (mC (.int 63))))) (gN 3)
    (sIf (mTest (mOp dGe0 (mVar 3) (mOp dPow (mC (.int 10)) (mC (.int 18))))) (sAsg (mOp dSub (mOp dAdd (mOp dMul (mVar 1) (mC (.int 43))) (mVar 3)) (mOp dPow (mC (.int 10)) (mC (.int 18)))) (gN 1)) (sSeq (sAsg (mOp dAdd (mOp dMul (mVar 2) (mC (.int 3202034522624059733))) (mOp dMul (mC (.int 2)) (mCB dAbs (aCons (mVar 3) aNil)))) (gN 4))
    (sAsg (mOp dMod (mCB dInt (aCons (mOp dAdd (mVar 4) (mCB dInt (aCons (mOp dLt (mVar 3) (mC (.int 0))) aNil))) aNil)) (mC (.int 2305843009213693951))) (gN 2)))))
    (sRet (mNew (aCons (mVar 1) (aCons (mVar 2) (aCons (mC (.int 0)) aNil)))))))
noncomputable def fn_law_deck : Fn := (fnB 1 5 ms_law_deck)
theorem n_law_deck : fn_law_deck.n = 1 := Nat.le_antisymm (Nat.le_refl _) (Nat.le_refl _)
theorem ok_law_deck {f : Addr} {fd : FuncData} (F : Fun K "_law_deck" "_law_deck" s_law_deck f fd) (b_abs : mg "abs" = none) (b_int : mg "int" = none) (b_len : mg "len" = none) :
    FnOk P w K mg base (L2.CX P w) 1 f fd ["_law_script"] (spF ⟨K, cl, fc⟩ fn_law_deck) := by
  refine (fn_ok (N := N_law_deck) (ms := ms_law_deck) F sc_law_deck rfl fun cdv A outer s H E hr => ?_)
  exact (ds_cons wi_E (ds_par rfl sc_law_deck.nd rfl rfl (by decide) rfl rfl (da_cons de_int (da_cons (de_op op_addU op2_add de_int (de_op op_mulU op2_mul de_int (de_callB call_lenU opn_len b_len PySem.boot_len (da_cons (de_var (pv 0)) da_nil)))) da_nil)) (by rfl))
    (ds_cons wi_E (ds_for wi_E (passes_of rfl) rfl tg_name (di_seq (hl := (de_slice (he := (de_var (pv 0))) (hl := do_none) (hu := (do_some de_int))))) (pg_name (i := 3) sc_law_deck.nd rfl (Or.inl rfl))
    (ds_one (ds_if (dt_cmp op_ge op2_ge0 (de_var (pv 3)) (de_op op_pow op2_pow de_int de_int) (nomark _)) (ds_one (ds_set (i := 1) sc_law_deck.nd rfl (Or.inl rfl) (de_op op_sub op2_sub (de_op op_addU op2_add (de_op op_mulU op2_mul (de_var (pv 1)) de_int) (de_var (pv 3))) (de_op op_pow op2_pow de_int de_int)))) (ds_cons wi_E (ds_set (i := 4) sc_law_deck.nd rfl (Or.inl rfl) (de_op op_addU op2_add (de_op op_mulU op2_mul (de_var (pv 2)) de_int) (de_op op_mulU op2_mul de_int (de_callB call_abs opn_abs b_abs (by decide +kernel) (da_cons (de_var (pv 3)) da_nil)))))
    (ds_one (ds_set (i := 2) sc_law_deck.nd rfl (Or.inl rfl) (de_op op_mod op2_mod (de_callTy call_intU opn_int b_int (by decide +kernel) (da_cons (de_op op_addU op2_add (de_var (pv 4)) (de_callTy call_intU opn_int b_int (by decide +kernel) (da_cons (de_cmp (op_ltP (hu64 hr)) op2_lt (de_var (pv 3)) de_int (nomark _)) da_nil))) da_nil)) de_int)))))))
    (ds_one (ds_ret (de_new (da_cons (de_var (pv 1)) (da_cons (de_var (pv 2)) (da_cons de_int da_nil))))))))
abbrev s_law_take : Stmt := topS 17
abbrev N_law_take : List Str := ["_law_deck_here", "_law_many", "_law_digit", "_law_mixed"]
theorem sc_law_take : FnScope N_law_take ["_law_deck_here", "_law_many"] (defScope s_law_take) := ⟨rfl, rfl, rfl, by decide +kernel, rfl, by decide +kernel, by decide +kernel⟩
noncomputable def ms_law_take : MS :=
    (sSeq (sIf (mTest (mOp dGt0 (mOp dIdx (mVar 0) (mC (.int 0))) (mC (.int 0)))) (sSeq (sAsg (mOp dMod (mCB dInt (aCons (mOp dIdx (mVar 0) (mC (.int 0))) aNil)) (mVar 1)) (gN 2))
    (sSeq (sIx (mVar 0) (mC (.int 0)) (mOp dDiv (mOp dIdx (mVar 0) (mC (.int 0))) (mVar 1)))
    (sRet (mVar 2)))) sNil)
    (sSeq (sIx (mVar 0) (mC (.int 2)) (mOp dAdd (mOp dIdx (mVar 0) (mC (.int 2))) (mC (.int 1))))
    (sSeq (sAsg (mOp dAdd (mOp dMul (mOp dIdx (mVar 0) (mC (.int 1))) (mC (.int 3202034522624059733))) (mOp dMul (mC (.int 1181783497276652981)) (mOp dIdx (mVar 0) (mC (.int 2))))) (gN 3))
    (sSeq (sIx (mVar 0) (mC (.int 1)) (mOp dMod (mCB dInt (aCons (mVar 3) aNil)) (mC (.int 2305843009213693951))))
    (sRet (mOp dMod (mOp dDiv (mOp dMod (mCB dInt (aCons (mOp dMul (mOp dIdx (mVar 0) (mC (.int 1))) (mOp dIdx (mVar 0) (mC (.int 1)))) aNil)) (mC (.int 2305843009213693921))) (mC (.int 4096))) (mVar 1)))))))
noncomputable def fn_law_take : Fn := dropF (fnB 2 4 ms_law_take)
theorem n_law_take : fn_law_take.n = 2 := Nat.le_antisymm (Nat.le_refl _) (Nat.le_refl _)
theorem ok_law_take {f : Addr} {fd : FuncData} (F : Fun K "_law_take" "_law_take" s_law_take f fd) (b_int : mg "int" = none) :
    FnOk P w K mg base (L2.CX P w) 1 f fd ["_law_deck_here", "_law_many"] (spF ⟨K, cl, fc⟩ fn_law_take) := by
  refine fn_drop (fn_ok (N := N_law_take) (ms := ms_law_take) F sc_law_take rfl fun cdv A outer s H E hr => ?_)
  exact (ds_cons wi_E (ds_if (dt_cmp op_gt op2_gt0 (de_idx ix_seq op2_idx (de_var (pv 0)) de_int) de_int (nomark _)) (ds_cons wi_E (ds_set (i := 2) sc_law_take.nd rfl (Or.inl rfl) (de_op op_mod op2_mod (de_callTy call_intU opn_int b_int (by decide +kernel) (da_cons (de_idx ix_seq op2_idx (de_var (pv 0)) de_int) da_nil)) (de_var (pv 1))))
    (ds_cons wi_E (ds_ix (de_var (pv 0)) de_int (de_op op_fdiv op2_div (de_idx ix_seq op2_idx (de_var (pv 0)) de_int) (de_var (pv 1))) (pg_sub (de_var (pv 0)) de_int set_list))
    (ds_one (ds_ret (de_var (pv 2)))))) ds_nil)
    (ds_cons wi_E (ds_ix (de_var (pv 0)) de_int (de_op op_addU op2_add (de_idx ix_seq op2_idx (de_var (pv 0)) de_int) de_int) (pg_sub (de_var (pv 0)) de_int set_list))
    (ds_cons wi_E (ds_set (i := 3) sc_law_take.nd rfl (Or.inl rfl) (de_op op_addU op2_add (de_op op_mulU op2_mul (de_idx ix_seq op2_idx (de_var (pv 0)) de_int) de_int) (de_op op_mulU op2_mul de_int (de_idx ix_seq op2_idx (de_var (pv 0)) de_int))))
    (ds_cons wi_E (ds_ix (de_var (pv 0)) de_int (de_op op_mod op2_mod (de_callTy call_intU opn_int b_int (by decide +kernel) (da_cons (de_var (pv 3)) da_nil)) de_int) (pg_sub (de_var (pv 0)) de_int set_list))
    (ds_one (ds_ret (de_op op_mod op2_mod (de_op op_fdiv op2_div (de_op op_mod op2_mod (de_callTy call_intU opn_int b_int (by decide +kernel) (da_cons (de_op op_mulU op2_mul (de_idx ix_seq op2_idx (de_var (pv 0)) de_int) (de_idx ix_seq op2_idx (de_var (pv 0)) de_int)) da_nil)) de_int) de_int) (de_var (pv 1)))))))))
abbrev s_law_role : Stmt := topS 18
abbrev N_law_role : List Str := ["_law_deck_here", "_law_owners", "_law_labels"]
theorem sc_law_role : FnScope N_law_role ["_law_deck_here", "_law_owners", "_law_labels"] (defScope s_law_role) := ⟨rfl, rfl, rfl, by decide +kernel, rfl, by decide +kernel, by decide +kernel⟩
noncomputable def ms_law_role : MS :=
    (sRet (mTup (aCons (mCall fn_law_take (aCons (mVar 0) (aCons (mVar 1) aNil))) (aCons (mCall fn_law_take (aCons (mVar 0) (aCons (mVar 2) aNil))) aNil))))
noncomputable def fn_law_role : Fn := dropF (fnB 3 3 ms_law_role)
theorem n_law_role : fn_law_role.n = 3 := Nat.le_antisymm (Nat.le_refl _) (Nat.le_refl _)
theorem ok_law_role {f : Addr} {fd : FuncData} (F : Fun K "_law_role" "_law_role" s_law_role f fd) (c_law_take : Cal P w K mg base ⟨K, cl, fc⟩ "_law_take" 1 fn_law_take) :
    FnOk P w K mg base (L2.CX P w) 2 f fd ["_law_deck_here", "_law_owners", "_law_labels"] (spF ⟨K, cl, fc⟩ fn_law_role) := by
  refine fn_drop (fn_ok (N := N_law_role) (ms := ms_law_role) F sc_law_role rfl fun cdv A outer s H E hr => ?_)
  exact (ds_one (ds_ret (de_tup (da_cons (de_fn c_law_take hr (by decide) (takes_of rfl rfl rfl rfl) (da_cons (de_var (pv 0)) (da_cons (de_var (pv 1)) da_nil))) (da_cons (de_fn c_law_take hr (by decide) (takes_of rfl rfl rfl rfl) (da_cons (de_var (pv 0)) (da_cons (de_var (pv 2)) da_nil))) da_nil)))))
abbrev s_law_grant : Stmt := topS 19
abbrev N_law_grant : List Str := ["_law_deck_here", "_law_owners", "_law_labels", "_law_role_here", "_law_first", "_law_way", "_law_second"]
theorem sc_law_grant : FnScope N_law_grant ["_law_deck_here", "_law_owners", "_law_labels"] (defScope s_law_grant) := ⟨rfl, rfl, rfl, by decide +kernel, rfl, by decide +kernel, by decide +kernel⟩
noncomputable def ms_law_grant : MS :=
    (sSeq (sPar 3 4 (aCons (mCall fn_law_role (aCons (mVar 0) (aCons (mVar 1) (aCons (mVar 2) aNil)))) (aCons (mCall fn_law_role (aCons (mVar 0) (aCons (mVar 1) (aCons (mVar 2) aNil)))) aNil)))
    (sSeq (sAsg (mCall fn_law_take (aCons (mVar 0) (aCons (mC (.int 8)) aNil))) (gN 5))
    (sSeq (sIf (mTest (mOp dLt (mVar 5) (mC (.int 3)))) (sRet (mTup (aCons (mVar 3) (aCons (mTup (aCons (mC (.str "owner")) (aCons (mCall fn_law_take (aCons (mVar 0) (aCons (mVar 1) aNil))) aNil))) aNil)))) sNil)
    (sSeq (sIf (mTest (mOp dLt (mVar 5) (mC (.int 5)))) (sRet (mTup (aCons (mVar 3) (aCons (mTup (aCons (mC (.str "role")) (aCons (mVar 4) aNil))) aNil)))) sNil)
    (sSeq (sIf (mTest (mOp dLt (mVar 5) (mC (.int 7)))) (sRet (mTup (aCons (mVar 3) (aCons (mTup (aCons (mC (.str "through")) (aCons (mVar 4) (aCons (mCall fn_law_take (aCons (mVar 0) (aCons (mVar 2) aNil))) aNil)))) aNil)))) sNil)
    (sSeq (sAsg (mCall fn_law_role (aCons (mVar 0) (aCons (mVar 1) (aCons (mVar 2) aNil)))) (gN 6))
    (sSeq (sIf (mTest (mOp dEq (mVar 4) (mVar 6))) (sRet (mTup (aCons (mVar 3) (aCons (mTup (aCons (mC (.str "role")) (aCons (mVar 4) aNil))) aNil)))) sNil)
    (sRet (mTup (aCons (mVar 3) (aCons (mTup (aCons (mC (.str "both")) (aCons (mCB dMin2 (aCons (mVar 4) (aCons (mVar 6) aNil))) (aCons (mCB dMax2 (aCons (mVar 4) (aCons (mVar 6) aNil))) aNil)))) aNil)))))))))))
noncomputable def fn_law_grant : Fn := dropF (fnB 3 7 ms_law_grant)
theorem n_law_grant : fn_law_grant.n = 3 := Nat.le_antisymm (Nat.le_refl _) (Nat.le_refl _)
theorem ok_law_grant {f : Addr} {fd : FuncData} (F : Fun K "_law_grant" "_law_grant" s_law_grant f fd) (b_max : mg "max" = none) (b_min : mg "min" = none) (c_law_role : Cal P w K mg base ⟨K, cl, fc⟩ "_law_role" 2 fn_law_role) (c_law_take : Cal P w K mg base ⟨K, cl, fc⟩ "_law_take" 1 fn_law_take) :
    FnOk P w K mg base (L2.CX P w) 3 f fd ["_law_deck_here", "_law_owners", "_law_labels"] (spF ⟨K, cl, fc⟩ fn_law_grant) := by
  refine fn_drop (fn_ok (N := N_law_grant) (ms := ms_law_grant) F sc_law_grant rfl fun cdv A outer s H E hr => ?_)
  exact (ds_cons wi_E (ds_par rfl sc_law_grant.nd rfl rfl (by decide) rfl rfl (da_cons (de_fn c_law_role hr (by decide) (takes_of rfl rfl rfl rfl) (da_cons (de_var (pv 0)) (da_cons (de_var (pv 1)) (da_cons (de_var (pv 2)) da_nil)))) (da_cons (de_fn c_law_role hr (by decide) (takes_of rfl rfl rfl rfl) (da_cons (de_var (pv 0)) (da_cons (de_var (pv 1)) (da_cons (de_var (pv 2)) da_nil)))) da_nil)) (by rfl))
    (ds_cons wi_E (ds_set (i := 5) sc_law_grant.nd rfl (Or.inl rfl) (de_fn c_law_take hr (by decide) (takes_of rfl rfl rfl rfl) (da_cons (de_var (pv 0)) (da_cons de_int da_nil))))
    (ds_cons wi_E (ds_if (dt_cmp (op_ltP (hu64 hr)) op2_lt (de_var (pv 5)) de_int (nomark _)) (ds_one (ds_ret (de_tup (da_cons (de_var (pv 3)) (da_cons (de_tup (da_cons de_str (da_cons (de_fn c_law_take hr (by decide) (takes_of rfl rfl rfl rfl) (da_cons (de_var (pv 0)) (da_cons (de_var (pv 1)) da_nil))) da_nil))) da_nil))))) ds_nil)
    (ds_cons wi_E (ds_if (dt_cmp (op_ltP (hu64 hr)) op2_lt (de_var (pv 5)) de_int (nomark _)) (ds_one (ds_ret (de_tup (da_cons (de_var (pv 3)) (da_cons (de_tup (da_cons de_str (da_cons (de_var (pv 4)) da_nil))) da_nil))))) ds_nil)
    (ds_cons wi_E (ds_if (dt_cmp (op_ltP (hu64 hr)) op2_lt (de_var (pv 5)) de_int (nomark _)) (ds_one (ds_ret (de_tup (da_cons (de_var (pv 3)) (da_cons (de_tup (da_cons de_str (da_cons (de_var (pv 4)) (da_cons (de_fn c_law_take hr (by decide) (takes_of rfl rfl rfl rfl) (da_cons (de_var (pv 0)) (da_cons (de_var (pv 2)) da_nil))) da_nil)))) da_nil))))) ds_nil)
    (ds_cons wi_E (ds_set (i := 6) sc_law_grant.nd rfl (Or.inl rfl) (de_fn c_law_role hr (by decide) (takes_of rfl rfl rfl rfl) (da_cons (de_var (pv 0)) (da_cons (de_var (pv 1)) (da_cons (de_var (pv 2)) da_nil)))))
    (ds_cons wi_E (ds_if (dt_cmp (op_eqU (hu64 hr)) op2_eq (de_var (pv 4)) (de_var (pv 6)) (nomark _)) (ds_one (ds_ret (de_tup (da_cons (de_var (pv 3)) (da_cons (de_tup (da_cons de_str (da_cons (de_var (pv 4)) da_nil))) da_nil))))) ds_nil)
    (ds_one (ds_ret (de_tup (da_cons (de_var (pv 3)) (da_cons (de_tup (da_cons de_str (da_cons (de_callB (call_min2D rfl (hu66 hr)) opn_min2 b_min (by decide +kernel) (da_cons (de_var (pv 4)) (da_cons (de_var (pv 6)) da_nil))) (da_cons (de_callB (call_max2D rfl (hu66 hr)) opn_max2 b_max (by decide +kernel) (da_cons (de_var (pv 4)) (da_cons (de_var (pv 6)) da_nil))) da_nil)))) da_nil))))))))))))
abbrev s_law_role_text : Stmt := topS 20
abbrev N_law_role_text : List Str := ["_law_role_here"]
theorem sc_law_role_text : FnScope N_law_role_text ["_law_role_here"] (defScope s_law_role_text) := ⟨rfl, rfl, rfl, by decide +kernel, rfl, by decide +kernel, by decide +kernel⟩
noncomputable def ms_law_role_text : MS :=
    (sRet (mOp dAdd (mOp dAdd (mCB dStr (aCons (mOp dIdx (mVar 0) (mC (.int 0))) aNil)) (mC (.str "."))) (mCB dStr (aCons (mOp dIdx (mVar 0) (mC (.int 1))) aNil))))
noncomputable def fn_law_role_text : Fn := dropF (fnB 1 1 ms_law_role_text)
theorem n_law_role_text : fn_law_role_text.n = 1 := Nat.le_antisymm (Nat.le_refl _) (Nat.le_refl _)
theorem ok_law_role_text {f : Addr} {fd : FuncData} (F : Fun K "_law_role_text" "_law_role_text" s_law_role_text f fd) (b_str : mg "str" = none) :
    FnOk P w K mg base (L2.CX P w) 1 f fd ["_law_role_here"] (spF ⟨K, cl, fc⟩ fn_law_role_text) := by
  refine fn_drop (fn_ok (N := N_law_role_text) (ms := ms_law_role_text) F sc_law_role_text rfl fun cdv A outer s H E hr => ?_)
  exact (ds_one (ds_ret (de_op op_addU op2_add (de_op op_addU op2_add (de_callTy call_strU opn_str b_str (by decide +kernel) (da_cons (de_idx ix_seq op2_idx (de_var (pv 0)) de_int) da_nil)) de_str) (de_callTy call_strU opn_str b_str (by decide +kernel) (da_cons (de_idx ix_seq op2_idx (de_var (pv 0)) de_int) da_nil)))))
abbrev s_law_grant_text : Stmt := topS 21
abbrev N_law_grant_text : List Str := ["_law_value", "_law_role_here", "_law_body", "_law_found"]
theorem sc_law_grant_text : FnScope N_law_grant_text ["_law_value"] (defScope s_law_grant_text) := ⟨rfl, rfl, rfl, by decide +kernel, rfl, by decide +kernel, by decide +kernel⟩
noncomputable def ms_law_grant_text : MS :=
    (sSeq (sAsg (mVar 0) (gT 2 (gsCons (gN 1) (gsCons (gN 2) gsNil))))
    (sSeq (sAsg (mOp dAdd (mCall fn_law_role_text (aCons (mVar 1) aNil)) (mC (.str " < "))) (gN 3))
    (sSeq (sIf (mTest (mOp dEq (mOp dIdx (mVar 2) (mC (.int 0))) (mC (.str "owner")))) (sRet (mOp dAdd (mVar 3) (mCB dStr (aCons (mOp dIdx (mVar 2) (mC (.int 1))) aNil)))) sNil)
    (sSeq (sIf (mTest (mOp dEq (mOp dIdx (mVar 2) (mC (.int 0))) (mC (.str "role")))) (sRet (mOp dAdd (mVar 3) (mCall fn_law_role_text (aCons (mOp dIdx (mVar 2) (mC (.int 1))) aNil)))) sNil)
    (sSeq (sIf (mTest (mOp dEq (mOp dIdx (mVar 2) (mC (.int 0))) (mC (.str "through")))) (sRet (mOp dAdd (mOp dAdd (mOp dAdd (mVar 3) (mCall fn_law_role_text (aCons (mOp dIdx (mVar 2) (mC (.int 1))) aNil))) (mC (.str "."))) (mCB dStr (aCons (mOp dIdx (mVar 2) (mC (.int 2))) aNil)))) sNil)
    (sRet (mOp dAdd (mOp dAdd (mOp dAdd (mVar 3) (mCall fn_law_role_text (aCons (mOp dIdx (mVar 2) (mC (.int 1))) aNil))) (mC (.str " & "))) (mCall fn_law_role_text (aCons (mOp dIdx (mVar 2) (mC (.int 2))) aNil)))))))))
noncomputable def fn_law_grant_text : Fn := dropF (fnB 1 4 ms_law_grant_text)
theorem n_law_grant_text : fn_law_grant_text.n = 1 := Nat.le_antisymm (Nat.le_refl _) (Nat.le_refl _)
theorem ok_law_grant_text {f : Addr} {fd : FuncData} (F : Fun K "_law_grant_text" "_law_grant_text" s_law_grant_text f fd) (b_str : mg "str" = none) (c_law_role_text : Cal P w K mg base ⟨K, cl, fc⟩ "_law_role_text" 1 fn_law_role_text) :
    FnOk P w K mg base (L2.CX P w) 2 f fd ["_law_value"] (spF ⟨K, cl, fc⟩ fn_law_grant_text) := by
  refine fn_drop (fn_ok (N := N_law_grant_text) (ms := ms_law_grant_text) F sc_law_grant_text rfl fun cdv A outer s H E hr => ?_)
  exact (ds_cons wi_E (ds_asg (tg_tup (tgs_cons tg_name (tgs_cons tg_name tgs_nil))) (de_var (pv 0)) (pg_tup rfl (pgs_cons (pg_name (i := 1) sc_law_grant_text.nd rfl (Or.inl rfl)) (pgs_cons (pg_name (i := 2) sc_law_grant_text.nd rfl (Or.inl rfl)) pgs_nil))))
    (ds_cons wi_E (ds_set (i := 3) sc_law_grant_text.nd rfl (Or.inl rfl) (de_op op_addU op2_add (de_fn c_law_role_text hr (by decide) (takes_of rfl rfl rfl rfl) (da_cons (de_var (pv 1)) da_nil)) de_str))
    (ds_cons wi_E (ds_if (dt_cmp (op_eqU (hu64 hr)) op2_eq (de_idx ix_seq op2_idx (de_var (pv 2)) de_int) de_str (nomark _)) (ds_one (ds_ret (de_op op_addU op2_add (de_var (pv 3)) (de_callTy call_strU opn_str b_str (by decide +kernel) (da_cons (de_idx ix_seq op2_idx (de_var (pv 2)) de_int) da_nil))))) ds_nil)
    (ds_cons wi_E (ds_if (dt_cmp (op_eqU (hu64 hr)) op2_eq (de_idx ix_seq op2_idx (de_var (pv 2)) de_int) de_str (nomark _)) (ds_one (ds_ret (de_op op_addU op2_add (de_var (pv 3)) (de_fn c_law_role_text hr (by decide) (takes_of rfl rfl rfl rfl) (da_cons (de_idx ix_seq op2_idx (de_var (pv 2)) de_int) da_nil))))) ds_nil)
    (ds_cons wi_E (ds_if (dt_cmp (op_eqU (hu64 hr)) op2_eq (de_idx ix_seq op2_idx (de_var (pv 2)) de_int) de_str (nomark _)) (ds_one (ds_ret (de_op op_addU op2_add (de_op op_addU op2_add (de_op op_addU op2_add (de_var (pv 3)) (de_fn c_law_role_text hr (by decide) (takes_of rfl rfl rfl rfl) (da_cons (de_idx ix_seq op2_idx (de_var (pv 2)) de_int) da_nil))) de_str) (de_callTy call_strU opn_str b_str (by decide +kernel) (da_cons (de_idx ix_seq op2_idx (de_var (pv 2)) de_int) da_nil))))) ds_nil)
    (ds_one (ds_ret (de_op op_addU op2_add (de_op op_addU op2_add (de_op op_addU op2_add (de_var (pv 3)) (de_fn c_law_role_text hr (by decide) (takes_of rfl rfl rfl rfl) (da_cons (de_idx ix_seq op2_idx (de_var (pv 2)) de_int) da_nil))) de_str) (de_fn c_law_role_text hr (by decide) (takes_of rfl rfl rfl rfl) (da_cons (de_idx ix_seq op2_idx (de_var (pv 2)) de_int) da_nil))))))))))
abbrev s_law : Stmt := topS 22
abbrev N_law : List Str := ["_law_script", "_law_deck_here", "_law_turn", "_law_value", "_law_text", "_law_far", "_law_wide", "_law_through"]
theorem sc_law : FnScope N_law ["_law_script"] (defScope s_law) := ⟨rfl, rfl, rfl, by decide +kernel, rfl, by decide +kernel, by decide +kernel⟩
noncomputable def ms_law : MS :=
    (sSeq (sAsg (mCall fn_law_deck (aCons (mVar 0) aNil)) (gN 1))
    (sSeq (sFor (iRg1 (aCons (mC (.int 20)) aNil)) (gN 2)
    (sSeq (sAsg (mCall fn_law_grant (aCons (mVar 1) (aCons (mOp dAdd (mC (.int 1)) (mCall fn_law_take (aCons (mVar 1) (aCons (mC (.int 7)) aNil)))) (aCons (mOp dAdd (mC (.int 1)) (mCall fn_law_take (aCons (mVar 1) (aCons (mC (.int 4)) aNil)))) aNil)))) (gN 3))
    (sSeq (sAsg (mCall fn_law_grant_text (aCons (mVar 3) aNil)) (gN 4))
    (sSeq (sIf (mTest (mOp dNe (mCB dRepr (aCons (mLst (aCons (mCall fn_grant_text (aCons (mVar 3) aNil)) (aCons (mCall fn_read_grant (aCons (mVar 4) aNil)) (aCons (mCall fn_read_grant (aCons (mVar 4) aNil)) aNil)))) aNil)) (mCB dRepr (aCons (mLst (aCons (mVar 4) (aCons (mVar 3) (aCons (mVar 3) aNil)))) aNil)))) (sRet (mC (.bl false))) sNil)
    (sSeq (sAsg (mTup (aCons (mTup (aCons (mCall fn_law_take (aCons (mVar 1) (aCons (mC (.int 10)) aNil))) (aCons (mCall fn_law_take (aCons (mVar 1) (aCons (mC (.int 10)) aNil))) aNil))) (aCons (mTup (aCons (mC (.str "both")) (aCons (mTup (aCons (mCall fn_law_take (aCons (mVar 1) (aCons (mC (.int 10)) aNil))) (aCons (mC (.int 9)) aNil))) (aCons (mTup (aCons (mCall fn_law_take (aCons (mVar 1) (aCons (mC (.int 10)) aNil))) (aCons (mC (.int 0)) aNil))) aNil)))) aNil))) (gN 5))
    (sSeq (sAsg (mOp dAdd (mOp dAdd (mC (.str "  ")) (mUn (dRepl " " "   ") (mCall fn_law_grant_text (aCons (mVar 5) aNil)))) (mC (.str " "))) (gN 6))
    (sSeq (sIf (mTest (mOp dNe (mCB dRepr (aCons (mCall fn_read_grant (aCons (mVar 6) aNil)) aNil)) (mCB dRepr (aCons (mVar 5) aNil)))) (sRet (mC (.bl false))) sNil)
    (sSeq (sAsg (mTup (aCons (mOp dIdx (mVar 5) (mC (.int 0))) (aCons (mTup (aCons (mC (.str "through")) (aCons (mOp dIdx (mOp dIdx (mVar 5) (mC (.int 1))) (mC (.int 1))) (aCons (mCall fn_law_take (aCons (mVar 1) (aCons (mC (.int 10)) aNil))) aNil)))) aNil))) (gN 7))
    (sIf (mTest (mOp dNe (mCB dRepr (aCons (mCall fn_read_grant (aCons (mCall fn_law_grant_text (aCons (mVar 7) aNil)) aNil)) aNil)) (mCB dRepr (aCons (mVar 7) aNil)))) (sRet (mC (.bl false))) sNil)))))))))
    (sRet (mC (.bl true)))))
noncomputable def fn_law : Fn := (fnB 1 8 ms_law)
theorem n_law : fn_law.n = 1 := Nat.le_antisymm (Nat.le_refl _) (Nat.le_refl _)
theorem ok_law {f : Addr} {fd : FuncData} (F : Fun K "law" "law" s_law f fd) (b_range : mg "range" = none) (b_repr : mg "repr" = none) (c_law_deck : Cal P w K mg base ⟨K, cl, fc⟩ "_law_deck" 1 fn_law_deck) (c_law_grant : Cal P w K mg base ⟨K, cl, fc⟩ "_law_grant" 3 fn_law_grant) (c_law_grant_text : Cal P w K mg base ⟨K, cl, fc⟩ "_law_grant_text" 2 fn_law_grant_text) (c_law_take : Cal P w K mg base ⟨K, cl, fc⟩ "_law_take" 1 fn_law_take) (c_grant_text : Cal P w K mg base ⟨K, cl, fc⟩ "grant_text" 3 fn_grant_text) (c_read_grant : Cal P w K mg base ⟨K, cl, fc⟩ "read_grant" 4 fn_read_grant) :
    FnG P w K mg base (L2.CX P w) 5 f fd ["_law_script"] (spF ⟨K, cl, fc⟩ fn_law) := by
  refine fnG_ok (N := N_law) (ms := ms_law) F sc_law rfl fun cdv A outer s H E hgd hr => ?_
  exact (ds_cons wi_E (ds_set (i := 1) sc_law.nd rfl (Or.inl rfl) (de_fn c_law_deck hr (by decide) (takes_of rfl rfl rfl rfl) (da_cons (de_var (pv 0)) da_nil)))
    (ds_cons wi_E (ds_for wi_E (passes_of rfl) rfl tg_name (di_rg1 b_range (da_cons de_int da_nil)) (pg_name (i := 2) sc_law.nd rfl (Or.inl rfl))
    (ds_cons wi_E (ds_set (i := 3) sc_law.nd rfl (Or.inl rfl) (de_fn c_law_grant hr (by decide) (takes_of rfl rfl rfl rfl) (da_cons (de_var (pv 1)) (da_cons (de_op op_addU op2_add de_int (de_fn c_law_take hr (by decide) (takes_of rfl rfl rfl rfl) (da_cons (de_var (pv 1)) (da_cons de_int da_nil)))) (da_cons (de_op op_addU op2_add de_int (de_fn c_law_take hr (by decide) (takes_of rfl rfl rfl rfl) (da_cons (de_var (pv 1)) (da_cons de_int da_nil)))) da_nil)))))
    (ds_cons wi_E (ds_set (i := 4) sc_law.nd rfl (Or.inl rfl) (de_fn c_law_grant_text hr (by decide) (takes_of rfl rfl rfl rfl) (da_cons (de_var (pv 3)) da_nil)))
    (ds_cons wi_E (ds_if (dt_cmp (op_neU (hu64 hr)) op2_ne (de_callB (call_reprD hgd (hu66 hr)) opn_repr b_repr (by decide +kernel) (da_cons (de_lst (da_cons (de_fn c_grant_text hr (by decide) (takes_of rfl rfl rfl rfl) (da_cons (de_var (pv 3)) da_nil)) (da_cons (de_fn c_read_grant hr (by decide) (takes_of rfl rfl rfl rfl) (da_cons (de_var (pv 4)) da_nil)) (da_cons (de_fn c_read_grant hr (by decide) (takes_of rfl rfl rfl rfl) (da_cons (de_var (pv 4)) da_nil)) da_nil)))) da_nil)) (de_callB (call_reprD hgd (hu66 hr)) opn_repr b_repr (by decide +kernel) (da_cons (de_lst (da_cons (de_var (pv 4)) (da_cons (de_var (pv 3)) (da_cons (de_var (pv 3)) da_nil)))) da_nil)) (nomark _)) (ds_one (ds_ret de_bl)) ds_nil)
    (ds_cons wi_E (ds_set (i := 5) sc_law.nd rfl (Or.inl rfl) (de_tup (da_cons (de_tup (da_cons (de_fn c_law_take hr (by decide) (takes_of rfl rfl rfl rfl) (da_cons (de_var (pv 1)) (da_cons de_int da_nil))) (da_cons (de_fn c_law_take hr (by decide) (takes_of rfl rfl rfl rfl) (da_cons (de_var (pv 1)) (da_cons de_int da_nil))) da_nil))) (da_cons (de_tup (da_cons de_str (da_cons (de_tup (da_cons (de_fn c_law_take hr (by decide) (takes_of rfl rfl rfl rfl) (da_cons (de_var (pv 1)) (da_cons de_int da_nil))) (da_cons de_int da_nil))) (da_cons (de_tup (da_cons (de_fn c_law_take hr (by decide) (takes_of rfl rfl rfl rfl) (da_cons (de_var (pv 1)) (da_cons de_int da_nil))) (da_cons de_int da_nil))) da_nil)))) da_nil))))
    (ds_cons wi_E (ds_set (i := 6) sc_law.nd rfl (Or.inl rfl) (de_op op_addU op2_add (de_cRepl op_addU op2_add (de_fn c_law_grant_text hr (by decide) (takes_of rfl rfl rfl rfl) (da_cons (de_var (pv 5)) da_nil))) de_str))
    (ds_cons wi_E (ds_if (dt_cmp (op_neU (hu64 hr)) op2_ne (de_callB (call_reprD hgd (hu66 hr)) opn_repr b_repr (by decide +kernel) (da_cons (de_fn c_read_grant hr (by decide) (takes_of rfl rfl rfl rfl) (da_cons (de_var (pv 6)) da_nil)) da_nil)) (de_callB (call_reprD hgd (hu66 hr)) opn_repr b_repr (by decide +kernel) (da_cons (de_var (pv 5)) da_nil)) (nomark _)) (ds_one (ds_ret de_bl)) ds_nil)
    (ds_cons wi_E (ds_set (i := 7) sc_law.nd rfl (Or.inl rfl) (de_tup (da_cons (de_idx ix_seq op2_idx (de_var (pv 5)) de_int) (da_cons (de_tup (da_cons de_str (da_cons (de_idx ix_seq op2_idx (de_idx ix_seq op2_idx (de_var (pv 5)) de_int) de_int) (da_cons (de_fn c_law_take hr (by decide) (takes_of rfl rfl rfl rfl) (da_cons (de_var (pv 1)) (da_cons de_int da_nil))) da_nil)))) da_nil))))
    (ds_one (ds_if (dt_cmp (op_neU (hu64 hr)) op2_ne (de_callB (call_reprD hgd (hu66 hr)) opn_repr b_repr (by decide +kernel) (da_cons (de_fn c_read_grant hr (by decide) (takes_of rfl rfl rfl rfl) (da_cons (de_fn c_law_grant_text hr (by decide) (takes_of rfl rfl rfl rfl) (da_cons (de_var (pv 7)) da_nil)) da_nil)) da_nil)) (de_callB (call_reprD hgd (hu66 hr)) opn_repr b_repr (by decide +kernel) (da_cons (de_var (pv 7)) da_nil)) (nomark _)) (ds_one (ds_ret de_bl)) ds_nil))))))))))
    (ds_one (ds_ret de_bl))))
end
end T50

set_option linter.all false
set_option maxRecDepth 100000
set_option maxHeartbeats 4000000
open PySem L2 G
local macro_rules | `(tactic| walk_at "ev") => `(tactic| simp (config := { decide := false }) only [Res.bind_ok, Res.bind_bad, Res.bind_ex, optR_some, optR_none, varR_some, mVar_ap, mC_ap, mOp_ap, opK1_ap, opK2_ap, mUn_ap, unK_ap, mTest_ap, testK_bl, mAnd_ap, andK_t, andK_f, mOr_ap, orK_t, orK_f, mNot_ap, notK_ap, mIf_ap, ifK_t, ifK_f, mAndV_ap, andVK_t, andVK_f, mOrV_ap, orVK_t, orVK_f, mNotV_ap, notVK_bl, aNil_ap, aCons_ap, consK1_ap, consK2_ap, mTup_ap, mLst_ap, mNew_ap, tupK_ok, lstK_ok, newK_ok, mCB_ap, cbK_ap, mCall_ap, callK_ok, sNil_ap, sSeq_ap, seqK_nx, seqK_rt, seqK_bk, seqK_ct, sIf_ap, ifSK_t, ifSK_f, sRet_ap, retK_ap, sRetN_ap, sDrop_ap, dropK_ap, enR_some, sAsg_ap, asgK_ap, gN_ap, gsNil_ap, gsCons_ap, gT_ap, sPar_ap, parK_ap, sBk_ap, sCt_ap, sFor_ap, forK_ap, iSeq_ap, seqIK_lst, seqIK_scr, seqIK_tup, seqIK_ktp, iRg1_ap, iRg2_ap, fnB_run, endK_nx, endK_rt, dropF_run, fnB_n, dropF_n, Wp_ok, Wp_bind, cItems_ap, itK_ap, mLc_ap, mLcN_ap, lcK_ap, lcNK_ap, tYesM_ap, dAdd_int, dSub_int, dMod_int, dDiv_int, dMul_l, dMul_r, dPow_int, dShl_int, dAnd_int, dOr_int, dIdx_ref, idxO_lst, ixK3_ref, ixO_lst, ixO2_some, ixN_0, ixN_1, ixN_2, appK1_ref, appO1_lst, appK2_ap, appO2_lst, extK1_ref, extO1_lst, extK2_ap, extO2_lst, rg1K_ok, rg2K_ok, List.getElem?_set_self, List.length_set, List.set_set, Int.reduceLT, Int.reduceLE, Int.reduceNeg, Int.reducePow, Int.reduceToNat, dLe0_int, dGt0_int, dGe0_int, dLt_int, dEq_int, dNe_int, dIs_non, dIsNot_non, G.isNon, dNeg_int, dIdx_tup, dIdx_lst, dIdx_scr, atI_0, atI_1, atI_2, atI_3, atI_4, dLen_lst, dLen_scr, dLen_tup, dInt_int, dInt_bl, dAbs_int, dStr_str, dTuple_lst, dTuple_tup, dList_tup, dList_lst, dAll_lst, dAny_lst, mBMs_ap, bmsK1_str, bmsK2_ap, oNone_ap, oSome_ap, oSomeK_int, mSl_ap, slK1_ap, slK2_ap, slK3_ap, dSl_lst, dSl_scr, dSl_tup, sIx_ap, ixK1_ap, ixK2_ap, sApp_ap, sExt_ap, mFs_ap, fsAll_nil, fsAll_cons, startE, List.map_cons, List.map_nil, List.length_cons, List.length_nil, List.replicate, List.cons_append, List.nil_append, List.getElem?_cons_zero, List.getElem?_cons_succ, List.set_cons_zero, List.set_cons_succ, Option.map_some, Option.map_none, Option.bind_some, Bool.not_true, Bool.not_false, if_true, if_false, reduceIte, Nat.reduceLeDiff, Nat.reduceAdd, Nat.reduceSub, decide_true, decide_false, Bool.false_eq_true, true_and, and_true, false_and, and_false, dStr10, dFmt10, dInt10, dAdd_tx, dSplit_tx, dFmt_tx, dLen_tx, fsK_tx, dIn_tx1, dRepl_tx, dEq_tx, dNe_tx, tx_emp, comp_nil_ap, comp_cons_ap, cK0_some, cK1_f, cK1_t, cK2_ap, noex_ok, dNe_same, Res.drop_self, bel_non, bel_bl, bel_int, bel_str, bel_tup, bel_lst, bel_scr, bel_ref, bels_nil, bels_cons, bls, loop_nil, loop_cons, stepR_some, turnK_nx, turnK_ct, turnK_bk, turnK_rt, wipeE, List.foldl_cons, List.foldl_nil, Nat.reduceLT, Nat.reduceEqDiff, Option.some.injEq, List.append_assoc, List.all_cons, List.all_nil, id_eq, Bool.and_true, Bool.true_and, spl_nil, spl_cons, hdc_cons, dg_fold, dg46, dg32, dg_in, dInt_dg, List.cons.injEq, List.nil_eq, reduceCtorEq, Int.reduceEq, eq_self, nc0, nc1, nc2, nc3, nc4, nc5, nc6, nc7, nc8, nc9, dEq_t2, dNe_t2, dMin2_t2, dMax2_t2, T50.n_law_take, T50.n_law_role, T50.n_law_grant, T50.n_law_deck, T50.n_law_role_text, T50.n_law_grant_text, T50.n_words_of, T50.n_role_text, T50.n_body_text, T50.n_grant_text, T50.n_numbers_in, T50.n_check_words, T50.n_body_in, T50.n_grant_in, T50.n_read_grant])
local macro_rules | `(tactic| walk_at "evs") => `(tactic| simp (config := { decide := false }) only [Res.bind_ok, Res.bind_bad, Res.bind_ex, optR_some, optR_none, varR_some, mVar_ap, mC_ap, mOp_ap, opK1_ap, opK2_ap, mUn_ap, unK_ap, mTest_ap, testK_bl, mAnd_ap, andK_t, andK_f, mOr_ap, orK_t, orK_f, mNot_ap, notK_ap, mIf_ap, ifK_t, ifK_f, mAndV_ap, andVK_t, andVK_f, mOrV_ap, orVK_t, orVK_f, mNotV_ap, notVK_bl, aNil_ap, aCons_ap, consK1_ap, consK2_ap, mTup_ap, mLst_ap, mNew_ap, tupK_ok, lstK_ok, newK_ok, mCB_ap, cbK_ap, mCall_ap, callK_ok, sNil_ap, sSeq_ap, seqK_nx, seqK_rt, seqK_bk, seqK_ct, sIf_ap, ifSK_t, ifSK_f, sRet_ap, retK_ap, sRetN_ap, sDrop_ap, dropK_ap, enR_some, sAsg_ap, asgK_ap, gN_ap, gsNil_ap, gsCons_ap, gT_ap, sPar_ap, parK_ap, sBk_ap, sCt_ap, sFor_ap, forK_ap, iSeq_ap, seqIK_lst, seqIK_scr, seqIK_tup, seqIK_ktp, iRg1_ap, iRg2_ap, fnB_run, endK_nx, endK_rt, dropF_run, fnB_n, dropF_n, Wp_ok, Wp_bind, cItems_ap, itK_ap, mLc_ap, mLcN_ap, lcK_ap, lcNK_ap, tYesM_ap, dAdd_int, dSub_int, dMod_int, dDiv_int, dMul_l, dMul_r, dPow_int, dShl_int, dAnd_int, dOr_int, dIdx_ref, idxO_lst, ixK3_ref, ixO_lst, ixO2_some, ixN_0, ixN_1, ixN_2, appK1_ref, appO1_lst, appK2_ap, appO2_lst, extK1_ref, extO1_lst, extK2_ap, extO2_lst, rg1K_ok, rg2K_ok, List.getElem?_set_self, List.length_set, List.set_set, Int.reduceLT, Int.reduceLE, Int.reduceNeg, Int.reducePow, Int.reduceToNat, dLe0_int, dGt0_int, dGe0_int, dLt_int, dEq_int, dNe_int, dIs_non, dIsNot_non, G.isNon, dNeg_int, dIdx_tup, dIdx_lst, dIdx_scr, atI_0, atI_1, atI_2, atI_3, atI_4, dLen_lst, dLen_scr, dLen_tup, dInt_int, dInt_bl, dAbs_int, dStr_str, dTuple_lst, dTuple_tup, dList_tup, dList_lst, dAll_lst, dAny_lst, mBMs_ap, bmsK1_str, bmsK2_ap, oNone_ap, oSome_ap, oSomeK_int, mSl_ap, slK1_ap, slK2_ap, slK3_ap, dSl_lst, dSl_scr, dSl_tup, sIx_ap, ixK1_ap, ixK2_ap, sApp_ap, sExt_ap, mFs_ap, fsAll_nil, fsAll_cons, startE, List.map_cons, List.map_nil, List.length_cons, List.length_nil, List.replicate, List.cons_append, List.nil_append, List.getElem?_cons_zero, List.getElem?_cons_succ, List.set_cons_zero, List.set_cons_succ, Option.map_some, Option.map_none, Option.bind_some, Bool.not_true, Bool.not_false, if_true, if_false, reduceIte, Nat.reduceLeDiff, Nat.reduceAdd, Nat.reduceSub, decide_true, decide_false, Bool.false_eq_true, true_and, and_true, false_and, and_false, dStr10, dFmt10, dInt10, dAdd_tx, dSplit_tx, dFmt_tx, dLen_tx, fsK_tx, dIn_tx1, dRepl_tx, dEq_tx, dNe_tx, tx_emp, comp_nil_ap, comp_cons_ap, cK0_some, cK1_f, cK1_t, cK2_ap, noex_ok, dNe_same, Res.drop_self, bel_non, bel_bl, bel_int, bel_str, bel_tup, bel_lst, bel_scr, bel_ref, bels_nil, bels_cons, bls, loop_nil, loop_cons, stepR_some, turnK_nx, turnK_ct, turnK_bk, turnK_rt, wipeE, List.foldl_cons, List.foldl_nil, Nat.reduceLT, Nat.reduceEqDiff, Option.some.injEq, List.append_assoc, List.all_cons, List.all_nil, id_eq, Bool.and_true, Bool.true_and, spl_nil, spl_cons, hdc_cons, dg_fold, dg46, dg32, dg_in, dInt_dg, List.cons.injEq, List.nil_eq, reduceCtorEq, Int.reduceEq, eq_self, nc0, nc1, nc2, nc3, nc4, nc5, nc6, nc7, nc8, nc9, dEq_t2, dNe_t2, dMin2_t2, dMax2_t2, T50.n_law_take, T50.n_law_role, T50.n_law_grant, T50.n_law_deck, T50.n_law_role_text, T50.n_law_grant_text, T50.n_words_of, T50.n_role_text, T50.n_body_text, T50.n_grant_text, T50.n_numbers_in, T50.n_check_words, T50.n_body_in, T50.n_grant_in, T50.n_read_grant, *])
namespace T50
open PySem L2 G
theorem l_sp : Str.ofString " " = tx [32] := by decide +kernel
theorem l_e : Str.ofString "" = tx [] := by decide +kernel
theorem l_dot : Str.ofString "." = tx [46] := by decide +kernel
theorem l_owner : Str.ofString "owner" = tx [111, 119, 110, 101, 114] := by decide +kernel
theorem l_role : Str.ofString "role" = tx [114, 111, 108, 101] := by decide +kernel
theorem l_through : Str.ofString "through" = tx [116, 104, 114, 111, 117, 103, 104] := by decide +kernel
theorem l_both : Str.ofString "both" = tx [98, 111, 116, 104] := by decide +kernel
theorem l_and : Str.ofString " & " = tx [32, 38, 32] := by decide +kernel
theorem l_amp : Str.ofString "&" = tx [38] := by decide +kernel
theorem l_lt : Str.ofString "<" = tx [60] := by decide +kernel
theorem l_lts : Str.ofString " < " = tx [32, 60, 32] := by decide +kernel
theorem l_fig : Str.ofString "0123456789" = tx [48, 49, 50, 51, 52, 53, 54, 55, 56, 57] := by decide +kernel
theorem l_sp2 : Str.ofString "  " = tx [32, 32] := by decide +kernel
theorem l_sp3 : Str.ofString "   " = tx [32, 32, 32] := by decide +kernel
local macro_rules | `(tactic| walk_at "lits") => `(tactic| simp only [l_sp, l_e, l_dot, l_owner, l_role, l_through, l_both, l_and, l_amp, l_lt, l_lts, l_fig, l_sp2, l_sp3])
abbrev Dk (g sm c : Int) : Ob := .lst [.int g, .int sm, .int c]
def DkOk (sm : Int) : Prop := 0 ≤ sm ∧ sm < 2305843009213693951
theorem take_wp {S : Sto} {i : Nat} {g sm c many : Int} (hS : S[i]? = some (Dk g sm c)) (h : DkOk sm) (hm1 : 0 < many) (hm2 : many < 1073741824) :
    Wp (fn_law_take.run [.ref i, .int many] S) fun d S' => ∃ g' sm' c' r, d = .int r ∧ S' = S.set i (Dk g' sm' c') ∧ DkOk sm' ∧ 0 ≤ r ∧ r < many := by
  have hi : i < S.length := (List.getElem?_eq_some_iff.mp hS).1
  have hsm1 : -18446744073709551616 < sm := by have := h.1; omega
  have hsm2 : sm < 18446744073709551616 := by have := h.2; omega
  unfold fn_law_take ms_law_take
  rw [dropF_run, Wp_drop]
  have q1 : ∀ x : Int, -18446744073709551616 < x % 2305843009213693951 := fun x => by have := Int.emod_nonneg x (show (2305843009213693951 : Int) ≠ 0 by decide); omega
  have q2 : ∀ x : Int, x % 2305843009213693951 < 18446744073709551616 := fun x => by have := Int.emod_lt_of_pos x (show (0 : Int) < 2305843009213693951 by decide); omega
  by_cases hg : 0 < g
  · walk_at "evs"
    exact ⟨Cl.set (by simp [Ob.bel, D.bels, D.bel]), g / many, sm, c, _, rfl, take_set _ _ _, h, Int.emod_nonneg _ (by omega), Int.emod_lt_of_pos _ hm1⟩
  · walk_at "evs"
    refine ⟨Cl.set (by simp [Ob.bel, D.bels, D.bel]), g, _, c + 1, _, rfl, take_set _ _ _, ⟨Int.emod_nonneg _ (by decide), Int.emod_lt_of_pos _ (by decide)⟩, Int.emod_nonneg _ (by omega), Int.emod_lt_of_pos _ hm1⟩
/-- a store whose place i holds a deck -/
def HasDk (S : Sto) (i : Nat) : Prop := ∃ g sm c, S[i]? = some (Dk g sm c) ∧ DkOk sm
/-- only the deck at i has changed -/
def DkTo (S : Sto) (i : Nat) (S' : Sto) : Prop := ∃ g sm c, S' = S.set i (Dk g sm c) ∧ DkOk sm
theorem HasDk.lt {S : Sto} {i : Nat} (h : HasDk S i) : i < S.length := by
  obtain ⟨g, sm, c, e, _⟩ := h
  exact (List.getElem?_eq_some_iff.mp e).1
theorem DkTo.has {S S' : Sto} {i : Nat} (h : DkTo S i S') (hi : i < S.length) : HasDk S' i := by
  obtain ⟨g, sm, c, rfl, k⟩ := h
  exact ⟨g, sm, c, List.getElem?_set_self hi, k⟩
theorem DkTo.trans {S S' S'' : Sto} {i : Nat} (h : DkTo S i S') (h' : DkTo S' i S'') : DkTo S i S'' := by
  obtain ⟨g, sm, c, rfl, k⟩ := h
  obtain ⟨g', sm', c', rfl, k'⟩ := h'
  exact ⟨g', sm', c', List.set_set _, k'⟩
theorem DkTo.len {S S' : Sto} {i : Nat} (h : DkTo S i S') : S'.length = S.length := by
  obtain ⟨g, sm, c, rfl, k⟩ := h
  exact List.length_set
theorem HasDk.refl {S : Sto} {i : Nat} (h : HasDk S i) : DkTo S i S := by
  obtain ⟨g, sm, c, e, k⟩ := h
  refine ⟨g, sm, c, ?_, k⟩
  obtain ⟨hi, e'⟩ := List.getElem?_eq_some_iff.mp e
  rw [← e', List.set_getElem_self]
theorem DkTo.cl {S S' : Sto} {i : Nat} (h : DkTo S i S') : Cl S S' := by
  obtain ⟨g, sm, c, rfl, k⟩ := h
  exact Cl.set (by simp [Ob.bel, D.bels, D.bel])
theorem DkTo.take {S S' : Sto} {i : Nat} (h : DkTo S i S') : S'.take S.length = S' := List.take_of_length_le (by rw [h.len]; exact Nat.le_refl _)
theorem take_dk {S : Sto} {i : Nat} {many : Int} (hS : HasDk S i) (hm1 : 0 < many) (hm2 : many < 1073741824) :
    Wp (fn_law_take.run [.ref i, .int many] S) fun d S' => ∃ r, d = .int r ∧ DkTo S i S' ∧ 0 ≤ r ∧ r < many := by
  obtain ⟨g, sm, c, e, k⟩ := hS
  refine (take_wp e k hm1 hm2).mono ?_
  rintro d S' ⟨g', sm', c', r, rfl, rfl, k', a, b⟩
  exact ⟨r, rfl, ⟨g', sm', c', rfl, k'⟩, a, b⟩
theorem role_dk {S : Sto} {i : Nat} {o l : Int} (hS : HasDk S i) (ho1 : 0 < o) (ho2 : o < 1073741824) (hl1 : 0 < l) (hl2 : l < 1073741824) :
    Wp (fn_law_role.run [.ref i, .int o, .int l] S) fun d S' => ∃ a b, d = .tup [.int a, .int b] ∧ DkTo S i S' ∧ 0 ≤ a ∧ a < o ∧ 0 ≤ b ∧ b < l := by
  have hi := hS.lt
  unfold fn_law_role ms_law_role
  rw [dropF_run, Wp_drop]
  walk_at "evs"
  refine (take_dk hS ho1 ho2).mono ?_
  rintro _ S1 ⟨a, rfl, t1, a0, a1⟩
  refine (take_dk (t1.has hi) hl1 hl2).mono ?_
  rintro _ S2 ⟨b, rfl, t2, b0, b1⟩
  have t := t1.trans t2
  walk_at "ev"
  exact ⟨t.cl, a, b, rfl, by rw [t.take]; exact t, a0, a1, b0, b1⟩
/-- what a grant says -/
inductive Bd where
  | own (c : Int) | rol (a b : Int) | thr (a b c : Int) | bot (a b c d : Int)
def dgt (i : Int) : Prop := 0 ≤ i ∧ i < 10
def Bd.ok : Bd → Prop
  | .own c => dgt c
  | .rol a b => dgt a ∧ dgt b
  | .thr a b c => dgt a ∧ dgt b ∧ dgt c
  | .bot a b c d => dgt a ∧ dgt b ∧ dgt c ∧ dgt d
def Bd.d : Bd → D
  | .own c => .tup [.str (tx [111, 119, 110, 101, 114]), .int c]
  | .rol a b => .tup [.str (tx [114, 111, 108, 101]), .tup [.int a, .int b]]
  | .thr a b c => .tup [.str (tx [116, 104, 114, 111, 117, 103, 104]), .tup [.int a, .int b], .int c]
  | .bot a b c d => .tup [.str (tx [98, 111, 116, 104]), .tup [.int a, .int b], .tup [.int c, .int d]]
def grD (a b : Int) (x : Bd) : D := .tup [.tup [.int a, .int b], x.d]
theorem grant_dk {S : Sto} {i : Nat} {o l : Int} (hS : HasDk S i) (ho1 : 0 < o) (ho2 : o < 10) (hl1 : 0 < l) (hl2 : l < 10) :
    Wp (fn_law_grant.run [.ref i, .int o, .int l] S) fun d S' => ∃ a b x, d = grD a b x ∧ dgt a ∧ dgt b ∧ x.ok ∧ DkTo S i S' := by
  have hi := hS.lt
  have ho3 : o < 1073741824 := by omega
  have hl3 : l < 1073741824 := by omega
  unfold fn_law_grant ms_law_grant
  rw [dropF_run, Wp_drop]
  walk_at "lits"
  walk_at "evs"
  refine (role_dk hS ho1 ho3 hl1 hl3).mono ?_
  rintro _ S1 ⟨a, b, rfl, t1, a0, a1, b0, b1⟩
  refine (role_dk (t1.has hi) ho1 ho3 hl1 hl3).mono ?_
  rintro _ S2 ⟨c, d, rfl, t2, c0, c1, d0, d1⟩
  have t := t1.trans t2
  refine (take_dk (t.has hi) (many := 8) (by decide) (by decide)).mono ?_
  rintro _ S3 ⟨w, rfl, t3, w0, w1⟩
  have t := t.trans t3
  by_cases h3 : w < 3
  · walk_at "evs"
    refine (take_dk (t.has hi) ho1 ho3).mono ?_
    rintro _ S4 ⟨e, rfl, t4, e0, e1⟩
    have t := t.trans t4
    walk_at "ev"
    exact ⟨t.cl, a, b, .own e, rfl, ⟨a0, by omega⟩, ⟨b0, by omega⟩, ⟨e0, by omega⟩, by rw [t.take]; exact t⟩
  by_cases h5 : w < 5
  · walk_at "evs"
    exact ⟨t.cl, a, b, .rol c d, rfl, ⟨a0, by omega⟩, ⟨b0, by omega⟩, ⟨⟨c0, by omega⟩, ⟨d0, by omega⟩⟩, by rw [t.take]; exact t⟩
  by_cases h7 : w < 7
  · walk_at "evs"
    refine (take_dk (t.has hi) hl1 hl3).mono ?_
    rintro _ S4 ⟨e, rfl, t4, e0, e1⟩
    have t := t.trans t4
    walk_at "ev"
    exact ⟨t.cl, a, b, .thr c d e, rfl, ⟨a0, by omega⟩, ⟨b0, by omega⟩, ⟨⟨c0, by omega⟩, ⟨d0, by omega⟩, ⟨e0, by omega⟩⟩, by rw [t.take]; exact t⟩
  walk_at "evs"
  refine (role_dk (t.has hi) ho1 ho3 hl1 hl3).mono ?_
  rintro _ S4 ⟨e, f, rfl, t4, e0, e1, f0, f1⟩
  have t := t.trans t4
  by_cases h9 : c = e ∧ d = f
  · walk_at "evs"
    exact ⟨t.cl, a, b, .rol e f, rfl, ⟨a0, by omega⟩, ⟨b0, by omega⟩, ⟨⟨e0, by omega⟩, ⟨f0, by omega⟩⟩, by rw [t.take]; exact t⟩
  · walk_at "evs"
    refine ⟨t.cl, a, b, .bot _ _ _ _, rfl, ⟨a0, by omega⟩, ⟨b0, by omega⟩, ⟨?_, ?_, ?_, ?_⟩, by rw [t.take]; exact t⟩
    all_goals (unfold dgt; split <;> omega)
/-! texts -/
def Bd.t : Bd → List Nat
  | .own c => [dg c]
  | .rol a b => [dg a, 46, dg b]
  | .thr a b c => [dg a, 46, dg b, 46, dg c]
  | .bot a b c d => [dg a, 46, dg b, 32, 38, 32, dg c, 46, dg d]
def grT (a b : Int) (x : Bd) : List Nat := [dg a, 46, dg b, 32, 60, 32] ++ x.t
theorem law_role_text_run {S : Sto} {a b : Int} (a0 : 0 ≤ a) (a1 : a < 10) (b0 : 0 ≤ b) (b1 : b < 10) : fn_law_role_text.run [.tup [.int a, .int b]] S = .ok (.str (tx [dg a, 46, dg b])) S := by
  unfold fn_law_role_text ms_law_role_text
  walk_at "lits"
  walk_at "evs"
theorem role_text_run {S : Sto} {a b : Int} (a0 : 0 ≤ a) (a1 : a < 10) (b0 : 0 ≤ b) (b1 : b < 10) : fn_role_text.run [.tup [.int a, .int b]] S = .ok (.str (tx [dg a, 46, dg b])) S := by
  unfold fn_role_text ms_role_text
  walk_at "lits"
  walk_at "evs"
theorem law_grant_text_run {S : Sto} {a b : Int} {x : Bd} (a0 : 0 ≤ a) (a1 : a < 10) (b0 : 0 ≤ b) (b1 : b < 10) (hx : x.ok) : fn_law_grant_text.run [grD a b x] S = .ok (.str (tx (grT a b x))) S := by
  have R := @law_role_text_run
  unfold fn_law_grant_text ms_law_grant_text grD
  walk_at "lits"
  cases x with
  | own c =>
    obtain ⟨c0, c1⟩ := hx
    simp only [Bd.d]
    walk_at "evs"
    rfl
  | rol c d =>
    obtain ⟨⟨c0, c1⟩, ⟨d0, d1⟩⟩ := hx
    simp only [Bd.d]
    walk_at "evs"
    rfl
  | thr c d e =>
    obtain ⟨⟨c0, c1⟩, ⟨d0, d1⟩, ⟨e0, e1⟩⟩ := hx
    simp only [Bd.d]
    walk_at "evs"
    rfl
  | bot c d e f =>
    obtain ⟨⟨c0, c1⟩, ⟨d0, d1⟩, ⟨e0, e1⟩, ⟨f0, f1⟩⟩ := hx
    simp only [Bd.d]
    walk_at "evs"
    rfl
theorem body_text_run {S : Sto} {x : Bd} (hx : x.ok) : fn_body_text.run [x.d] S = .ok (.str (tx x.t)) S := by
  have R := @role_text_run
  unfold fn_body_text ms_body_text
  walk_at "lits"
  cases x with
  | own c =>
    obtain ⟨c0, c1⟩ := hx
    simp only [Bd.d]
    walk_at "evs"
    rfl
  | rol c d =>
    obtain ⟨⟨c0, c1⟩, ⟨d0, d1⟩⟩ := hx
    simp only [Bd.d]
    walk_at "evs"
    rfl
  | thr c d e =>
    obtain ⟨⟨c0, c1⟩, ⟨d0, d1⟩, ⟨e0, e1⟩⟩ := hx
    simp only [Bd.d]
    walk_at "evs"
    rfl
  | bot c d e f =>
    obtain ⟨⟨c0, c1⟩, ⟨d0, d1⟩, ⟨e0, e1⟩, ⟨f0, f1⟩⟩ := hx
    simp only [Bd.d]
    walk_at "evs"
    rfl
theorem t_len (x : Bd) : x.t.length ≤ 9 := by cases x <;> simp [Bd.t]
theorem grant_text_run {S : Sto} {a b : Int} {x : Bd} (a0 : 0 ≤ a) (a1 : a < 10) (b0 : 0 ≤ b) (b1 : b < 10) (hx : x.ok) : fn_grant_text.run [grD a b x] S = .ok (.str (tx (grT a b x))) S := by
  have R := @role_text_run
  have R2 := fun S => @body_text_run S x hx
  have l1 : x.t.length ≤ 1000000 := Nat.le_trans (t_len x) (by decide)
  have l2 : 6 + x.t.length ≤ 1000000 := by have := t_len x; omega
  unfold fn_grant_text ms_grant_text grD
  walk_at "lits"
  walk_at "evs"
  rfl
/-! reading -/
theorem num1 {S : Sto} {a : Int} (a0 : 0 ≤ a) (a1 : a < 10) : fn_numbers_in.run [.str (tx [dg a]), .int 1] S = .ok (.tup [.int a]) S := by
  unfold fn_numbers_in ms_numbers_in
  walk_at "lits"
  walk_at "evs"
theorem num1_2 {S : Sto} {a b : Int} : fn_numbers_in.run [.str (tx [dg a, 46, dg b]), .int 1] S = .ok .non S := by
  unfold fn_numbers_in ms_numbers_in
  walk_at "lits"
  walk_at "evs"
theorem num3_2 {S : Sto} {a b : Int} : fn_numbers_in.run [.str (tx [dg a, 46, dg b]), .int 3] S = .ok .non S := by
  unfold fn_numbers_in ms_numbers_in
  walk_at "lits"
  walk_at "evs"
theorem num1_3 {S : Sto} {a b c : Int} : fn_numbers_in.run [.str (tx [dg a, 46, dg b, 46, dg c]), .int 1] S = .ok .non S := by
  unfold fn_numbers_in ms_numbers_in
  walk_at "lits"
  walk_at "evs"
theorem num2 {S : Sto} {a b : Int} (a0 : 0 ≤ a) (a1 : a < 10) (b0 : 0 ≤ b) (b1 : b < 10) : fn_numbers_in.run [.str (tx [dg a, 46, dg b]), .int 2] S = .ok (.tup [.int a, .int b]) S := by
  unfold fn_numbers_in ms_numbers_in
  walk_at "lits"
  walk_at "evs"
theorem num3 {S : Sto} {a b c : Int} (a0 : 0 ≤ a) (a1 : a < 10) (b0 : 0 ≤ b) (b1 : b < 10) (c0 : 0 ≤ c) (c1 : c < 10) : fn_numbers_in.run [.str (tx [dg a, 46, dg b, 46, dg c]), .int 3] S = .ok (.tup [.int a, .int b, .int c]) S := by
  unfold fn_numbers_in ms_numbers_in
  walk_at "lits"
  walk_at "evs"
theorem check_run {S : Sto} {ws : List D} {l n m : Int} (h1 : n < ws.length) (h2 : (ws.length : Int) ≤ m) : fn_check_words.run [.lst ws, .int l, .int n, .int m] S = .ok .non S := by
  unfold fn_check_words ms_check_words
  have e1 : ¬ ((ws.length : Int) ≤ n) := by omega
  have e2 : ¬ (m < (ws.length : Int)) := by omega
  walk_at "evs"
def Bd.ws : Bd → List D
  | .own c => [.str (tx [dg c])]
  | .rol a b => [.str (tx [dg a, 46, dg b])]
  | .thr a b c => [.str (tx [dg a, 46, dg b, 46, dg c])]
  | .bot a b c d => [.str (tx [dg a, 46, dg b]), .str (tx [38]), .str (tx [dg c, 46, dg d])]
theorem body_in_run {S : Sto} {p q : D} {x : Bd} (hx : x.ok) : fn_body_in.run [.lst (p :: q :: x.ws), .int 0] S = .ok x.d S := by
  have R1 := @num1
  have R2 := @num2
  have R3 := @num3
  have R4 := @num1_2
  have R5 := @num3_2
  have R6 := @num1_3
  have R7 := @check_run
  unfold fn_body_in ms_body_in
  walk_at "lits"
  cases x with
  | own c =>
    obtain ⟨c0, c1⟩ := hx
    simp only [Bd.d, Bd.ws]
    walk_at "evs"
  | rol c d =>
    obtain ⟨⟨c0, c1⟩, ⟨d0, d1⟩⟩ := hx
    simp only [Bd.d, Bd.ws]
    walk_at "evs"
  | thr c d e =>
    obtain ⟨⟨c0, c1⟩, ⟨d0, d1⟩, ⟨e0, e1⟩⟩ := hx
    have hc : ∀ x y z : D, cutD [x, y, z] none (some 2) = [x, y] := fun _ _ _ => rfl
    simp only [Bd.d, Bd.ws]
    walk_at "evs"
  | bot c d e f =>
    obtain ⟨⟨c0, c1⟩, ⟨d0, d1⟩, ⟨e0, e1⟩, ⟨f0, f1⟩⟩ := hx
    simp only [Bd.d, Bd.ws]
    walk_at "evs"
theorem bd_bel (n : Nat) (x : Bd) : D.bel n x.d := by cases x <;> simp [Bd.d, D.bel, D.bels]
theorem grant_in_run {S : Sto} {a b : Int} {x : Bd} (a0 : 0 ≤ a) (a1 : a < 10) (b0 : 0 ≤ b) (b1 : b < 10) (hx : x.ok) : fn_grant_in.run [.lst (.str (tx [dg a, 46, dg b]) :: .str (tx [60]) :: x.ws), .int 0] S = .ok (grD a b x) S := by
  have R2 := @num2
  have R7 := @check_run
  have R8 := fun S p q => @body_in_run S p q x hx
  have l1 : ((x.ws.length + 1 + 1 : Nat) : Int) ≤ 99999 := by cases x <;> simp [Bd.ws]
  have l2 : (0 : Int) < ((x.ws.length + 1 + 1 : Nat) : Int) := by omega
  have l3 : (1 : Int) < ((x.ws.length + 1 + 1 : Nat) : Int) := by omega
  have l4 : (2 : Int) < ((x.ws.length + 1 + 1 : Nat) : Int) := by cases x <;> simp [Bd.ws]
  have l5 := fun n => bd_bel n x
  unfold fn_grant_in ms_grant_in grD
  walk_at "lits"
  walk_at "evs"
theorem words_run {S : Sto} {a b : Int} {x : Bd} : fn_words_of.run [.str (tx (grT a b x))] S = .ok (.lst (.str (tx [dg a, 46, dg b]) :: .str (tx [60]) :: x.ws)) S := by
  unfold fn_words_of ms_words_of
  walk_at "lits"
  cases x with
  | own c =>
    simp only [grT, Bd.t, Bd.ws]
    walk_at "evs"
  | rol c d =>
    simp only [grT, Bd.t, Bd.ws]
    walk_at "evs"
  | thr c d e =>
    simp only [grT, Bd.t, Bd.ws]
    walk_at "evs"
  | bot c d e f =>
    simp only [grT, Bd.t, Bd.ws]
    walk_at "evs"
theorem isi_str (S : Sto) (x : Str) : dIsi S [.str x, .ty "str"] = some (.bl true) := by rfl
theorem read_run {S : Sto} {a b : Int} {x : Bd} (a0 : 0 ≤ a) (a1 : a < 10) (b0 : 0 ≤ b) (b1 : b < 10) (hx : x.ok) : fn_read_grant.run [.str (tx (grT a b x))] S = .ok (grD a b x) S := by
  have R1 := @words_run
  have R2 := fun S => @grant_in_run S a b x a0 a1 b0 b1 hx
  have R3 := isi_str
  have l5 := fun n => bd_bel n x
  have l6 : ∀ n, D.bel n (grD a b x) := fun n => by simp [grD, D.bel, D.bels, l5]
  unfold fn_read_grant ms_read_grant
  walk_at "evs"
theorem cut_mem {xs : List D} {lo hi : Option Int} {i : Nat} {d : D} (h : (cutD xs lo hi)[i]? = some d) : d ∈ xs := by
  have := List.mem_of_getElem? h
  unfold cutD at this
  exact List.mem_of_mem_drop (List.mem_of_mem_take this)
theorem pow18 : CPow 10 18 := by decide
theorem deck_run {S : Sto} {ns : List Int} (hl : ns.length ≤ 63) : Wp (fn_law_deck.run [.scr (ns.map .int)] S) fun d S' => d = .ref S.length ∧ ∃ g sm, S' = S ++ [Dk g sm 0] ∧ DkOk sm := by
  have hp := pow18
  have e1 : (10 : Int) ^ 18 = 1000000000000000000 := by decide
  have q1 : ∀ x : Int, DkOk (x % 2305843009213693951) := fun x => ⟨Int.emod_nonneg _ (by decide), Int.emod_lt_of_pos _ (by decide)⟩
  unfold fn_law_deck ms_law_deck
  walk_at "evs"
  refine Wp_loop (I := fun _ en S' => S' = S ∧ ∃ g sm x y, en = [some (.scr (ns.map .int)), some (.int g), some (.int sm), x, y] ∧ DkOk sm) ?_ ?_ ?_
  · refine ⟨rfl, _, _, none, none, rfl, ?_⟩
    simp only [List.length_map]
    exact ⟨by omega, by omega⟩
  · rintro i d en S' hd ⟨rfl, g, sm, x, y, rfl, hs⟩
    obtain ⟨z, _, rfl⟩ := List.mem_map.mp (cut_mem hd)
    refine ⟨_, gN_ap _ _ _, ?_⟩
    by_cases hz : 1000000000000000000 ≤ z
    · walk_at "evs"
      exact ⟨_, _, _, _, ⟨rfl, rfl, rfl, rfl⟩, hs⟩
    · walk_at "evs"
      exact ⟨_, _, _, _, ⟨rfl, rfl, rfl, rfl⟩, q1 _⟩
  · rintro en S' ⟨rfl, g, sm, x, y, rfl, hs⟩
    walk_at "evs"
    exact ⟨g, sm, rfl, hs⟩
end T50

set_option linter.all false
set_option maxRecDepth 100000
set_option maxHeartbeats 4000000
open PySem L2 G
local macro_rules | `(tactic| walk_at "ev") => `(tactic| simp (config := { decide := false }) only [Res.bind_ok, Res.bind_bad, Res.bind_ex, optR_some, optR_none, varR_some, mVar_ap, mC_ap, mOp_ap, opK1_ap, opK2_ap, mUn_ap, unK_ap, mTest_ap, testK_bl, mAnd_ap, andK_t, andK_f, mOr_ap, orK_t, orK_f, mNot_ap, notK_ap, mIf_ap, ifK_t, ifK_f, mAndV_ap, andVK_t, andVK_f, mOrV_ap, orVK_t, orVK_f, mNotV_ap, notVK_bl, aNil_ap, aCons_ap, consK1_ap, consK2_ap, mTup_ap, mLst_ap, mNew_ap, tupK_ok, lstK_ok, newK_ok, mCB_ap, cbK_ap, mCall_ap, callK_ok, sNil_ap, sSeq_ap, seqK_nx, seqK_rt, seqK_bk, seqK_ct, sIf_ap, ifSK_t, ifSK_f, sRet_ap, retK_ap, sRetN_ap, sDrop_ap, dropK_ap, enR_some, sAsg_ap, asgK_ap, gN_ap, gsNil_ap, gsCons_ap, gT_ap, sPar_ap, parK_ap, sBk_ap, sCt_ap, sFor_ap, forK_ap, iSeq_ap, seqIK_lst, seqIK_scr, seqIK_tup, seqIK_ktp, iRg1_ap, iRg2_ap, fnB_run, endK_nx, endK_rt, dropF_run, fnB_n, dropF_n, Wp_ok, Wp_bind, cItems_ap, itK_ap, mLc_ap, mLcN_ap, lcK_ap, lcNK_ap, tYesM_ap, dAdd_int, dSub_int, dMod_int, dDiv_int, dMul_l, dMul_r, dPow_int, dShl_int, dAnd_int, dOr_int, dIdx_ref, idxO_lst, ixK3_ref, ixO_lst, ixO2_some, ixN_0, ixN_1, ixN_2, appK1_ref, appO1_lst, appK2_ap, appO2_lst, extK1_ref, extO1_lst, extK2_ap, extO2_lst, rg1K_ok, rg2K_ok, List.getElem?_set_self, List.length_set, List.set_set, Int.reduceLT, Int.reduceLE, Int.reduceNeg, Int.reducePow, Int.reduceToNat, dLe0_int, dGt0_int, dGe0_int, dLt_int, dEq_int, dNe_int, dIs_non, dIsNot_non, G.isNon, dNeg_int, dIdx_tup, dIdx_lst, dIdx_scr, atI_0, atI_1, atI_2, atI_3, atI_4, dLen_lst, dLen_scr, dLen_tup, dInt_int, dInt_bl, dAbs_int, dStr_str, dTuple_lst, dTuple_tup, dList_tup, dList_lst, dAll_lst, dAny_lst, mBMs_ap, bmsK1_str, bmsK2_ap, oNone_ap, oSome_ap, oSomeK_int, mSl_ap, slK1_ap, slK2_ap, slK3_ap, dSl_lst, dSl_scr, dSl_tup, sIx_ap, ixK1_ap, ixK2_ap, sApp_ap, sExt_ap, mFs_ap, fsAll_nil, fsAll_cons, startE, List.map_cons, List.map_nil, List.length_cons, List.length_nil, List.replicate, List.cons_append, List.nil_append, List.getElem?_cons_zero, List.getElem?_cons_succ, List.set_cons_zero, List.set_cons_succ, Option.map_some, Option.map_none, Option.bind_some, Bool.not_true, Bool.not_false, if_true, if_false, reduceIte, Nat.reduceLeDiff, Nat.reduceAdd, Nat.reduceSub, decide_true, decide_false, Bool.false_eq_true, true_and, and_true, false_and, and_false, dStr10, dFmt10, dInt10, dAdd_tx, dSplit_tx, dFmt_tx, dLen_tx, fsK_tx, dIn_tx1, dRepl_tx, dEq_tx, dNe_tx, tx_emp, comp_nil_ap, comp_cons_ap, cK0_some, cK1_f, cK1_t, cK2_ap, noex_ok, dNe_same, Res.drop_self, bel_non, bel_bl, bel_int, bel_str, bel_tup, bel_lst, bel_scr, bel_ref, bels_nil, bels_cons, bls, loop_nil, loop_cons, stepR_some, turnK_nx, turnK_ct, turnK_bk, turnK_rt, wipeE, List.foldl_cons, List.foldl_nil, Nat.reduceLT, Nat.reduceEqDiff, Option.some.injEq, List.append_assoc, List.all_cons, List.all_nil, id_eq, Bool.and_true, Bool.true_and, spl_nil, spl_cons, hdc_cons, dg_fold, dg46, dg32, dg_in, dInt_dg, List.cons.injEq, List.nil_eq, reduceCtorEq, Int.reduceEq, eq_self, nc0, nc1, nc2, nc3, nc4, nc5, nc6, nc7, nc8, nc9, dEq_t2, dNe_t2, dMin2_t2, dMax2_t2, T50.n_law_take, T50.n_law_role, T50.n_law_grant, T50.n_law_deck, T50.n_law_role_text, T50.n_law_grant_text, T50.n_words_of, T50.n_role_text, T50.n_body_text, T50.n_grant_text, T50.n_numbers_in, T50.n_check_words, T50.n_body_in, T50.n_grant_in, T50.n_read_grant])
local macro_rules | `(tactic| walk_at "evs") => `(tactic| simp (config := { decide := false }) only [Res.bind_ok, Res.bind_bad, Res.bind_ex, optR_some, optR_none, varR_some, mVar_ap, mC_ap, mOp_ap, opK1_ap, opK2_ap, mUn_ap, unK_ap, mTest_ap, testK_bl, mAnd_ap, andK_t, andK_f, mOr_ap, orK_t, orK_f, mNot_ap, notK_ap, mIf_ap, ifK_t, ifK_f, mAndV_ap, andVK_t, andVK_f, mOrV_ap, orVK_t, orVK_f, mNotV_ap, notVK_bl, aNil_ap, aCons_ap, consK1_ap, consK2_ap, mTup_ap, mLst_ap, mNew_ap, tupK_ok, lstK_ok, newK_ok, mCB_ap, cbK_ap, mCall_ap, callK_ok, sNil_ap, sSeq_ap, seqK_nx, seqK_rt, seqK_bk, seqK_ct, sIf_ap, ifSK_t, ifSK_f, sRet_ap, retK_ap, sRetN_ap, sDrop_ap, dropK_ap, enR_some, sAsg_ap, asgK_ap, gN_ap, gsNil_ap, gsCons_ap, gT_ap, sPar_ap, parK_ap, sBk_ap, sCt_ap, sFor_ap, forK_ap, iSeq_ap, seqIK_lst, seqIK_scr, seqIK_tup, seqIK_ktp, iRg1_ap, iRg2_ap, fnB_run, endK_nx, endK_rt, dropF_run, fnB_n, dropF_n, Wp_ok, Wp_bind, cItems_ap, itK_ap, mLc_ap, mLcN_ap, lcK_ap, lcNK_ap, tYesM_ap, dAdd_int, dSub_int, dMod_int, dDiv_int, dMul_l, dMul_r, dPow_int, dShl_int, dAnd_int, dOr_int, dIdx_ref, idxO_lst, ixK3_ref, ixO_lst, ixO2_some, ixN_0, ixN_1, ixN_2, appK1_ref, appO1_lst, appK2_ap, appO2_lst, extK1_ref, extO1_lst, extK2_ap, extO2_lst, rg1K_ok, rg2K_ok, List.getElem?_set_self, List.length_set, List.set_set, Int.reduceLT, Int.reduceLE, Int.reduceNeg, Int.reducePow, Int.reduceToNat, dLe0_int, dGt0_int, dGe0_int, dLt_int, dEq_int, dNe_int, dIs_non, dIsNot_non, G.isNon, dNeg_int, dIdx_tup, dIdx_lst, dIdx_scr, atI_0, atI_1, atI_2, atI_3, atI_4, dLen_lst, dLen_scr, dLen_tup, dInt_int, dInt_bl, dAbs_int, dStr_str, dTuple_lst, dTuple_tup, dList_tup, dList_lst, dAll_lst, dAny_lst, mBMs_ap, bmsK1_str, bmsK2_ap, oNone_ap, oSome_ap, oSomeK_int, mSl_ap, slK1_ap, slK2_ap, slK3_ap, dSl_lst, dSl_scr, dSl_tup, sIx_ap, ixK1_ap, ixK2_ap, sApp_ap, sExt_ap, mFs_ap, fsAll_nil, fsAll_cons, startE, List.map_cons, List.map_nil, List.length_cons, List.length_nil, List.replicate, List.cons_append, List.nil_append, List.getElem?_cons_zero, List.getElem?_cons_succ, List.set_cons_zero, List.set_cons_succ, Option.map_some, Option.map_none, Option.bind_some, Bool.not_true, Bool.not_false, if_true, if_false, reduceIte, Nat.reduceLeDiff, Nat.reduceAdd, Nat.reduceSub, decide_true, decide_false, Bool.false_eq_true, true_and, and_true, false_and, and_false, dStr10, dFmt10, dInt10, dAdd_tx, dSplit_tx, dFmt_tx, dLen_tx, fsK_tx, dIn_tx1, dRepl_tx, dEq_tx, dNe_tx, tx_emp, comp_nil_ap, comp_cons_ap, cK0_some, cK1_f, cK1_t, cK2_ap, noex_ok, dNe_same, Res.drop_self, bel_non, bel_bl, bel_int, bel_str, bel_tup, bel_lst, bel_scr, bel_ref, bels_nil, bels_cons, bls, loop_nil, loop_cons, stepR_some, turnK_nx, turnK_ct, turnK_bk, turnK_rt, wipeE, List.foldl_cons, List.foldl_nil, Nat.reduceLT, Nat.reduceEqDiff, Option.some.injEq, List.append_assoc, List.all_cons, List.all_nil, id_eq, Bool.and_true, Bool.true_and, spl_nil, spl_cons, hdc_cons, dg_fold, dg46, dg32, dg_in, dInt_dg, List.cons.injEq, List.nil_eq, reduceCtorEq, Int.reduceEq, eq_self, nc0, nc1, nc2, nc3, nc4, nc5, nc6, nc7, nc8, nc9, dEq_t2, dNe_t2, dMin2_t2, dMax2_t2, T50.n_law_take, T50.n_law_role, T50.n_law_grant, T50.n_law_deck, T50.n_law_role_text, T50.n_law_grant_text, T50.n_words_of, T50.n_role_text, T50.n_body_text, T50.n_grant_text, T50.n_numbers_in, T50.n_check_words, T50.n_body_in, T50.n_grant_in, T50.n_read_grant, *])
namespace T50
open PySem L2 G
local macro_rules | `(tactic| walk_at "lits") => `(tactic| simp only [l_sp, l_e, l_dot, l_owner, l_role, l_through, l_both, l_and, l_amp, l_lt, l_lts, l_fig, l_sp2, l_sp3])
theorem strOk_tx {l : List Nat} (h : l.all (· < 1114112) = true) : PyData.strOk (tx l) = true := by
  unfold PyData.strOk tx
  simpa using h
theorem so1 : PyData.strOk (tx [111, 119, 110, 101, 114]) = true := strOk_tx rfl
theorem so2 : PyData.strOk (tx [114, 111, 108, 101]) = true := strOk_tx rfl
theorem so3 : PyData.strOk (tx [116, 104, 114, 111, 117, 103, 104]) = true := strOk_tx rfl
theorem so4 : PyData.strOk (tx [98, 111, 116, 104]) = true := strOk_tx rfl
theorem bd_sm {x : Bd} (hx : x.ok) : smD x.d = true ∧ wD x.d ≤ 1000 ∧ dpD x.d ≤ 10 := by
  cases x with
  | own c =>
    obtain ⟨c0, c1⟩ := hx
    refine ⟨?_, by simp [Bd.d, wD, wDs, tx_len], by simp [Bd.d, dpD, dpDs]⟩
    simp only [Bd.d, smD, smDs, so1, so2, so3, so4, Bool.and_eq_true, decide_eq_true_eq, and_true, true_and]
    omega
  | rol c d =>
    obtain ⟨⟨c0, c1⟩, ⟨d0, d1⟩⟩ := hx
    refine ⟨?_, by simp [Bd.d, wD, wDs, tx_len], by simp [Bd.d, dpD, dpDs]⟩
    simp only [Bd.d, smD, smDs, so1, so2, so3, so4, Bool.and_eq_true, decide_eq_true_eq, and_true, true_and]
    omega
  | thr c d e =>
    obtain ⟨⟨c0, c1⟩, ⟨d0, d1⟩, ⟨e0, e1⟩⟩ := hx
    refine ⟨?_, by simp [Bd.d, wD, wDs, tx_len], by simp [Bd.d, dpD, dpDs]⟩
    simp only [Bd.d, smD, smDs, so1, so2, so3, so4, Bool.and_eq_true, decide_eq_true_eq, and_true, true_and]
    omega
  | bot c d e f =>
    obtain ⟨⟨c0, c1⟩, ⟨d0, d1⟩, ⟨e0, e1⟩, ⟨f0, f1⟩⟩ := hx
    refine ⟨?_, by simp [Bd.d, wD, wDs, tx_len], by simp [Bd.d, dpD, dpDs]⟩
    simp only [Bd.d, smD, smDs, so1, so2, so3, so4, Bool.and_eq_true, decide_eq_true_eq, and_true, true_and]
    omega
theorem gr_sm {a b : Int} {x : Bd} (ha : dgt a) (hb : dgt b) (hx : x.ok) : smD (grD a b x) = true ∧ wD (grD a b x) ≤ 2000 ∧ dpD (grD a b x) ≤ 20 := by
  obtain ⟨h1, h2, h3⟩ := bd_sm hx
  obtain ⟨a0, a1⟩ := ha
  obtain ⟨b0, b1⟩ := hb
  refine ⟨?_, by simp [grD, wD, wDs]; omega, by simp [grD, dpD, dpDs]; omega⟩
  simp only [grD, smD, smDs, h1, Bool.and_eq_true, decide_eq_true_eq, and_true, true_and]
  omega
theorem dg_ok {i : Int} (h : dgt i) : decide (dg i < 1114112) = true := decide_eq_true (dg_lt h.1 h.2)
theorem grT_ok {a b : Int} {x : Bd} (ha : dgt a) (hb : dgt b) (hx : x.ok) : PyData.strOk (tx (grT a b x)) = true := by
  refine strOk_tx ?_
  have ha := dg_ok ha
  have hb := dg_ok hb
  cases x with
  | own c =>
    have hc := dg_ok hx
    simp [grT, Bd.t] at ha hb hc ⊢
    omega
  | rol c d =>
    have hc := dg_ok hx.1
    have hd := dg_ok hx.2
    simp [grT, Bd.t] at ha hb hc hd ⊢
    omega
  | thr c d e =>
    have hc := dg_ok hx.1
    have hd := dg_ok hx.2.1
    have he := dg_ok hx.2.2
    simp [grT, Bd.t] at ha hb hc hd he ⊢
    omega
  | bot c d e f =>
    have hc := dg_ok hx.1
    have hd := dg_ok hx.2.1
    have he := dg_ok hx.2.2.1
    have hf := dg_ok hx.2.2.2
    simp [grT, Bd.t] at ha hb hc hd he hf ⊢
    omega
theorem repr_gr {a b : Int} {x : Bd} (ha : dgt a) (hb : dgt b) (hx : x.ok) : ∃ z, ∀ S, dRepr S [grD a b x] = some (.str z) := by
  obtain ⟨h1, h2, h3⟩ := gr_sm ha hb hx
  exact repr_sm h1 (by omega) (by omega) rfl
theorem repr_grs {a b : Int} {x : Bd} (ha : dgt a) (hb : dgt b) (hx : x.ok) : ∃ z, ∀ S, dRepr S [.lst [.str (tx (grT a b x)), grD a b x, grD a b x]] = some (.str z) := by
  obtain ⟨h1, h2, h3⟩ := gr_sm ha hb hx
  have h4 : (grT a b x).length ≤ 100 := by
    have := t_len x
    simp [grT]
    omega
  refine repr_sm ?_ ?_ ?_ rfl
  · simp only [smD, smDs, grT_ok ha hb hx, h1]
    rfl
  · simp only [dpD, dpDs]; omega
  · simp only [wD, wDs, tx_len]; omega
/-- the wide text of a far grant -/
def wideT (a b c d : Int) : List Nat := [32, 32, dg a, 46, dg b, 32, 32, 32, 60, 32, 32, 32, dg c, 46, dg 9, 32, 32, 32, 38, 32, 32, 32, dg d, 46, dg 0, 32]
theorem wide_words {S : Sto} {a b c d : Int} : fn_words_of.run [.str (tx (wideT a b c d))] S = .ok (.lst (.str (tx [dg a, 46, dg b]) :: .str (tx [60]) :: Bd.ws (.bot c 9 d 0))) S := by
  unfold fn_words_of ms_words_of
  walk_at "lits"
  simp only [wideT, Bd.ws]
  walk_at "evs"
theorem wide_read {S : Sto} {a b c d : Int} (ha : dgt a) (hb : dgt b) (hc : dgt c) (hd : dgt d) : fn_read_grant.run [.str (tx (wideT a b c d))] S = .ok (grD a b (.bot c 9 d 0)) S := by
  have R1 := @wide_words
  have R2 := fun S => @grant_in_run S a b (.bot c 9 d 0) ha.1 ha.2 hb.1 hb.2 ⟨hc, ⟨by decide, by decide⟩, hd, ⟨by decide, by decide⟩⟩
  have R3 := isi_str
  have l5 := fun n => bd_bel n (.bot c 9 d 0)
  have l6 : ∀ n, D.bel n (grD a b (.bot c 9 d 0)) := fun n => by simp [grD, D.bel, D.bels, l5]
  unfold fn_read_grant ms_read_grant
  walk_at "evs"
theorem repl_far {S : Sto} {p q r s : Int} : dRepl (tx [32]) (tx [32, 32, 32]) S (.str (tx [dg p, 46, dg q, 32, 60, 32, dg r, 46, dg 9, 32, 38, 32, dg s, 46, dg 0])) = some (.str (tx [dg p, 46, dg q, 32, 32, 32, 60, 32, 32, 32, dg r, 46, dg 9, 32, 32, 32, 38, 32, 32, 32, dg s, 46, dg 0])) := by
  rw [dRepl_tx (by simp)]
  simp only [spl_cons, spl_nil, hdc_cons, dg32, if_false, if_true, Nat.reduceEqDiff, List.intersperse, List.flatten_cons, List.flatten_nil, List.cons_append, List.nil_append]
theorem main (ns : List Int) (hl : ns.length ≤ 63) : ∃ S, fn_law.run [.scr (ns.map .int)] [] = .ok (.bl true) S := by
  suffices h : Wp (fn_law.run [.scr (ns.map .int)] []) fun d _ => d = .bl true by
    obtain ⟨a, S, e, q⟩ := h.ok_of
    exact ⟨S, by rw [e, q]⟩
  unfold fn_law ms_law
  walk_at "lits"
  walk_at "evs"
  refine (deck_run hl).mono ?_
  rintro d S ⟨rfl, g, sm, rfl, hk⟩
  walk_at "evs"
  refine Wp_loop (I := fun _ en S' => HasDk S' 0 ∧ ∃ x2 x3 x4 x5 x6 x7, en = [some (.scr (ns.map .int)), some (.ref 0), x2, x3, x4, x5, x6, x7]) ?_ ?_ ?_
  · exact ⟨⟨g, sm, 0, rfl, hk⟩, _, _, _, _, _, _, rfl⟩
  · rintro i d en S hd ⟨hS, x2, x3, x4, x5, x6, x7, rfl⟩
    refine ⟨_, gN_ap _ _ _, ?_⟩
    try walk_at "evs"
    refine (take_dk hS (by decide) (by decide)).mono ?_
    rintro _ S1 ⟨o, rfl, t1, o0, o1⟩
    have k1 := t1.has hS.lt
    try walk_at "evs"
    refine (take_dk k1 (by decide) (by decide)).mono ?_
    rintro _ S2 ⟨l, rfl, t2, l0, l1⟩
    have k2 := t2.has k1.lt
    walk_at "evs"
    refine (grant_dk k2 (by omega) (by omega) (by omega) (by omega)).mono ?_
    rintro _ S3 ⟨a, b, x, rfl, ha, hb, hx, t3⟩
    have k3 := t3.has k2.lt
    have R1 := fun S => @law_grant_text_run S a b x ha.1 ha.2 hb.1 hb.2 hx
    have R2 := fun S => @grant_text_run S a b x ha.1 ha.2 hb.1 hb.2 hx
    have R3 := fun S => @read_run S a b x ha.1 ha.2 hb.1 hb.2 hx
    obtain ⟨z, hz⟩ := repr_grs ha hb hx
    walk_at "evs"
    clear R1 R2 R3 hz
    refine (take_dk k3 (by decide) (by decide)).mono ?_
    rintro _ S4 ⟨p, rfl, t4, hp⟩
    have k4 := t4.has k3.lt
    refine (take_dk k4 (by decide) (by decide)).mono ?_
    rintro _ S5 ⟨q, rfl, t5, hq⟩
    have k5 := t5.has k4.lt
    try walk_at "evs"
    refine (take_dk k5 (by decide) (by decide)).mono ?_
    rintro _ S6 ⟨r, rfl, t6, hr⟩
    have k6 := t6.has k5.lt
    try walk_at "evs"
    refine (take_dk k6 (by decide) (by decide)).mono ?_
    rintro _ S7 ⟨s, rfl, t7, hs⟩
    have k7 := t7.has k6.lt
    have hx2 : Bd.ok (.bot r 9 s 0) := ⟨hr, ⟨by decide, by decide⟩, hs, ⟨by decide, by decide⟩⟩
    have R1 : ∀ S, fn_law_grant_text.run [.tup [.tup [.int p, .int q], .tup [.str (tx [98, 111, 116, 104]), .tup [.int r, .int 9], .tup [.int s, .int 0]]]] S = _ := fun S => @law_grant_text_run S p q (.bot r 9 s 0) hp.1 hp.2 hq.1 hq.2 hx2
    simp only [grT, Bd.t] at R1
    have R2 := @repl_far
    have R3 := fun S => @wide_read S p q r s hp hq hr hs
    simp only [wideT] at R3
    obtain ⟨z2, hz2⟩ := repr_gr (x := .bot r 9 s 0) hp hq hx2
    simp only [grD, Bd.d] at R3 hz2
    walk_at "evs"
    clear R1 R2 R3 hz2
    refine (take_dk k7 (by decide) (by decide)).mono ?_
    rintro _ S8 ⟨u, rfl, t8, hu⟩
    have k8 := t8.has k7.lt
    have hx3 : Bd.ok (.thr r 9 u) := ⟨hr, ⟨by decide, by decide⟩, hu⟩
    have R1 := fun S => @law_grant_text_run S p q (.thr r 9 u) hp.1 hp.2 hq.1 hq.2 hx3
    have R3 := fun S => @read_run S p q (.thr r 9 u) hp.1 hp.2 hq.1 hq.2 hx3
    obtain ⟨z3, hz3⟩ := repr_gr (x := .thr r 9 u) hp hq hx3
    simp only [grD, Bd.d] at R1 R3 hz3
    walk_at "evs"
    exact ⟨_, _, _, _, _, _, rfl, rfl, rfl, rfl, rfl, rfl⟩
  · rintro en S ⟨hS, x2, x3, x4, x5, x6, x7, rfl⟩
    walk_at "evs"
end T50

set_option Elab.async false
set_option linter.all false
set_option maxRecDepth 100000
set_option maxHeartbeats 0
namespace T50
open PySem L2 G
def d_words_of : He.DefD := ⟨("words_of", none), "words_of", "words_of", defArgs s_words_of, defBody s_words_of, defScope s_words_of, [], []⟩
def d_role_text : He.DefD := ⟨("role_text", none), "role_text", "role_text", defArgs s_role_text, defBody s_role_text, defScope s_role_text, [], []⟩
def d_body_text : He.DefD := ⟨("body_text", none), "body_text", "body_text", defArgs s_body_text, defBody s_body_text, defScope s_body_text, [], []⟩
def d_grant_text : He.DefD := ⟨("grant_text", none), "grant_text", "grant_text", defArgs s_grant_text, defBody s_grant_text, defScope s_grant_text, [], []⟩
def d_numbers_in : He.DefD := ⟨("numbers_in", none), "numbers_in", "numbers_in", defArgs s_numbers_in, defBody s_numbers_in, defScope s_numbers_in, [], []⟩
def d_check_words : He.DefD := ⟨("check_words", none), "check_words", "check_words", defArgs s_check_words, defBody s_check_words, defScope s_check_words, [], []⟩
def d_body_in : He.DefD := ⟨("body_in", none), "body_in", "body_in", defArgs s_body_in, defBody s_body_in, defScope s_body_in, [], []⟩
def d_grant_in : He.DefD := ⟨("grant_in", none), "grant_in", "grant_in", defArgs s_grant_in, defBody s_grant_in, defScope s_grant_in, [], []⟩
def d_read_grant : He.DefD := ⟨("read_grant", none), "read_grant", "read_grant", defArgs s_read_grant, defBody s_read_grant, defScope s_read_grant, [], []⟩
def d_law_deck : He.DefD := ⟨("_law_deck", none), "_law_deck", "_law_deck", defArgs s_law_deck, defBody s_law_deck, defScope s_law_deck, [], []⟩
def d_law_take : He.DefD := ⟨("_law_take", none), "_law_take", "_law_take", defArgs s_law_take, defBody s_law_take, defScope s_law_take, [], []⟩
def d_law_role : He.DefD := ⟨("_law_role", none), "_law_role", "_law_role", defArgs s_law_role, defBody s_law_role, defScope s_law_role, [], []⟩
def d_law_grant : He.DefD := ⟨("_law_grant", none), "_law_grant", "_law_grant", defArgs s_law_grant, defBody s_law_grant, defScope s_law_grant, [], []⟩
def d_law_role_text : He.DefD := ⟨("_law_role_text", none), "_law_role_text", "_law_role_text", defArgs s_law_role_text, defBody s_law_role_text, defScope s_law_role_text, [], []⟩
def d_law_grant_text : He.DefD := ⟨("_law_grant_text", none), "_law_grant_text", "_law_grant_text", defArgs s_law_grant_text, defBody s_law_grant_text, defScope s_law_grant_text, [], []⟩
def d_law : He.DefD := ⟨("law", none), "law", "law", defArgs s_law, defBody s_law, defScope s_law, [], []⟩
def fnl : List He.DefD := ([d_words_of, d_role_text, d_body_text, d_grant_text, d_numbers_in, d_check_words, d_body_in, d_grant_in, d_read_grant, d_law_deck, d_law_take, d_law_role, d_law_grant, d_law_role_text, d_law_grant_text, d_law] : List _)
def fal : List He.Fa := ([.glo "words_of", .glo "role_text", .glo "body_text", .glo "grant_text", .glo "numbers_in", .glo "check_words", .glo "body_in", .glo "grant_in", .glo "read_grant", .glo "_law_deck", .glo "_law_take", .glo "_law_role", .glo "_law_grant", .glo "_law_role_text", .glo "_law_grant_text", .glo "law", .free "abs", .free "all", .free "int", .free "isinstance", .free "len", .free "max", .free "min", .free "range", .free "repr"] : List _) ++ ([.free "str", .free "tuple", .str "FIGURES" "0123456789", .int "MOST_WORDS" 99999] : List _)
def loose : List PySem.Str := ([("BadText" : PySem.Str), ("FIGURES" : PySem.Str), ("GrantError" : PySem.Str), ("MOST_WORDS" : PySem.Str), ("_law_deck" : PySem.Str), ("_law_grant" : PySem.Str), ("_law_grant_text" : PySem.Str), ("_law_role" : PySem.Str), ("_law_role_text" : PySem.Str), ("_law_take" : PySem.Str), ("body_in" : PySem.Str), ("body_text" : PySem.Str), ("check_words" : PySem.Str), ("grant_in" : PySem.Str), ("grant_text" : PySem.Str), ("numbers_in" : PySem.Str), ("read_grant" : PySem.Str), ("role_text" : PySem.Str), ("words_of" : PySem.Str)] : List _)
abbrev R : PySem.W.OpenRow := PySem.W.OpenLaw.row PySem.Challenge.rw_grantsgrow_k50_texts_of_grants
abbrev hk : PySem.W.Hook := He.hookX 5 fal fnl [] [] (fun _ => true)
def ob (s : PySem.W.SharedT) : He.AlX := He.obsX 5 fal fnl [] [] (fun _ => true) (HandSHeadRun.getT s)
theorem ob_eq (s : PySem.W.SharedT) : ob s = hk.obs s.abs := He.obsX_eq (HandSHeadRun.getT_eq s)
theorem run (w : World) : HandSHeadRun.RunEq R (PySem.W.view R.prog [22]) hk ob 20000 loose w := by
  intro os
  kernel_rfl
theorem facts {P : Program} {w : World} {K : PySem.W.Frag} {h : Heap} {mg : Str → Option Value} {f : Addr} (X : K.In h) (Gm : h.Ns mainGlobals mg) (hfa : mg ("law" : Str) = some (.ref f)) (c : He.SaysX fal fnl [] [] (fun _ => true) w h K) :
    ∃ (fd : FuncData) (sp : Sp), (∀ (s : Shared) (u : Value), BindsTo s fd ⟨[u], []⟩ [("_law_script", u)]) ∧ (∀ (H : Hp) (a : Addr) (ns : List Int), ns.length ≤ 63 → L2.Only H → SqL K H a (ns.map V.int) → sp [.ref a] H (fun v _ => v = .bl true) fun _ _ _ => False) ∧
      ∀ base : Heap, K.In base → base.Ns mainGlobals mg → FnG P w K mg base (L2.CX P w) 5 f fd ["_law_script"] sp := by
  have D := c.t.d
  obtain ⟨fd_words_of, F_words_of⟩ := D.def_ 0 (d := d_words_of) rfl
  have B_words_of := F_words_of.bindsN (ps := ["text"]) fun _ _ _ _ _ _ us hl => match us, hl with | [_], _ => rfl
  have G_words_of := He.glo_ok X Gm (D.fact 0 (f := .glo "words_of") rfl)
  obtain ⟨fd_role_text, F_role_text⟩ := D.def_ 1 (d := d_role_text) rfl
  have B_role_text := F_role_text.bindsN (ps := ["role"]) fun _ _ _ _ _ _ us hl => match us, hl with | [_], _ => rfl
  have G_role_text := He.glo_ok X Gm (D.fact 1 (f := .glo "role_text") rfl)
  obtain ⟨fd_body_text, F_body_text⟩ := D.def_ 2 (d := d_body_text) rfl
  have B_body_text := F_body_text.bindsN (ps := ["body"]) fun _ _ _ _ _ _ us hl => match us, hl with | [_], _ => rfl
  have G_body_text := He.glo_ok X Gm (D.fact 2 (f := .glo "body_text") rfl)
  obtain ⟨fd_grant_text, F_grant_text⟩ := D.def_ 3 (d := d_grant_text) rfl
  have B_grant_text := F_grant_text.bindsN (ps := ["value"]) fun _ _ _ _ _ _ us hl => match us, hl with | [_], _ => rfl
  have G_grant_text := He.glo_ok X Gm (D.fact 3 (f := .glo "grant_text") rfl)
  obtain ⟨fd_numbers_in, F_numbers_in⟩ := D.def_ 4 (d := d_numbers_in) rfl
  have B_numbers_in := F_numbers_in.bindsN (ps := ["word", "many"]) fun _ _ _ _ _ _ us hl => match us, hl with | [_, _], _ => rfl
  have G_numbers_in := He.glo_ok X Gm (D.fact 4 (f := .glo "numbers_in") rfl)
  obtain ⟨fd_check_words, F_check_words⟩ := D.def_ 5 (d := d_check_words) rfl
  have B_check_words := F_check_words.bindsN (ps := ["words", "line", "number", "many"]) fun _ _ _ _ _ _ us hl => match us, hl with | [_, _, _, _], _ => rfl
  have G_check_words := He.glo_ok X Gm (D.fact 5 (f := .glo "check_words") rfl)
  obtain ⟨fd_body_in, F_body_in⟩ := D.def_ 6 (d := d_body_in) rfl
  have B_body_in := F_body_in.bindsN (ps := ["words", "line"]) fun _ _ _ _ _ _ us hl => match us, hl with | [_, _], _ => rfl
  have G_body_in := He.glo_ok X Gm (D.fact 6 (f := .glo "body_in") rfl)
  obtain ⟨fd_grant_in, F_grant_in⟩ := D.def_ 7 (d := d_grant_in) rfl
  have B_grant_in := F_grant_in.bindsN (ps := ["words", "line"]) fun _ _ _ _ _ _ us hl => match us, hl with | [_, _], _ => rfl
  have G_grant_in := He.glo_ok X Gm (D.fact 7 (f := .glo "grant_in") rfl)
  obtain ⟨fd_read_grant, F_read_grant⟩ := D.def_ 8 (d := d_read_grant) rfl
  have B_read_grant := F_read_grant.bindsN (ps := ["value"]) fun _ _ _ _ _ _ us hl => match us, hl with | [_], _ => rfl
  have G_read_grant := He.glo_ok X Gm (D.fact 8 (f := .glo "read_grant") rfl)
  obtain ⟨fd_law_deck, F_law_deck⟩ := D.def_ 9 (d := d_law_deck) rfl
  have B_law_deck := F_law_deck.bindsN (ps := ["_law_script"]) fun _ _ _ _ _ _ us hl => match us, hl with | [_], _ => rfl
  have G_law_deck := He.glo_ok X Gm (D.fact 9 (f := .glo "_law_deck") rfl)
  obtain ⟨fd_law_take, F_law_take⟩ := D.def_ 10 (d := d_law_take) rfl
  have B_law_take := F_law_take.bindsN (ps := ["_law_deck_here", "_law_many"]) fun _ _ _ _ _ _ us hl => match us, hl with | [_, _], _ => rfl
  have G_law_take := He.glo_ok X Gm (D.fact 10 (f := .glo "_law_take") rfl)
  obtain ⟨fd_law_role, F_law_role⟩ := D.def_ 11 (d := d_law_role) rfl
  have B_law_role := F_law_role.bindsN (ps := ["_law_deck_here", "_law_owners", "_law_labels"]) fun _ _ _ _ _ _ us hl => match us, hl with | [_, _, _], _ => rfl
  have G_law_role := He.glo_ok X Gm (D.fact 11 (f := .glo "_law_role") rfl)
  obtain ⟨fd_law_grant, F_law_grant⟩ := D.def_ 12 (d := d_law_grant) rfl
  have B_law_grant := F_law_grant.bindsN (ps := ["_law_deck_here", "_law_owners", "_law_labels"]) fun _ _ _ _ _ _ us hl => match us, hl with | [_, _, _], _ => rfl
  have G_law_grant := He.glo_ok X Gm (D.fact 12 (f := .glo "_law_grant") rfl)
  obtain ⟨fd_law_role_text, F_law_role_text⟩ := D.def_ 13 (d := d_law_role_text) rfl
  have B_law_role_text := F_law_role_text.bindsN (ps := ["_law_role_here"]) fun _ _ _ _ _ _ us hl => match us, hl with | [_], _ => rfl
  have G_law_role_text := He.glo_ok X Gm (D.fact 13 (f := .glo "_law_role_text") rfl)
  obtain ⟨fd_law_grant_text, F_law_grant_text⟩ := D.def_ 14 (d := d_law_grant_text) rfl
  have B_law_grant_text := F_law_grant_text.bindsN (ps := ["_law_value"]) fun _ _ _ _ _ _ us hl => match us, hl with | [_], _ => rfl
  have G_law_grant_text := He.glo_ok X Gm (D.fact 14 (f := .glo "_law_grant_text") rfl)
  obtain ⟨fd_law, F_law⟩ := D.def_ 15 (d := d_law) rfl
  have B_law := F_law.bindsA (ps := ["_law_script"]) fun _ _ _ _ _ _ us hl => match us, hl with | [_], _ => rfl
  have G_law := He.glo_ok X Gm (D.fact 15 (f := .glo "law") rfl)
  have b_abs := He.free_ok X Gm (D.fact 16 (f := .free "abs") rfl)
  have b_all := He.free_ok X Gm (D.fact 17 (f := .free "all") rfl)
  have b_int := He.free_ok X Gm (D.fact 18 (f := .free "int") rfl)
  have b_isinstance := He.free_ok X Gm (D.fact 19 (f := .free "isinstance") rfl)
  have b_len := He.free_ok X Gm (D.fact 20 (f := .free "len") rfl)
  have b_max := He.free_ok X Gm (D.fact 21 (f := .free "max") rfl)
  have b_min := He.free_ok X Gm (D.fact 22 (f := .free "min") rfl)
  have b_range := He.free_ok X Gm (D.fact 23 (f := .free "range") rfl)
  have b_repr := He.free_ok X Gm (D.fact 24 (f := .free "repr") rfl)
  have b_str := He.free_ok X Gm (D.fact 25 (f := .free "str") rfl)
  have b_tuple := He.free_ok X Gm (D.fact 26 (f := .free "tuple") rfl)
  have g_FIGURES := He.str_ok X Gm (D.fact 27 (f := .str "FIGURES" "0123456789") rfl)
  have g_MOST_WORDS := He.int_ok X Gm (D.fact 28 (f := .int "MOST_WORDS" 99999) rfl)
  have e := hfa.symm.trans G_law
  cases e
  refine ⟨fd_law, spF ⟨K, fun _ => 0, fun _ => 0⟩ fn_law, fun s v => B_law s [v] rfl, fun H a ns hl hO hS => law_sp rfl hO hS (main ns hl), fun base _ _ => ?_⟩
  have c_words_of : Cal P w K mg base ⟨K, fun _ => 0, fun _ => 0⟩ "words_of" 1 fn_words_of := ⟨_, _, _, ok_words_of (toFun F_words_of) , G_words_of, F_words_of.kp, B_words_of⟩
  have c_role_text : Cal P w K mg base ⟨K, fun _ => 0, fun _ => 0⟩ "role_text" 1 fn_role_text := ⟨_, _, _, ok_role_text (toFun F_role_text) , G_role_text, F_role_text.kp, B_role_text⟩
  have c_body_text : Cal P w K mg base ⟨K, fun _ => 0, fun _ => 0⟩ "body_text" 2 fn_body_text := ⟨_, _, _, ok_body_text (toFun F_body_text) b_str c_role_text, G_body_text, F_body_text.kp, B_body_text⟩
  have c_grant_text : Cal P w K mg base ⟨K, fun _ => 0, fun _ => 0⟩ "grant_text" 3 fn_grant_text := ⟨_, _, _, ok_grant_text (toFun F_grant_text) c_body_text c_role_text, G_grant_text, F_grant_text.kp, B_grant_text⟩
  have c_numbers_in : Cal P w K mg base ⟨K, fun _ => 0, fun _ => 0⟩ "numbers_in" 1 fn_numbers_in := ⟨_, _, _, ok_numbers_in (toFun F_numbers_in) b_all b_int b_len b_tuple g_FIGURES, G_numbers_in, F_numbers_in.kp, B_numbers_in⟩
  have c_check_words : Cal P w K mg base ⟨K, fun _ => 0, fun _ => 0⟩ "check_words" 1 fn_check_words := ⟨_, _, _, ok_check_words (toFun F_check_words) b_len, G_check_words, F_check_words.kp, B_check_words⟩
  have c_body_in : Cal P w K mg base ⟨K, fun _ => 0, fun _ => 0⟩ "body_in" 2 fn_body_in := ⟨_, _, _, ok_body_in (toFun F_body_in) b_len g_MOST_WORDS c_check_words c_numbers_in, G_body_in, F_body_in.kp, B_body_in⟩
  have c_grant_in : Cal P w K mg base ⟨K, fun _ => 0, fun _ => 0⟩ "grant_in" 3 fn_grant_in := ⟨_, _, _, ok_grant_in (toFun F_grant_in) g_MOST_WORDS c_body_in c_check_words c_numbers_in, G_grant_in, F_grant_in.kp, B_grant_in⟩
  have c_read_grant : Cal P w K mg base ⟨K, fun _ => 0, fun _ => 0⟩ "read_grant" 4 fn_read_grant := ⟨_, _, _, ok_read_grant (toFun F_read_grant) b_isinstance b_str c_grant_in c_words_of, G_read_grant, F_read_grant.kp, B_read_grant⟩
  have c_law_deck : Cal P w K mg base ⟨K, fun _ => 0, fun _ => 0⟩ "_law_deck" 1 fn_law_deck := ⟨_, _, _, ok_law_deck (toFun F_law_deck) b_abs b_int b_len, G_law_deck, F_law_deck.kp, B_law_deck⟩
  have c_law_take : Cal P w K mg base ⟨K, fun _ => 0, fun _ => 0⟩ "_law_take" 1 fn_law_take := ⟨_, _, _, ok_law_take (toFun F_law_take) b_int, G_law_take, F_law_take.kp, B_law_take⟩
  have c_law_role : Cal P w K mg base ⟨K, fun _ => 0, fun _ => 0⟩ "_law_role" 2 fn_law_role := ⟨_, _, _, ok_law_role (toFun F_law_role) c_law_take, G_law_role, F_law_role.kp, B_law_role⟩
  have c_law_grant : Cal P w K mg base ⟨K, fun _ => 0, fun _ => 0⟩ "_law_grant" 3 fn_law_grant := ⟨_, _, _, ok_law_grant (toFun F_law_grant) b_max b_min c_law_role c_law_take, G_law_grant, F_law_grant.kp, B_law_grant⟩
  have c_law_role_text : Cal P w K mg base ⟨K, fun _ => 0, fun _ => 0⟩ "_law_role_text" 1 fn_law_role_text := ⟨_, _, _, ok_law_role_text (toFun F_law_role_text) b_str, G_law_role_text, F_law_role_text.kp, B_law_role_text⟩
  have c_law_grant_text : Cal P w K mg base ⟨K, fun _ => 0, fun _ => 0⟩ "_law_grant_text" 2 fn_law_grant_text := ⟨_, _, _, ok_law_grant_text (toFun F_law_grant_text) b_str c_law_role_text, G_law_grant_text, F_law_grant_text.kp, B_law_grant_text⟩
  exact ok_law (toFun F_law) b_range b_repr c_law_deck c_law_grant c_law_grant_text c_law_take c_grant_text c_read_grant
end T50
open PySem PySem.W PySem.Calls PyProof.Rows
theorem PySem.Challenge.cw_grantsgrow_k50_texts_of_grants_holds : PySem.Challenge.rw_grantsgrow_k50_texts_of_grants.Holds := by
  w_on; o_law
  refine HandSHeadRun.head_any (r := OpenLaw.row PySem.Challenge.rw_grantsgrow_k50_texts_of_grants) (q := view (OpenLaw.row PySem.Challenge.rw_grantsgrow_k50_texts_of_grants).prog [22]) (H := T50.hk) (ob := T50.ob) (M := 20000) (loose := T50.loose) (d := HandSHeadRun.topDef (OpenLaw.row PySem.Challenge.rw_grantsgrow_k50_texts_of_grants).prog 22) (kwd := []) T50.ob_eq
    (by kernel_rfl) (fun s => by kernel_rfl) T50.run (by kernel_rfl) (by kernel_rfl) (by kernel_rfl) (by rfl) (by first | assumption | decide +kernel) (by decide +kernel) ⟨rfl, rfl, rfl, rfl, rfl, by decide +kernel⟩ ?hw ?hc
  case hw => w_witness2
  case hc =>
    refine G.walkG (l := PySem.Challenge.rw_grantsgrow_k50_texts_of_grants) (n := 63) (k := 5) (x := "_law_script") (CX := fun w => L2.CX (PySem.Challenge.rw_grantsgrow_k50_texts_of_grants).prog w) rfl (by decide) (by kernel_rfl) ⟨rfl, by decide, by decide⟩ ?F (fun w H s e s' z => G.noCX z)
    intro w mg fa h Y Gm hmg0
    obtain ⟨K, KX, c⟩ := Y
    have hmg : mg ("law" : PySem.Str) = some (.ref fa) := by
      have e : (HandSHeadRun.topDef (OpenLaw.row PySem.Challenge.rw_grantsgrow_k50_texts_of_grants).prog 22).name = ("law" : PySem.Str) := by kernel_rfl
      rw [← e]
      exact hmg0
    obtain ⟨fd, sp, hb, hsp, hF⟩ := T50.facts (P := (PySem.Challenge.rw_grantsgrow_k50_texts_of_grants).prog) (w := w) KX Gm hmg c
    exact ⟨K, fd, sp, KX, hb, hsp, hF⟩

