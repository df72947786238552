import PyProof.Rows.All
import Wide.All
import OpenK.AllK
import Wide.FinOn
import HandS.ForMost
import HandS.ForExc
import HandS.CallSlots
import HandS.Wide
import HandS.TupAny
import HandS.Deep
import HandS.IsInst
import HandS.FStr
import HandS.TupLen
import KE.LtSeq
import KE.DataMinMax
import HandS.RaiseMore
import HandS.ReplaceLit
import HandS.HeadEnd
import HandS.HeadHook4
import HandS.Head2
import HandS.Defaults
import HandS.TupSets
import KE.KeyNested
import HandS.SortOrd
import HandS.Property
import HandS.DictEq
import KE.KDictOf
import KE.KDictCopyH
import HandS.Zip
import KE.GoesEnum
import PyProof.FString5
import HandS.DictComp
import HandS.Style
import HandS.SortInts
import HandS.ExcInit
import HandS.Small
import HandS.OwnIter
import HandS.Conv
import HandS.OwnEq
import PySem.Challenge.RW_grantsgrow_k04_holders
section
set_option Elab.async false
set_option linter.all false
set_option maxRecDepth 100000
set_option maxHeartbeats 2000000
/-! G1: plain data, what stands for them, the state's relation -/
namespace G
open PySem L2

inductive D where
  | non | bl (b : Bool) | int (i : Int) | str (x : Str)
  | tup (xs : List D) | lst (xs : List D) | dic (ks vs : List D) | ins (c : Nat) (ns : List Str) (vs : List D)
  | ref (i : Nat) | fn (i : Nat) | scr (xs : List D) | ktp (xs : List D) | ty (n : String) | cl (c : Nat)
  deriving Inhabited
inductive Ob where
  | lst (xs : List D) | dic (ks vs : List D) | ins (c : Nat) (ns : List Str) (vs : List D)
  deriving Inhabited
abbrev Sto := List Ob
structure Bas where
  K : PySem.W.Frag
  cls : Nat → Addr
  fn : Nat → Addr
structure Mp where
  mu : Nat → Addr
  n : Nat
  Z : Hp
def Mp.out (m : Mp) (a : Addr) : Prop := ∀ i, i < m.n → m.mu i ≠ a
def KTup (K : PySem.W.Frag) (a : Addr) (vs : List V) : Prop := SqT K (fun _ => none) a vs
def KLst (K : PySem.W.Frag) (a : Addr) (vs : List V) : Prop := SqL K (fun _ => none) a vs
def TupAt (m : Mp) (a : Addr) (vs : List V) : Prop := m.Z a = some (.tup vs) ∧ m.out a
def LstAt (m : Mp) (a : Addr) (vs : List V) : Prop := m.Z a = some (.lst vs) ∧ m.out a
def ScrAt (B : Bas) (m : Mp) (a : Addr) (vs : List V) : Prop := (Rd m.Z a (.lst vs) ∧ m.out a) ∨ KLst B.K a vs
def keyD : D → Option Key
  | .int i => some (.inl i)
  | .str x => some (.inr x)
  | _ => none
def keysD : List D → Option (List Key)
  | [] => some []
  | d :: r => match keyD d, keysD r with
    | some k, some ks => some (k :: ks)
    | _, _ => none
def tkeyD : D → Option (List Key)
  | .tup ds => keysD ds
  | _ => none
def tkeysD : List D → Option (List (List Key))
  | [] => some []
  | d :: r => match tkeyD d, tkeysD r with
    | some k, some ks => some (k :: ks)
    | _, _ => none
/-- a dict's object: by its keys and its values' list -/
def DicAt (o : Option HO) (ks : List D) (vs : List V) : Prop :=
  ks.length = vs.length ∧ ((∃ q, ks ≠ [] ∧ keysD ks = some q ∧ o = some (.dK (q.zip vs))) ∨ ∃ q, tkeysD ks = some q ∧ o = some (.dT (q.zip vs)))
mutual
def Rep (B : Bas) (m : Mp) : D → V → Prop
  | .non, v => v = .non
  | .bl b, v => v = .bl b
  | .int i, v => v = .int i
  | .str x, v => v = .str x
  | .tup ds, v => ∃ a vs, v = .ref a ∧ TupAt m a vs ∧ Reps B m ds vs
  | .lst ds, v => ∃ a vs, v = .ref a ∧ LstAt m a vs ∧ Reps B m ds vs
  | .dic ks ds, v => ∃ a vs, v = .ref a ∧ m.out a ∧ DicAt (m.Z a) ks vs ∧ Reps B m ds vs
  | .ins c ns ds, v => ∃ a dx vs, v = .ref a ∧ m.out a ∧ m.Z a = some (.ins (B.cls c) dx (ns.zip vs)) ∧ ns.length = vs.length ∧ Reps B m ds vs
  | .ref i, v => i < m.n ∧ v = .ref (m.mu i)
  | .fn i, v => v = .ref (B.fn i)
  | .ty n, v => v = .ty n
  | .cl c, v => v = .ref (B.cls c)
  | .scr ds, v => ∃ a vs, v = .ref a ∧ ScrAt B m a vs ∧ Reps B m ds vs
  | .ktp ds, v => ∃ a vs, v = .ref a ∧ KTup B.K a vs ∧ Reps B m ds vs
def Reps (B : Bas) (m : Mp) : List D → List V → Prop
  | [], vs => vs = []
  | d :: ds, vs => ∃ v r, vs = v :: r ∧ Rep B m d v ∧ Reps B m ds r
end
def ObR (B : Bas) (m : Mp) (a : Addr) : Ob → Prop
  | .lst ds => ∃ vs, m.Z a = some (.lst vs) ∧ Reps B m ds vs
  | .dic ks ds => ∃ vs, DicAt (m.Z a) ks vs ∧ Reps B m ds vs
  | .ins c ns ds => ∃ dx vs, m.Z a = some (.ins (B.cls c) dx (ns.zip vs)) ∧ ns.length = vs.length ∧ Reps B m ds vs
structure Cor (B : Bas) (m : Mp) (S : Sto) : Prop where
  n : m.n = S.length
  ob : ∀ i o, S[i]? = some o → ObR B m (m.mu i) o
  inj : ∀ i j, i < m.n → j < m.n → m.mu i = m.mu j → i = j
def Sub (m : Mp) (H : Hp) : Prop := ∀ a o, m.Z a = some o → H a = some o
structure Kp (m m' : Mp) : Prop where
  le : m.n ≤ m'.n
  mu : ∀ i, i < m.n → m'.mu i = m.mu i
  keep : ∀ a o, m.Z a = some o → m.out a → m'.Z a = some o ∧ m'.out a
structure Le (m : Mp) (H : Hp) (m' : Mp) (H' : Hp) : Prop extends Kp m m' where
  fr : ∀ a o, m.Z a = none → H a = some o → H' a = some o ∧ m'.Z a = none
  sub : Sub m' H'
theorem Kp.trans {m m1 m2 : Mp} (a : Kp m m1) (b : Kp m1 m2) : Kp m m2 where
  le := Nat.le_trans a.le b.le
  mu := fun i h => (b.mu i (Nat.lt_of_lt_of_le h a.le)).trans (a.mu i h)
  keep := fun x o h1 h2 => let ⟨p, q⟩ := a.keep x o h1 h2; b.keep x o p q
theorem Kp.refl (m : Mp) : Kp m m := ⟨Nat.le_refl _, fun _ _ => rfl, fun _ _ z o => ⟨z, o⟩⟩
theorem Le.refl {m : Mp} {H : Hp} (h : Sub m H) : Le m H m H := ⟨Kp.refl m, fun _ _ z o => ⟨o, z⟩, h⟩
theorem Le.trans {m m1 m2 : Mp} {H H1 H2 : Hp} (a : Le m H m1 H1) (b : Le m1 H1 m2 H2) : Le m H m2 H2 where
  toKp := a.toKp.trans b.toKp
  fr := fun x o h1 h2 => let ⟨p, q⟩ := a.fr x o h1 h2; b.fr x o q p
  sub := b.sub

theorem KTup.sq {K : PySem.W.Frag} {H : Hp} {a : Addr} {vs : List V} (h : KTup K a vs) : SqT K H a vs := by
  rcases h with (h | ⟨o, h⟩) | h
  · cases h
  · cases h
  · exact .inr h
theorem KLst.sq {K : PySem.W.Frag} {H : Hp} {a : Addr} {vs : List V} (h : KLst K a vs) : SqL K H a vs := by
  rcases h with (h | ⟨o, h⟩) | h
  · cases h
  · cases h
  · exact .inr h
section
variable {B : Bas} {m m' : Mp} {H H' : Hp}
theorem Rd.sub {Z : Hp} {a : Addr} {u : HO} (s : ∀ o, Z a = some o → H a = some o) (h : Rd Z a u) : Rd H a u := by
  rcases h with h | ⟨o, h⟩
  · exact .inl (s _ h)
  · exact .inr ⟨o, s _ h⟩
theorem TupAt.sq {a : Addr} {vs : List V} (s : Sub m H) (h : TupAt m a vs) : SqT B.K H a vs := .inl (.inl (s a _ h.1))
theorem LstAt.sq {a : Addr} {vs : List V} (s : Sub m H) (h : LstAt m a vs) : SqL B.K H a vs := .inl (.inl (s a _ h.1))
theorem ScrAt.sq {a : Addr} {vs : List V} (s : Sub m H) (h : ScrAt B m a vs) : SqL B.K H a vs := by
  rcases h with ⟨h, _⟩ | h
  · exact .inl (Rd.sub (s a) h)
  · exact h.sq
theorem rd_keep (l : Kp m m') {a : Addr} {u : HO} (h : Rd m.Z a u) (o : m.out a) : Rd m'.Z a u ∧ m'.out a := by
  rcases h with h | ⟨x, h⟩
  · exact ⟨.inl (l.keep _ _ h o).1, (l.keep _ _ h o).2⟩
  · exact ⟨.inr ⟨x, (l.keep _ _ h o).1⟩, (l.keep _ _ h o).2⟩
theorem TupAt.mono (l : Kp m m') {a : Addr} {vs : List V} (h : TupAt m a vs) : TupAt m' a vs := l.keep _ _ h.1 h.2
theorem LstAt.mono (l : Kp m m') {a : Addr} {vs : List V} (h : LstAt m a vs) : LstAt m' a vs := l.keep _ _ h.1 h.2
theorem ScrAt.mono (l : Kp m m') {a : Addr} {vs : List V} (h : ScrAt B m a vs) : ScrAt B m' a vs := by
  rcases h with ⟨h, o⟩ | h
  · exact .inl (rd_keep l h o)
  · exact .inr h
theorem DicAt.some {o : Option HO} {ks : List D} {vs : List V} (h : DicAt o ks vs) : ∃ u, o = some u := by
  rcases h with ⟨_, ⟨q, _, _, e⟩ | ⟨q, _, e⟩⟩
  · exact ⟨_, e⟩
  · exact ⟨_, e⟩
mutual
theorem Rep.monoK (l : Kp m m') : ∀ {d : D} {v : V}, Rep B m d v → Rep B m' d v
  | .non, _, h => by simpa only [Rep] using h
  | .bl _, _, h => by simpa only [Rep] using h
  | .int _, _, h => by simpa only [Rep] using h
  | .str _, _, h => by simpa only [Rep] using h
  | .tup ds, v, h => by
    simp only [Rep] at h ⊢
    obtain ⟨a, vs, e, t, r⟩ := h
    exact ⟨a, vs, e, t.mono l, Reps.monoK l r⟩
  | .lst ds, v, h => by
    simp only [Rep] at h ⊢
    obtain ⟨a, vs, e, t, r⟩ := h
    exact ⟨a, vs, e, t.mono l, Reps.monoK l r⟩
  | .dic ks ds, v, h => by
    simp only [Rep] at h ⊢
    obtain ⟨a, vs, e, o, t, r⟩ := h
    obtain ⟨u, hu⟩ := t.some
    obtain ⟨k1, k2⟩ := l.keep a u hu o
    exact ⟨a, vs, e, k2, by rw [k1, ← hu]; exact t, Reps.monoK l r⟩
  | .ins c ns ds, v, h => by
    simp only [Rep] at h ⊢
    obtain ⟨a, dx, vs, e, o, t, n, r⟩ := h
    obtain ⟨k1, k2⟩ := l.keep a _ t o
    exact ⟨a, dx, vs, e, k2, k1, n, Reps.monoK l r⟩
  | .ref i, v, h => by
    simp only [Rep] at h ⊢
    exact ⟨Nat.lt_of_lt_of_le h.1 l.le, by rw [l.mu i h.1]; exact h.2⟩
  | .fn _, _, h => by simpa only [Rep] using h
  | .ty _, _, h => by simpa only [Rep] using h
  | .cl _, _, h => by simpa only [Rep] using h
  | .scr ds, v, h => by
    simp only [Rep] at h ⊢
    obtain ⟨a, vs, e, t, r⟩ := h
    exact ⟨a, vs, e, t.mono l, Reps.monoK l r⟩
  | .ktp ds, v, h => by
    simp only [Rep] at h ⊢
    obtain ⟨a, vs, e, t, r⟩ := h
    exact ⟨a, vs, e, t, Reps.monoK l r⟩
theorem Reps.monoK (l : Kp m m') : ∀ {ds : List D} {vs : List V}, Reps B m ds vs → Reps B m' ds vs
  | [], _, h => by simpa only [Reps] using h
  | d :: ds, _, h => by
    simp only [Reps] at h ⊢
    obtain ⟨v, r, e, p, q⟩ := h
    exact ⟨v, r, e, Rep.monoK l p, Reps.monoK l q⟩
end
theorem ObR.monoK (l : Kp m m') {a a' : Addr} (hz : m'.Z a' = m.Z a) {o : Ob} (h : ObR B m a o) : ObR B m' a' o := by
  cases o with
  | lst ds => obtain ⟨vs, e, r⟩ := h; exact ⟨vs, hz.trans e, r.monoK l⟩
  | dic ks ds => obtain ⟨vs, e, r⟩ := h; exact ⟨vs, by rw [hz]; exact e, r.monoK l⟩
  | ins c ns ds => obtain ⟨dx, vs, e, n, r⟩ := h; exact ⟨dx, vs, hz.trans e, n, r.monoK l⟩
theorem ObR.some {a : Addr} {o : Ob} (h : ObR B m a o) : ∃ u, m.Z a = some u := by
  cases o with
  | lst ds => obtain ⟨vs, e, r⟩ := h; exact ⟨_, e⟩
  | dic ks ds => obtain ⟨vs, e, r⟩ := h; exact e.some
  | ins c ns ds => obtain ⟨dx, vs, e, n, r⟩ := h; exact ⟨_, e⟩
theorem Rep.mono (l : Le m H m' H') {d : D} {v : V} (h : Rep B m d v) : Rep B m' d v := Rep.monoK l.toKp h
theorem Reps.mono (l : Le m H m' H') {d : List D} {v : List V} (h : Reps B m d v) : Reps B m' d v := Reps.monoK l.toKp h
theorem ObR.mono (l : Le m H m' H') {a a' : Addr} (hz : m'.Z a' = m.Z a) {o : Ob} (h : ObR B m a o) : ObR B m' a' o := ObR.monoK l.toKp hz h
/-- the store's objects stand as they were -/
theorem Cor.same {S : Sto} (c : Cor B m S) (l : Le m H m' H') (hn : m'.n = m.n) (hz : ∀ i, i < m.n → m'.Z (m.mu i) = m.Z (m.mu i)) : Cor B m' S where
  n := hn.trans c.n
  ob := fun i o e => by
    have hi : i < m.n := by rw [c.n]; exact (List.getElem?_eq_some_iff.mp e).1
    rw [l.mu i hi]
    exact (c.ob i o e).mono l (hz i hi)
  inj := fun i j hi hj e => by
    rw [hn] at hi hj
    rw [l.mu i hi, l.mu j hj] at e
    exact c.inj i j hi hj e
theorem Cor.at {S : Sto} (c : Cor B m S) {i : Nat} (hi : i < m.n) : ∃ u, m.Z (m.mu i) = some u := by
  have h : i < S.length := by rw [← c.n]; exact hi
  exact (c.ob i _ (List.getElem?_eq_getElem h)).some
theorem Cor.out_of {S : Sto} (c : Cor B m S) {a : Addr} (h : m.Z a = none) : m.out a := fun i hi e => by
  obtain ⟨u, hu⟩ := c.at hi
  rw [e, h] at hu
  cases hu
theorem Sub.none (s : Sub m H) {a : Addr} (h : H a = none) : m.Z a = none := by
  cases e : m.Z a with
  | none => rfl
  | some o => rw [s a o e] at h; cases h
/-- a new object, frozen -/
def Mp.put (m : Mp) (p : Addr) (o : HO) : Mp := { m with Z := upd m.Z p o }
theorem Le.new {S : Sto} {p : Addr} {o : HO} (c : Cor B m S) (s : Sub m H) (h : H p = none) : Le m H (m.put p o) (upd H p o) where
  le := Nat.le_refl _
  mu := fun _ _ => rfl
  keep := fun a u e q => ⟨by show upd m.Z p o a = _; rw [upd_ne (ne_of_none e (s.none h))]; exact e, q⟩
  fr := fun a u e q => by
    have ne : a ≠ p := ne_of_none q h
    exact ⟨by rw [upd_ne ne]; exact q, by show upd m.Z p o a = _; rw [upd_ne ne]; exact e⟩
  sub := fun a u e => by
    by_cases ha : a = p
    · subst ha
      have e' : upd m.Z a o a = some u := e
      rw [upd_same] at e' ⊢
      exact e'
    · have e' : upd m.Z p o a = some u := e
      rw [upd_ne ha] at e' ⊢
      exact s a u e'
theorem Cor.new {S : Sto} {p : Addr} {o : HO} (c : Cor B m S) (s : Sub m H) (h : H p = none) : Cor B (m.put p o) S :=
  c.same (Le.new (o := o) c s h) rfl fun i hi => by
    obtain ⟨u, hu⟩ := c.at hi
    show upd m.Z p o (m.mu i) = _
    rw [upd_ne (ne_of_none hu (s.none h))]
/-- what was tracked, outside of Z, too: a frame's part is taken over as frozen -/
theorem Le.take {S : Sto} {p : Addr} {o : HO} (c : Cor B m S) (s : Sub m H) (hz : m.Z p = none) (h : H p = some o) : Sub (m.put p o) H := fun a u e => by
  by_cases ha : a = p
  · subst ha
    have e' : upd m.Z a o a = some u := e
    rw [upd_same] at e'
    cases e'
    exact h
  · have e' : upd m.Z p o a = some u := e
    rw [upd_ne ha] at e'
    exact s a u e'
end
abbrev En := List (Option D)
def EnR (B : Bas) (m : Mp) (en : En) (σ : St) : Prop := en.length = σ.length ∧ ∀ (i : Nat) (d : D), en[i]? = some (some d) → ∃ v, σ[i]? = some (some v) ∧ Rep B m d v
theorem EnR.mono {B : Bas} {m m' : Mp} {H H' : Hp} {en : En} {σ : St} (l : Le m H m' H') (h : EnR B m en σ) : EnR B m' en σ :=
  ⟨h.1, fun i d e => let ⟨v, a, b⟩ := h.2 i d e; ⟨v, a, b.mono l⟩⟩
theorem EnR.set {B : Bas} {m : Mp} {en : En} {σ : St} {d : D} {v : V} (i : Nat) (h : EnR B m en σ) (r : Rep B m d v) : EnR B m (en.set i (some d)) (σ.set i (some v)) := by
  refine ⟨by rw [List.length_set, List.length_set, h.1], fun j x e => ?_⟩
  by_cases hj : i = j
  · subst hj
    have hi : i < en.length := by
      have := (List.getElem?_eq_some_iff.mp e).1
      rwa [List.length_set] at this
    rw [List.getElem?_set_self hi] at e
    cases e
    exact ⟨v, by rw [List.getElem?_set_self (by rw [← h.1]; exact hi)], r⟩
  · rw [List.getElem?_set_ne hj] at e
    rw [List.getElem?_set_ne hj]
    exact h.2 j x e

/-! ### results -/
inductive Res (α : Type) where
  | ok (a : α) (S : Sto)
  | ex (c : Nat) (ns : List Str) (vs : List D) (S : Sto)
  | bad
def Res.bind {α β : Type} (r : Res α) (k : α → Sto → Res β) : Res β := match r with
  | .ok a S => k a S
  | .ex c ns vs S => .ex c ns vs S
  | .bad => .bad
@[simp] theorem Res.bind_ok {α β : Type} (a : α) (S : Sto) (k : α → Sto → Res β) : (Res.ok a S).bind k = k a S := rfl
@[simp] theorem Res.bind_ex {α β : Type} (c : Nat) (ns : List Str) (vs : List D) (S : Sto) (k : α → Sto → Res β) : (Res.ex c ns vs S : Res α).bind k = .ex c ns vs S := rfl
@[simp] theorem Res.bind_bad {α β : Type} (k : α → Sto → Res β) : (Res.bad : Res α).bind k = .bad := rfl
/-- an exception's own dict -/
def ExR (B : Bas) (m : Mp) (ns : List Str) (vs : List D) (dd : Option Addr) : Prop :=
  (ns = [] ∧ vs = [] ∧ dd = none) ∨ ∃ a us, dd = some a ∧ m.Z a = some (.xd (ns.zip us)) ∧ m.out a ∧ ns.length = us.length ∧ Reps B m vs us
def Post {α β : Type} (B : Bas) (R : Mp → α → β → Prop) (W : XK) (m : Mp) (H : Hp) (Q : β → Hp → Prop) (r : Res α) : Prop := match r with
  | .ok a S' => ∀ m' H' v, Le m H m' H' → Cor B m' S' → R m' a v → Q v H'
  | .ex c ns vs S' => ∀ m' H' dd, Le m H m' H' → Cor B m' S' → ExR B m' ns vs dd → W (.ref (B.cls c)) dd H'
  | .bad => False
section
variable {α β γ δ : Type} {B : Bas} {R : Mp → α → β → Prop} {R2 : Mp → γ → δ → Prop} {W : XK} {m m1 : Mp} {H H1 : Hp} {Q Q' : β → Hp → Prop} {r : Res α}
theorem Post.imp (h : Post B R W m H Q r) (f : ∀ v H', Q v H' → Q' v H') : Post B R W m H Q' r := by
  cases r with
  | ok a S => exact fun m' H' v l c x => f _ _ (h m' H' v l c x)
  | ex c ns vs S => exact h
  | bad => exact h
theorem Post.shift (l : Le m H m1 H1) (h : Post B R W m H Q r) : Post B R W m1 H1 Q r := by
  cases r with
  | ok a S => exact fun m' H' v l' c x => h m' H' v (l.trans l') c x
  | ex c ns vs S => exact fun m' H' dd l' c x => h m' H' dd (l.trans l') c x
  | bad => exact h
theorem Post.bind {Q2 : δ → Hp → Prop} {k : α → Sto → Res γ} (h : Post B R2 W m H Q2 (r.bind k)) :
    Post B R W m H (fun v H1 => ∃ a S m1, r = .ok a S ∧ Le m H m1 H1 ∧ Cor B m1 S ∧ R m1 a v ∧ Post B R2 W m1 H1 Q2 (k a S)) r := by
  cases r with
  | ok a S => exact fun m' H' v l c x => ⟨a, S, m', rfl, l, c, x, Post.shift l h⟩
  | ex c ns vs S => exact h
  | bad => exact h
end
/-! ### readings by data -/
abbrev ME := En → Sto → Res D
abbrev MT := En → Sto → Res Bool
abbrev MA := En → Sto → Res (List D)
/-- at the slots σ -/
abbrev at' (W : WX) (σ : St) : XK := fun c d H => W c d σ H
def RT : Mp → Bool → Bool → Prop := fun _ a b => a = b
def tE (B : Bas) (W : WX) (e : ME) : TE := fun σ H Q => ∃ m S en, Sub m H ∧ Cor B m S ∧ EnR B m en σ ∧ Post B (Rep B) (at' W σ) m H Q (e en S)
def tT (B : Bas) (W : WX) (e : MT) : TT := fun σ H Q => ∃ m S en, Sub m H ∧ Cor B m S ∧ EnR B m en σ ∧ Post B RT (at' W σ) m H Q (e en S)
def tA (B : Bas) (W : WX) (e : MA) : TA := fun σ H Q => ∃ m S en, Sub m H ∧ Cor B m S ∧ EnR B m en σ ∧ Post B (Reps B) (at' W σ) m H Q (e en S)
theorem PE.cut {X : Cx} {e : Expr} {t t' : TE} (h : PE X e t) (f : ∀ σ H Q, t' σ H Q → t σ H Q) : PE X e t' := ⟨fun pins s σ H Q I q => h.run pins s σ H Q I (f σ H Q q)⟩
theorem PT.cut {X : Cx} {e : Expr} {t t' : TT} (h : PT X e t) (f : ∀ σ H Q, t' σ H Q → t σ H Q) : PT X e t' := ⟨fun pins s σ H Q I q => h.run pins s σ H Q I (f σ H Q q)⟩
theorem PA.cut {X : Cx} {e : List Expr} {t t' : TA} (h : PA X e t) (f : ∀ σ H Q, t' σ H Q → t σ H Q) : PA X e t' := ⟨fun pos pins s σ H Q I q => h.run pos pins s σ H Q I (f σ H Q q)⟩
theorem PS.cut {X : Cx} {e : Stmt} {t t' : TS} (h : PS X e t) (f : ∀ D σ H, t' D σ H → t D σ H) : PS X e t' := ⟨fun pins s σ H D I q => h.run pins s σ H D I (f D σ H q)⟩
theorem PSs.cut {X : Cx} {e : List Stmt} {t t' : TS} (h : PSs X e t) (f : ∀ D σ H, t' D σ H → t D σ H) : PSs X e t' := ⟨fun pins s σ H D I q => h.run pins s σ H D I (f D σ H q)⟩
end G
end
section
set_option Elab.async false
set_option linter.all false
set_option maxRecDepth 100000
set_option maxHeartbeats 2000000
/-! G2: expressions -/
namespace G
open PySem L2
theorem Le.self {B : Bas} {m : Mp} {H : Hp} {S : Sto} (h : Sub m H) : Le m H m H := Le.refl h
/-! ### views -/
def seqT : D → Option (List D)
  | .tup ds => some ds
  | .ktp ds => some ds
  | _ => none
def seqL (S : Sto) : D → Option (List D)
  | .lst ds => some ds
  | .scr ds => some ds
  | .ref i => match S[i]? with
    | some (.lst ds) => some ds
    | _ => none
  | _ => none
/-- a list that stands plainly: no script -/
def plL (S : Sto) : D → Option (List D)
  | .lst ds => some ds
  | .ref i => match S[i]? with
    | some (.lst ds) => some ds
    | _ => none
  | _ => none
def dicOf (S : Sto) : D → Option (List D × List D)
  | .dic ks ds => some (ks, ds)
  | .ref i => match S[i]? with
    | some (.dic ks ds) => some (ks, ds)
    | _ => none
  | _ => none
def insOf (S : Sto) : D → Option (Nat × List Str × List D)
  | .ins c ns ds => some (c, ns, ds)
  | .ref i => match S[i]? with
    | some (.ins c ns ds) => some (c, ns, ds)
    | _ => none
  | _ => none
section
variable {B : Bas} {m m' : Mp} {H H' : Hp} {S : Sto}
theorem Reps.length : ∀ {ds : List D} {vs : List V}, Reps B m ds vs → ds.length = vs.length
  | [], _, h => by simp only [Reps] at h; rw [h]; rfl
  | d :: ds, _, h => by
    simp only [Reps] at h
    obtain ⟨v, r, rfl, _, q⟩ := h
    simp only [List.length_cons, Reps.length q]
theorem Reps.get : ∀ {ds : List D} {vs : List V} {i : Nat} {d : D}, Reps B m ds vs → ds[i]? = some d → ∃ v, vs[i]? = some v ∧ Rep B m d v
  | [], _, _, _, _, e => by simp at e
  | d :: ds, _, 0, x, h, e => by
    simp only [Reps] at h
    obtain ⟨v, r, rfl, p, q⟩ := h
    simp at e
    subst e
    exact ⟨v, rfl, p⟩
  | d :: ds, _, i + 1, x, h, e => by
    simp only [Reps] at h
    obtain ⟨v, r, rfl, p, q⟩ := h
    obtain ⟨w, a, b⟩ := Reps.get (i := i) (d := x) q (by simpa using e)
    exact ⟨w, by simpa using a, b⟩
theorem Reps.append : ∀ {ds es : List D} {vs us : List V}, Reps B m ds vs → Reps B m es us → Reps B m (ds ++ es) (vs ++ us)
  | [], es, vs, us, h, q => by
    simp only [Reps] at h
    subst h
    exact q
  | d :: ds, es, vs, us, h, q => by
    simp only [Reps] at h
    obtain ⟨v, r, rfl, p, t⟩ := h
    show Reps B m (d :: (ds ++ es)) (v :: (r ++ us))
    simp only [Reps]
    exact ⟨v, _, rfl, p, Reps.append t q⟩
theorem Reps.take : ∀ {ds : List D} {vs : List V} (n : Nat), Reps B m ds vs → Reps B m (ds.take n) (vs.take n)
  | [], vs, n, h => by
    simp only [Reps] at h
    subst h
    simp [Reps]
  | d :: ds, vs, 0, h => by simp [Reps]
  | d :: ds, vs, n + 1, h => by
    simp only [Reps] at h
    obtain ⟨v, r, rfl, p, t⟩ := h
    simp only [List.take_succ_cons, Reps]
    exact ⟨v, _, rfl, p, Reps.take n t⟩
theorem Reps.drop : ∀ {ds : List D} {vs : List V} (n : Nat), Reps B m ds vs → Reps B m (ds.drop n) (vs.drop n)
  | [], vs, n, h => by
    simp only [Reps] at h
    subst h
    simp [Reps]
  | d :: ds, vs, 0, h => h
  | d :: ds, vs, n + 1, h => by
    simp only [Reps] at h
    obtain ⟨v, r, rfl, p, t⟩ := h
    exact Reps.drop n t
theorem Reps.nil_iff {ds : List D} {vs : List V} (h : Reps B m ds vs) : vs = [] ↔ ds = [] := by
  have := h.length
  constructor
  · intro e; subst e; simpa using this
  · intro e; subst e
    simp only [List.length_nil] at this
    exact List.eq_nil_of_length_eq_zero this.symm
theorem Reps.cons {d : D} {ds : List D} {v : V} {vs : List V} (a : Rep B m d v) (b : Reps B m ds vs) : Reps B m (d :: ds) (v :: vs) := by
  simp only [Reps]
  exact ⟨v, vs, rfl, a, b⟩
theorem Reps.nil : Reps B m [] [] := by simp only [Reps]
theorem repT {d : D} {ds : List D} {v : V} (s : Sub m H) (r : Rep B m d v) (e : seqT d = some ds) : ∃ a vs, v = .ref a ∧ SqT B.K H a vs ∧ Reps B m ds vs := by
  cases d <;> simp only [seqT] at e <;> try (cases e)
  · simp only [Rep] at r
    obtain ⟨a, vs, e, t, q⟩ := r
    exact ⟨a, vs, e, t.sq s, q⟩
  · simp only [Rep] at r
    obtain ⟨a, vs, e, t, q⟩ := r
    exact ⟨a, vs, e, t.sq, q⟩
theorem repL {d : D} {ds : List D} {v : V} (s : Sub m H) (c : Cor B m S) (r : Rep B m d v) (e : seqL S d = some ds) : ∃ a vs, v = .ref a ∧ SqL B.K H a vs ∧ Reps B m ds vs := by
  cases d <;> simp only [seqL] at e <;> try (cases e)
  · simp only [Rep] at r
    obtain ⟨a, vs, e, t, q⟩ := r
    exact ⟨a, vs, e, t.sq s, q⟩
  · simp only [Rep] at r
    obtain ⟨hi, rfl⟩ := r
    split at e
    · rename_i i x ys hx
      cases e
      obtain ⟨vs, z, q⟩ := c.ob _ _ hx
      exact ⟨_, vs, rfl, .inl (.inl (s _ _ z)), q⟩
    · cases e
  · simp only [Rep] at r
    obtain ⟨a, vs, e, t, q⟩ := r
    exact ⟨a, vs, e, t.sq s, q⟩
theorem repP {d : D} {ds : List D} {v : V} (s : Sub m H) (c : Cor B m S) (r : Rep B m d v) (e : plL S d = some ds) : ∃ a vs, v = .ref a ∧ H a = some (.lst vs) ∧ Reps B m ds vs := by
  cases d <;> simp only [plL] at e <;> try (cases e)
  · simp only [Rep] at r
    obtain ⟨a, vs, e, t, q⟩ := r
    exact ⟨a, vs, e, s _ _ t.1, q⟩
  · simp only [Rep] at r
    obtain ⟨hi, rfl⟩ := r
    split at e
    · rename_i i x ys hx
      cases e
      obtain ⟨vs, z, q⟩ := c.ob _ _ hx
      exact ⟨_, vs, rfl, s _ _ z, q⟩
    · cases e
theorem repD {d : D} {ks ds : List D} {v : V} (s : Sub m H) (c : Cor B m S) (r : Rep B m d v) (e : dicOf S d = some (ks, ds)) : ∃ a vs, v = .ref a ∧ DicAt (H a) ks vs ∧ Reps B m ds vs := by
  have lift : ∀ {a : Addr} {vs : List V}, DicAt (m.Z a) ks vs → DicAt (H a) ks vs := fun {a vs} h => by
    obtain ⟨u, hu⟩ := h.some
    rw [s _ _ hu, ← hu]
    exact h
  cases d <;> simp only [dicOf] at e <;> try (cases e)
  · simp only [Rep] at r
    obtain ⟨a, vs, e, o, t, q⟩ := r
    exact ⟨a, vs, e, lift t, q⟩
  · simp only [Rep] at r
    obtain ⟨hi, rfl⟩ := r
    split at e
    · rename_i i x ys zs hx
      cases e
      obtain ⟨vs, z, q⟩ := c.ob _ _ hx
      exact ⟨_, vs, rfl, lift z, q⟩
    · cases e
theorem repI {d : D} {c' : Nat} {ns : List Str} {ds : List D} {v : V} (s : Sub m H) (c : Cor B m S) (r : Rep B m d v) (e : insOf S d = some (c', ns, ds)) :
    ∃ a dx vs, v = .ref a ∧ H a = some (.ins (B.cls c') dx (ns.zip vs)) ∧ ns.length = vs.length ∧ Reps B m ds vs := by
  cases d <;> simp only [insOf] at e <;> try (cases e)
  · simp only [Rep] at r
    obtain ⟨a, dx, vs, e, o, t, n, q⟩ := r
    exact ⟨a, dx, vs, e, s _ _ t, n, q⟩
  · simp only [Rep] at r
    obtain ⟨hi, rfl⟩ := r
    split at e
    · rename_i i x y ys zs hx
      cases e
      obtain ⟨dx, vs, z, n, q⟩ := c.ob _ _ hx
      exact ⟨_, dx, vs, rfl, s _ _ z, n, q⟩
    · cases e
end
/-! ### data for the library -/
mutual
def pd : D → Option PyData
  | .non => some .none
  | .bl b => some (.bool b)
  | .int i => some (.int i)
  | .str x => some (.str x)
  | .tup ds => (pds ds).map .tuple
  | .ktp ds => (pds ds).map .tuple
  | .lst ds => (pds ds).map .list
  | .scr ds => (pds ds).map .list
  | _ => none
def pds : List D → Option (List PyData)
  | [] => some []
  | d :: r => match pd d, pds r with
    | some p, some q => some (p :: q)
    | _, _ => none
end
def pdv (S : Sto) (d : D) : Option PyData := match seqL S d with
  | some ds => (pds ds).map .list
  | none => pd d
section
variable {B : Bas} {m : Mp} {H : Hp} {S : Sto}
mutual
theorem Rep.dp (s : Sub m H) : ∀ {d : D} {v : V} {p : PyData}, Rep B m d v → pd d = some p → Dp B.K H v p
  | .non, v, p, r, e => by simp only [Rep] at r; simp only [pd] at e; cases e; subst r; exact .non
  | .bl b, v, p, r, e => by simp only [Rep] at r; simp only [pd] at e; cases e; subst r; exact .bl b
  | .int i, v, p, r, e => by simp only [Rep] at r; simp only [pd] at e; cases e; subst r; exact .int i
  | .str x, v, p, r, e => by simp only [Rep] at r; simp only [pd] at e; cases e; subst r; exact .str x
  | .tup ds, v, p, r, e => by
    simp only [Rep] at r
    simp only [pd] at e
    obtain ⟨a, vs, rfl, t, q⟩ := r
    cases h : pds ds with
    | none => rw [h] at e; cases e
    | some ps => rw [h] at e; cases e; exact .tup (t.sq s) (Reps.dp s q h)
  | .ktp ds, v, p, r, e => by
    simp only [Rep] at r
    simp only [pd] at e
    obtain ⟨a, vs, rfl, t, q⟩ := r
    cases h : pds ds with
    | none => rw [h] at e; cases e
    | some ps => rw [h] at e; cases e; exact .tup t.sq (Reps.dp s q h)
  | .lst ds, v, p, r, e => by
    simp only [Rep] at r
    simp only [pd] at e
    obtain ⟨a, vs, rfl, t, q⟩ := r
    cases h : pds ds with
    | none => rw [h] at e; cases e
    | some ps => rw [h] at e; cases e; exact .lst (t.sq s) (Reps.dp s q h)
  | .scr ds, v, p, r, e => by
    simp only [Rep] at r
    simp only [pd] at e
    obtain ⟨a, vs, rfl, t, q⟩ := r
    cases h : pds ds with
    | none => rw [h] at e; cases e
    | some ps => rw [h] at e; cases e; exact .lst (t.sq s) (Reps.dp s q h)
  | .dic _ _, v, p, r, e => by simp [pd] at e
  | .ins _ _ _, v, p, r, e => by simp [pd] at e
  | .ref _, v, p, r, e => by simp [pd] at e
  | .fn _, v, p, r, e => by simp [pd] at e
  | .ty _, v, p, r, e => by simp [pd] at e
  | .cl _, v, p, r, e => by simp [pd] at e
theorem Reps.dp (s : Sub m H) : ∀ {ds : List D} {vs : List V} {ps : List PyData}, Reps B m ds vs → pds ds = some ps → DpAll B.K H vs ps
  | [], vs, ps, r, e => by simp only [Reps] at r; simp only [pds] at e; cases e; subst r; exact .nil
  | d :: ds, vs, ps, r, e => by
    simp only [Reps] at r
    obtain ⟨v, t, rfl, a, b⟩ := r
    simp only [pds] at e
    cases h1 : pd d with
    | none => rw [h1] at e; cases e
    | some p =>
      cases h2 : pds ds with
      | none => rw [h1, h2] at e; cases e
      | some q =>
        rw [h1, h2] at e
        cases e
        exact .cons (Rep.dp s a h1) (Reps.dp s b h2)
end
theorem Rep.dpv {d : D} {v : V} {p : PyData} (s : Sub m H) (c : Cor B m S) (r : Rep B m d v) (e : pdv S d = some p) : Dp B.K H v p := by
  unfold pdv at e
  cases h : seqL S d with
  | none => rw [h] at e; exact r.dp s e
  | some ds =>
    rw [h] at e
    obtain ⟨a, vs, rfl, q, t⟩ := repL s c r h
    cases h2 : pds ds with
    | none => simp only [h2] at e; cases e
    | some ps => simp only [h2] at e; cases e; exact .lst q (t.dp s h2)
end
/-! ### names, constants -/
def mVar (i : Nat) : ME := fun en S => match en[i]? with
  | some (some d) => .ok d S
  | _ => .bad
def mC (d : D) : ME := fun _ S => .ok d S
section
variable {X : Cx} {B : Bas} {W : WX} {e : Expr}
theorem de_var {i : Nat} (h : PE X e (tVar i)) : PE X e (tE B W (mVar i)) := PE.cut h fun σ H Q ⟨m, S, en, s, c, r, p⟩ => by
  unfold mVar at p
  split at p
  · rename_i d hd
    obtain ⟨v, hv, rv⟩ := r.2 i d hd
    exact ⟨v, hv, p m H v (Le.refl s) c rv⟩
  · exact p.elim
theorem de_c {d : D} {v : V} (h : PE X e (tC v)) (r : ∀ m, Rep B m d v) : PE X e (tE B W (mC d)) := PE.cut h fun σ H Q ⟨m, S, en, s, c, _, p⟩ => p m H v (Le.refl s) c (r m)
theorem rp_int {B : Bas} {i : Int} (m : Mp) : Rep B m (.int i) (.int i) := by simp only [Rep]
theorem rp_str {B : Bas} {x : Str} (m : Mp) : Rep B m (.str x) (.str x) := by simp only [Rep]
theorem rp_bl {B : Bas} {b : Bool} (m : Mp) : Rep B m (.bl b) (.bl b) := by simp only [Rep]
theorem rp_non {B : Bas} (m : Mp) : Rep B m .non .non := by simp only [Rep]
theorem de_int {i j pos} : PE X (.Constant (.int i) j pos) (tE B W (mC (.int i))) := de_c pe_int rp_int
theorem de_str {x j pos} : PE X (.Constant (.str x) j pos) (tE B W (mC (.str x))) := de_c pe_str rp_str
theorem de_bl {b j pos} : PE X (.Constant (.bool b) j pos) (tE B W (mC (.bl b))) := de_c pe_bl rp_bl
theorem de_non {j pos} : PE X (.Constant .none j pos) (tE B W (mC .non)) := de_c pe_non rp_non
end
/-! ### operators -/
def mOp (g : Sto → D → D → Option D) (a b : ME) : ME := fun en S => (a en S).bind fun x S1 => (b en S1).bind fun y S2 => match g S2 x y with
  | some d => .ok d S2
  | none => .bad
def Op2 (B : Bas) (r : R2) (g : Sto → D → D → Option D) : Prop := ∀ (m : Mp) (S : Sto) (H : Hp) (x y : V) (d1 d2 d : D), Sub m H → Cor B m S → Rep B m d1 x → Rep B m d2 y → g S d1 d2 = some d →
  ∀ Q : VK, (∀ m' H' v, Le m H m' H' → Cor B m' S → Rep B m' d v → Q v H') → r x y H Q
def Op1 (B : Bas) (r : V → Hp → VK → Prop) (g : Sto → D → Option D) : Prop := ∀ (m : Mp) (S : Sto) (H : Hp) (x : V) (d1 d : D), Sub m H → Cor B m S → Rep B m d1 x → g S d1 = some d →
  ∀ Q : VK, (∀ m' H' v, Le m H m' H' → Cor B m' S → Rep B m' d v → Q v H') → r x H Q
theorem Op2.or {B : Bas} {r r' : R2} {g g' : Sto → D → D → Option D} (h : Op2 B r g) (h' : Op2 B r' g') : Op2 B (fun x y H Q => r x y H Q ∨ r' x y H Q) (fun S a b => match g S a b with
    | some d => some d
    | none => g' S a b) := fun m S H x y d1 d2 d s c r1 r2 e Q q => by
  cases h1 : g S d1 d2 with
  | some z => simp only [h1] at e; cases e; exact .inl (h m S H x y d1 d2 _ s c r1 r2 h1 Q q)
  | none => simp only [h1] at e; exact .inr (h' m S H x y d1 d2 d s c r1 r2 e Q q)
theorem OpR.or {X : Cx} {f : Value → Value → Sem Value} {r r' : R2} (h : OpR X f r) (h' : OpR X f r') : OpR X f (fun x y H Q => r x y H Q ∨ r' x y H Q) := by
  intro pins s σ H x y v u Q I rx ry q
  rcases q with q | q
  · exact h pins s σ H x y v u Q I rx ry q
  · exact h' pins s σ H x y v u Q I rx ry q
theorem tOp_of {B : Bas} {W : WX} {r : R2} {g : Sto → D → D → Option D} {a b : ME} (h : Op2 B r g) (σ : St) (H : Hp) (Q : VK) (t : tE B W (mOp g a b) σ H Q) : tOp r (tE B W a) (tE B W b) σ H Q := by
  obtain ⟨m, S, en, s, c, er, p⟩ := t
  refine ⟨m, S, en, s, c, er, (Post.bind p).imp ?_⟩
  rintro x H1 ⟨d1, S1, m1, _, l1, c1, r1, p1⟩
  refine ⟨m1, S1, en, l1.sub, c1, er.mono l1, (Post.bind p1).imp ?_⟩
  rintro y H2 ⟨d2, S2, m2, _, l2, c2, r2, p2⟩
  cases e : g S2 d1 d2 with
  | none => rw [e] at p2; exact p2.elim
  | some d => rw [e] at p2; exact h m2 S2 H2 x y d1 d2 d l2.sub c2 (r1.mono l2) r2 e Q p2
section
variable {X : Cx} {B : Bas} {W : WX} {e a b : Expr} {pos : Pos} {ma mb : ME} {r : R2} {g : Sto → D → D → Option D}
theorem de_op {op : Operator} (ho : OpR X (binaryOp op) r) (h : Op2 B r g) (ha : PE X a (tE B W ma)) (hb : PE X b (tE B W mb)) : PE X (.BinOp a op b pos) (tE B W (mOp g ma mb)) :=
  PE.cut (pe_op ho ha hb) (tOp_of h)
theorem de_cmp {op : CmpOp} (ho : OpR X (compareOp op) r) (h : Op2 B r g) (ha : PE X a (tE B W ma)) (hb : PE X b (tE B W mb)) (hm : behindInMarks op b = false) : PE X (.Compare a [op] [b] pos) (tE B W (mOp g ma mb)) :=
  PE.cut (pe_cmpR ho ha hb hm) (tOp_of h)
/-- a value as a test -/
def mTest (a : ME) : MT := fun en S => (a en S).bind fun x S1 => match x with
  | .bl k => .ok k S1
  | _ => .bad
theorem tTest_of (σ : St) (H : Hp) (Q : Bool → Hp → Prop) (t : tT B W (mTest ma) σ H Q) : tTest (tE B W ma) σ H Q := by
  obtain ⟨m, S, en, s, c, er, p⟩ := t
  refine ⟨m, S, en, s, c, er, (Post.bind p).imp ?_⟩
  rintro x H1 ⟨d1, S1, m1, _, l1, c1, r1, p1⟩
  cases d1 with
  | bl k =>
    simp only [Rep] at r1
    exact ⟨k, r1, p1 m1 H1 k (Le.refl l1.sub) c1 rfl⟩
  | _ => exact p1.elim
theorem tOp_test {r : R2} (σ : St) (H : Hp) (Q : Bool → Hp → Prop) {ta tb : TE} : tTest (tOp r ta tb) σ H Q = tOp r ta tb σ H (fun x H' => ∃ k, x = .bl k ∧ Q k H') := rfl
theorem dt_cmp {op : CmpOp} (ho : OpR X (compareOp op) r) (h : Op2 B r g) (ha : PE X a (tE B W ma)) (hb : PE X b (tE B W mb)) (hm : behindInMarks op b = false) : PT X (.Compare a [op] [b] pos) (tT B W (mTest (mOp g ma mb))) :=
  PT.cut (pt_cmpR ho ha hb hm) fun σ H Q t => tOp_of (W := W) h σ H _ (tTest_of σ H Q t)
theorem dt_val (h : PE X e (tE B W ma)) (he : ∀ whole, isTrue e X.env whole = (do let v ← whole; standAt e.pos; holding [v] (truthy v)) := by intro _; rfl) : PT X e (tT B W (mTest ma)) :=
  PT.cut (pt_val h he) fun σ H Q t => tTest_of σ H Q t
end
/-! ### and, or, not, if else -/
def mAnd (a b : MT) : MT := fun en S => (a en S).bind fun k S1 => match k with
  | true => b en S1
  | false => .ok false S1
def mOr (a b : MT) : MT := fun en S => (a en S).bind fun k S1 => match k with
  | true => .ok true S1
  | false => b en S1
def mNot (a : MT) : MT := fun en S => (a en S).bind fun k S1 => .ok (!k) S1
def mIf (t : MT) (a b : ME) : ME := fun en S => (t en S).bind fun k S1 => match k with
  | true => a en S1
  | false => b en S1
/-- a test as a value -/
def mOfT (t : MT) : ME := fun en S => (t en S).bind fun k S1 => .ok (.bl k) S1
section
variable {X : Cx} {B : Bas} {W : WX} {e a b : Expr} {es : List Expr} {pos : Pos} {ta tb : MT} {ma mb : ME}
theorem dw_and1 (h : PT X a (tT B W ta)) : PW X (.BoolOp .And [a] pos) (tT B W ta) := pw_and1 h
theorem dw_or1 (h : PT X a (tT B W ta)) : PW X (.BoolOp .Or [a] pos) (tT B W ta) := pw_or1 h
theorem PW.cut {t t' : TT} (h : PW X e t) (f : ∀ σ H Q, t' σ H Q → t σ H Q) : PW X e t' := ⟨fun whole pins s σ H Q I q => h.run whole pins s σ H Q I (f σ H Q q)⟩
theorem dw_and (h : PT X a (tT B W ta)) (h2 : PW X (.BoolOp .And (b :: es) pos) (tT B W tb)) : PW X (.BoolOp .And (a :: b :: es) pos) (tT B W (mAnd ta tb)) :=
  PW.cut (pw_and h h2) fun σ H Q ⟨m, S, en, s, c, er, p⟩ => ⟨m, S, en, s, c, er, (Post.bind p).imp (by
    rintro k H1 ⟨d1, S1, m1, _, l1, c1, r1, p1⟩
    cases r1
    cases k with
    | true => exact iteT ⟨m1, S1, en, l1.sub, c1, er.mono l1, p1⟩
    | false => exact iteF (p1 m1 H1 false (Le.refl l1.sub) c1 rfl))⟩
theorem dw_or (h : PT X a (tT B W ta)) (h2 : PW X (.BoolOp .Or (b :: es) pos) (tT B W tb)) : PW X (.BoolOp .Or (a :: b :: es) pos) (tT B W (mOr ta tb)) :=
  PW.cut (pw_or h h2) fun σ H Q ⟨m, S, en, s, c, er, p⟩ => ⟨m, S, en, s, c, er, (Post.bind p).imp (by
    rintro k H1 ⟨d1, S1, m1, _, l1, c1, r1, p1⟩
    cases r1
    cases k with
    | true => exact iteT (p1 m1 H1 true (Le.refl l1.sub) c1 rfl)
    | false => exact iteF ⟨m1, S1, en, l1.sub, c1, er.mono l1, p1⟩)⟩
theorem dt_not (h : PT X a (tT B W ta)) : PT X (.UnaryOp .Not a pos) (tT B W (mNot ta)) :=
  PT.cut (pt_not h) fun σ H Q ⟨m, S, en, s, c, er, p⟩ => ⟨m, S, en, s, c, er, (Post.bind p).imp (by
    rintro k H1 ⟨d1, S1, m1, _, l1, c1, r1, p1⟩
    cases r1
    exact p1 m1 H1 _ (Le.refl l1.sub) c1 rfl)⟩
theorem de_if {c : Expr} (hc : PT X c (tT B W ta)) (ha : PE X a (tE B W ma)) (hb : PE X b (tE B W mb)) : PE X (.IfExp c a b pos) (tE B W (mIf ta ma mb)) :=
  PE.cut (pe_ifExp hc ha hb) fun σ H Q ⟨m, S, en, s, c, er, p⟩ => ⟨m, S, en, s, c, er, (Post.bind p).imp (by
    rintro k H1 ⟨d1, S1, m1, _, l1, c1, r1, p1⟩
    cases r1
    cases k with
    | true => exact iteT ⟨m1, S1, en, l1.sub, c1, er.mono l1, p1⟩
    | false => exact iteF ⟨m1, S1, en, l1.sub, c1, er.mono l1, p1⟩)⟩
/-- and, or, not as values: all but the last one bools -/
def mAndV (a b : ME) : ME := fun en S => (a en S).bind fun x S1 => match x with
  | .bl true => b en S1
  | .bl false => .ok (.bl false) S1
  | _ => .bad
def mOrV (a b : ME) : ME := fun en S => (a en S).bind fun x S1 => match x with
  | .bl true => .ok (.bl true) S1
  | .bl false => b en S1
  | _ => .bad
def mNotV (a : ME) : ME := fun en S => (a en S).bind fun x S1 => match x with
  | .bl k => .ok (.bl (!k)) S1
  | _ => .bad
theorem de_one {op} (h : PE X a (tE B W ma)) : PE X (.BoolOp op [a] pos) (tE B W ma) := pe_one h
theorem de_and (h : PE X a (tE B W ma)) (h2 : PE X (.BoolOp .And (b :: es) pos) (tE B W mb)) : PE X (.BoolOp .And (a :: b :: es) pos) (tE B W (mAndV ma mb)) :=
  PE.cut (pe_and h h2) fun σ H Q ⟨m, S, en, s, c, er, p⟩ => ⟨m, S, en, s, c, er, (Post.bind p).imp (by
    rintro x H1 ⟨d1, S1, m1, _, l1, c1, r1, p1⟩
    cases d1 with
    | bl k =>
      simp only [Rep] at r1
      cases k with
      | true => exact ⟨true, r1, iteT ⟨m1, S1, en, l1.sub, c1, er.mono l1, p1⟩⟩
      | false => exact ⟨false, r1, iteF (p1 m1 H1 _ (Le.refl l1.sub) c1 (rp_bl _))⟩
    | _ => exact p1.elim)⟩
theorem de_or (h : PE X a (tE B W ma)) (h2 : PE X (.BoolOp .Or (b :: es) pos) (tE B W mb)) : PE X (.BoolOp .Or (a :: b :: es) pos) (tE B W (mOrV ma mb)) :=
  PE.cut (pe_or h h2) fun σ H Q ⟨m, S, en, s, c, er, p⟩ => ⟨m, S, en, s, c, er, (Post.bind p).imp (by
    rintro x H1 ⟨d1, S1, m1, _, l1, c1, r1, p1⟩
    cases d1 with
    | bl k =>
      simp only [Rep] at r1
      cases k with
      | true => exact ⟨true, r1, iteT (p1 m1 H1 _ (Le.refl l1.sub) c1 (rp_bl _))⟩
      | false => exact ⟨false, r1, iteF ⟨m1, S1, en, l1.sub, c1, er.mono l1, p1⟩⟩
    | _ => exact p1.elim)⟩
theorem de_not (h : PE X a (tE B W ma)) : PE X (.UnaryOp .Not a pos) (tE B W (mNotV ma)) :=
  PE.cut (pe_not h) fun σ H Q ⟨m, S, en, s, c, er, p⟩ => ⟨m, S, en, s, c, er, (Post.bind p).imp (by
    rintro x H1 ⟨d1, S1, m1, _, l1, c1, r1, p1⟩
    cases d1 with
    | bl k =>
      simp only [Rep] at r1
      exact ⟨k, r1, p1 m1 H1 _ (Le.refl l1.sub) c1 (rp_bl _)⟩
    | _ => exact p1.elim)⟩
end
/-! ### lists of expressions; displays; calls of built-ins -/
def aNil : MA := fun _ S => .ok [] S
def aCons (a : ME) (r : MA) : MA := fun en S => (a en S).bind fun x S1 => (r en S1).bind fun xs S2 => .ok (x :: xs) S2
def mTup (r : MA) : ME := fun en S => (r en S).bind fun xs S1 => if xs.length ≤ sizeLine then .ok (.tup xs) S1 else .bad
def mLst (r : MA) : ME := fun en S => (r en S).bind fun xs S1 => if xs.length ≤ sizeLine then .ok (.lst xs) S1 else .bad
/-- a new list in the store -/
def mNew (r : MA) : ME := fun en S => (r en S).bind fun xs S1 => if xs.length ≤ sizeLine then .ok (.ref S1.length) (S1 ++ [.lst xs]) else .bad
section
variable {B : Bas} {m : Mp} {H : Hp} {S : Sto}
theorem rp_tup {p : Addr} {ds : List D} {vs : List V} (c : Cor B m S) (s : Sub m H) (h : H p = none) (r : Reps B m ds vs) : Rep B (m.put p (.tup vs)) (.tup ds) (.ref p) := by
  simp only [Rep]
  exact ⟨p, vs, rfl, ⟨upd_same, c.out_of (s.none h)⟩, r.mono (Le.new c s h)⟩
theorem rp_lst {p : Addr} {ds : List D} {vs : List V} (c : Cor B m S) (s : Sub m H) (h : H p = none) (r : Reps B m ds vs) : Rep B (m.put p (.lst vs)) (.lst ds) (.ref p) := by
  simp only [Rep]
  exact ⟨p, vs, rfl, ⟨upd_same, c.out_of (s.none h)⟩, r.mono (Le.new c s h)⟩
/-- a new object in the store -/
def Mp.add (m : Mp) (p : Addr) (o : HO) : Mp := { mu := fun i => if i = m.n then p else m.mu i, n := m.n + 1, Z := upd m.Z p o }
theorem Mp.add_mu {p : Addr} {o : HO} {i : Nat} (h : i < m.n) : (m.add p o).mu i = m.mu i := by
  show (if i = m.n then p else m.mu i) = _
  rw [if_neg (Nat.ne_of_lt h)]
theorem Mp.add_last {p : Addr} {o : HO} : (m.add p o).mu m.n = p := by
  show (if m.n = m.n then p else _) = _
  rw [if_pos rfl]
theorem Le.add {p : Addr} {o : HO} (c : Cor B m S) (s : Sub m H) (h : H p = none) : Le m H (m.add p o) (upd H p o) where
  le := Nat.le_succ _
  mu := fun i hi => Mp.add_mu hi
  keep := fun a u e q => by
    have ne : a ≠ p := ne_of_none e (s.none h)
    refine ⟨by show upd m.Z p o a = _; rw [upd_ne ne]; exact e, fun i hi => ?_⟩
    rcases Nat.lt_succ_iff_lt_or_eq.mp (show i < m.n + 1 from hi) with z | z
    · rw [Mp.add_mu z]; exact q i z
    · rw [z, Mp.add_last]; exact ne.symm
  fr := (Le.new (o := o) c s h).fr
  sub := (Le.new (o := o) c s h).sub
theorem Cor.add {p : Addr} {o : HO} {b : Ob} (c : Cor B m S) (s : Sub m H) (h : H p = none) (r : ObR B (m.add p o) p b) : Cor B (m.add p o) (S ++ [b]) where
  n := by
    rw [List.length_append, List.length_singleton, ← c.n]
    rfl
  ob := fun i x e => by
    by_cases hi : i < S.length
    · rw [List.getElem?_append_left hi] at e
      have hm : i < m.n := by rw [c.n]; exact hi
      rw [Mp.add_mu hm]
      refine (c.ob i x e).mono (Le.add (o := o) c s h) ?_
      obtain ⟨u, hu⟩ := c.at hm
      show upd m.Z p o (m.mu i) = _
      rw [upd_ne (ne_of_none hu (s.none h))]
    · have hi' : S.length ≤ i := Nat.le_of_not_lt hi
      rw [List.getElem?_append_right hi'] at e
      have z : i - S.length = 0 := by
        have := (List.getElem?_eq_some_iff.mp e).1
        simp only [List.length_singleton] at this
        omega
      have hin : i = m.n := by rw [c.n]; omega
      rw [z] at e
      cases e
      rw [hin, Mp.add_last]
      exact r
  inj := fun i j hi hj e => by
    have out := c.out_of (s.none h)
    rcases Nat.lt_succ_iff_lt_or_eq.mp (show i < m.n + 1 from hi) with z | z <;> rcases Nat.lt_succ_iff_lt_or_eq.mp (show j < m.n + 1 from hj) with y | y
    · rw [Mp.add_mu z, Mp.add_mu y] at e; exact c.inj i j z y e
    · rw [Mp.add_mu z, y, Mp.add_last] at e; exact absurd e (out i z)
    · rw [Mp.add_mu y, z, Mp.add_last] at e; exact absurd e.symm (out j y)
    · rw [z, y]
theorem rp_ref {p : Addr} {o : HO} (c : Cor B m S) : Rep B (m.add p o) (.ref S.length) (.ref p) := by
  simp only [Rep]
  refine ⟨by rw [← c.n]; exact Nat.lt_succ_self _, ?_⟩
  rw [← c.n, Mp.add_last]
end
section
variable {X : Cx} {B : Bas} {W : WX} {e : Expr} {es : List Expr} {pos : Pos} {ma : ME} {mr : MA}
theorem da_nil : PA X [] (tA B W aNil) := PA.cut pa_nil fun σ H Q ⟨m, S, en, s, c, er, p⟩ => p m H [] (Le.refl s) c Reps.nil
theorem tCons_of (σ : St) (H : Hp) (Q : List V → Hp → Prop) (t : tA B W (aCons ma mr) σ H Q) : tCons (tE B W ma) (tA B W mr) σ H Q := by
  obtain ⟨m, S, en, s, c, er, p⟩ := t
  refine ⟨m, S, en, s, c, er, (Post.bind p).imp ?_⟩
  rintro x H1 ⟨d1, S1, m1, _, l1, c1, r1, p1⟩
  refine ⟨m1, S1, en, l1.sub, c1, er.mono l1, (Post.bind p1).imp ?_⟩
  rintro xs H2 ⟨ds, S2, m2, _, l2, c2, r2, p2⟩
  exact p2 m2 H2 _ (Le.refl l2.sub) c2 (Reps.cons (r1.mono l2) r2)
theorem da_cons (ha : PE X e (tE B W ma)) (hr : PA X es (tA B W mr)) (he : starEach (e :: es) X.env = (false, eval e X.env) :: starEach es X.env := by rfl) : PA X (e :: es) (tA B W (aCons ma mr)) :=
  PA.cut (pa_cons ha hr he) tCons_of
theorem tTup_of (σ : St) (H : Hp) (Q : VK) (t : tE B W (mTup mr) σ H Q) : tTup (tA B W mr) σ H Q := by
  obtain ⟨m, S, en, s, c, er, p⟩ := t
  refine ⟨m, S, en, s, c, er, (Post.bind p).imp ?_⟩
  rintro xs H1 ⟨ds, S1, m1, _, l1, c1, r1, p1⟩
  split at p1
  · rename_i hl
    exact ⟨by rw [← r1.length]; exact hl, fun q hq => p1 _ _ _ (Le.new c1 l1.sub hq) (Cor.new c1 l1.sub hq) (rp_tup c1 l1.sub hq r1)⟩
  · exact p1.elim
theorem tLst_of (σ : St) (H : Hp) (Q : VK) (t : tE B W (mLst mr) σ H Q) : tLst (tA B W mr) σ H Q := by
  obtain ⟨m, S, en, s, c, er, p⟩ := t
  refine ⟨m, S, en, s, c, er, (Post.bind p).imp ?_⟩
  rintro xs H1 ⟨ds, S1, m1, _, l1, c1, r1, p1⟩
  split at p1
  · rename_i hl
    exact ⟨by rw [← r1.length]; exact hl, fun q hq => p1 _ _ _ (Le.new c1 l1.sub hq) (Cor.new c1 l1.sub hq) (rp_lst c1 l1.sub hq r1)⟩
  · exact p1.elim
theorem tNew_of (σ : St) (H : Hp) (Q : VK) (t : tE B W (mNew mr) σ H Q) : tLst (tA B W mr) σ H Q := by
  obtain ⟨m, S, en, s, c, er, p⟩ := t
  refine ⟨m, S, en, s, c, er, (Post.bind p).imp ?_⟩
  rintro xs H1 ⟨ds, S1, m1, _, l1, c1, r1, p1⟩
  split at p1
  · rename_i hl
    refine ⟨by rw [← r1.length]; exact hl, fun q hq => p1 _ _ _ (Le.add c1 l1.sub hq) (Cor.add c1 l1.sub hq ⟨xs, upd_same, r1.mono (Le.add c1 l1.sub hq)⟩) (rp_ref c1)⟩
  · exact p1.elim
/-- a call of a built-in: by the arguments' data -/
def mCB (g : Sto → List D → Option D) (r : MA) : ME := fun en S => (r en S).bind fun xs S1 => match g S1 xs with
  | some d => .ok d S1
  | none => .bad
def OpN (B : Bas) (r : List V → Hp → VK → Prop) (g : Sto → List D → Option D) : Prop := ∀ (m : Mp) (S : Sto) (H : Hp) (xs : List V) (ds : List D) (d : D), Sub m H → Cor B m S → Reps B m ds xs → g S ds = some d →
  ∀ Q : VK, (∀ m' H' v, Le m H m' H' → Cor B m' S → Rep B m' d v → Q v H') → r xs H Q
theorem tCB_of {r : List V → Hp → VK → Prop} {g : Sto → List D → Option D} (h : OpN B r g) (σ : St) (H : Hp) (Q : VK) (t : tE B W (mCB g mr) σ H Q) : tCB r (tA B W mr) σ H Q := by
  obtain ⟨m, S, en, s, c, er, p⟩ := t
  refine ⟨m, S, en, s, c, er, (Post.bind p).imp ?_⟩
  rintro xs H1 ⟨ds, S1, m1, _, l1, c1, r1, p1⟩
  cases e : g S1 ds with
  | none => rw [e] at p1; exact p1.elim
  | some d => rw [e] at p1; exact h m1 S1 H1 xs ds d l1.sub c1 r1 e Q p1
end
end G
end
section
set_option Elab.async false
set_option linter.all false
set_option maxRecDepth 100000
set_option maxHeartbeats 2000000
/-! G3: statements, loops, defs -/
namespace G
open PySem L2
inductive Fl where
  | nx (en : En) | rt (d : D) | bk (en : En) | ct (en : En)
inductive FlV where
  | nx (σ : St) | rt (v : V) | bk (σ : St) | ct (σ : St)
def RFl (B : Bas) (m : Mp) : Fl → FlV → Prop
  | .nx en, .nx σ => EnR B m en σ
  | .rt d, .rt v => Rep B m d v
  | .bk en, .bk σ => EnR B m en σ
  | .ct en, .ct σ => EnR B m en σ
  | _, _ => False
def qOf (D : Ends) : FlV → Hp → Prop
  | .nx σ, H => D.nx σ H
  | .rt v, H => D.rt v H
  | .bk σ, H => D.bk σ H
  | .ct σ, H => D.ct σ H
abbrev MS := En → Sto → Res Fl
def tS (B : Bas) (W : WX) (f : MS) : TS := fun D σ H => ∃ m S en, Sub m H ∧ Cor B m S ∧ EnR B m en σ ∧ Post B (RFl B) (at' W σ) m H (qOf D) (f en S)
/-- the wish does not look at the slots -/
def WI (W : WX) : Prop := ∀ c d σ σ' H, W c d σ H → W c d σ' H
theorem Post.wx {α β : Type} {B : Bas} {R : Mp → α → β → Prop} {W W' : XK} {m : Mp} {H : Hp} {Q : β → Hp → Prop} {r : Res α} (h : Post B R W m H Q r) (f : ∀ c d H', W c d H' → W' c d H') : Post B R W' m H Q r := by
  cases r with
  | ok a S => exact h
  | ex c ns vs S => exact fun m' H' dd l c x => f _ _ _ (h m' H' dd l c x)
  | bad => exact h
def sNil : MS := fun en S => .ok (.nx en) S
def sSeq (a b : MS) : MS := fun en S => (a en S).bind fun f S1 => match f with
  | .nx en1 => b en1 S1
  | .rt d => .ok (.rt d) S1
  | .bk e => .ok (.bk e) S1
  | .ct e => .ok (.ct e) S1
def sIf (t : MT) (a b : MS) : MS := fun en S => (t en S).bind fun k S1 => match k with
  | true => a en S1
  | false => b en S1
def sRet (e : ME) : MS := fun en S => (e en S).bind fun d S1 => .ok (.rt d) S1
def sRetN : MS := fun _ S => .ok (.rt .non) S
def sDrop (e : ME) : MS := fun en S => (e en S).bind fun _ S1 => .ok (.nx en) S1
abbrev MG := D → En → Option En
def sAsg (e : ME) (g : MG) : MS := fun en S => (e en S).bind fun d S1 => match g d en with
  | some en1 => .ok (.nx en1) S1
  | none => .bad
def sPar (i j : Nat) (r : MA) : MS := fun en S => (r en S).bind fun ds S1 => match ds with
  | [x, y] => .ok (.nx ((en.set i (some x)).set j (some y))) S1
  | _ => .bad
def sBk : MS := fun en S => .ok (.bk en) S
def sCt : MS := fun en S => .ok (.ct en) S
def sBad : MS := fun _ _ => .bad
/-- targets -/
def gN (i : Nat) : MG := fun d en => some (en.set i (some d))
abbrev MGs := List D → En → Option En
def gsNil : MGs := fun ds en => match ds with
  | [] => some en
  | _ => none
def gsCons (g : MG) (r : MGs) : MGs := fun ds en => match ds with
  | d :: ds => (g d en).bind (r ds)
  | [] => none
def gT (n : Nat) (g : MGs) : MG := fun d en => match d with
  | .tup ds => if ds.length = n then g ds en else none
  | _ => none
/-- the slots differ at own alone -/
def Only (own : List Nat) (σ σ' : St) : Prop := σ'.length = σ.length ∧ ∀ j : Nat, j ∉ own → σ'[j]? = σ[j]?
theorem Only.refl (own : List Nat) (σ : St) : Only own σ σ := ⟨rfl, fun _ _ => rfl⟩
theorem Only.trans {o1 o2 : List Nat} {a b c : St} (h1 : Only o1 a b) (h2 : Only o2 b c) : Only (o1 ++ o2) a c :=
  ⟨h2.1.trans h1.1, fun j hj => (h2.2 j fun z => hj (List.mem_append_right _ z)).trans (h1.2 j fun z => hj (List.mem_append_left _ z))⟩
def TgR (B : Bas) (own : List Nat) (g : TG) (t : MG) : Prop := ∀ (m : Mp) (H : Hp) (en en' : En) (σ : St) (d : D) (v : V), Sub m H → Rep B m d v → EnR B m en σ → t d en = some en' → ∀ Q : St → Hp → Prop, (∀ σ', EnR B m en' σ' → Only own σ σ' → Q σ' H) → g v σ H Q
def TgsR (B : Bas) (own : List Nat) (g : TGs) (t : MGs) : Prop := ∀ (m : Mp) (H : Hp) (en en' : En) (σ : St) (d : List D) (v : List V), Sub m H → Reps B m d v → EnR B m en σ → t d en = some en' → ∀ Q : St → Hp → Prop, (∀ σ', EnR B m en' σ' → Only own σ σ' → Q σ' H) → g v σ H Q
theorem tg_name {B : Bas} {i : Nat} : TgR B [i] (gName i) (gN i) := fun m H en en' σ d v s r er e Q q => by
  cases e
  exact q _ (er.set i r) ⟨List.length_set, fun j hj => List.getElem?_set_ne (fun z => hj (by simp [z]))⟩
theorem tgs_nil {B : Bas} : TgsR B [] gNil gsNil := fun m H en en' σ d v s r er e Q q => by
  cases d with
  | nil =>
    simp only [Reps] at r
    cases e
    exact ⟨r, q σ er (Only.refl _ _)⟩
  | cons x xs => cases e
theorem tgs_cons {B : Bas} {o1 o2 : List Nat} {g : TG} {t : MG} {gs : TGs} {ts : MGs} (h : TgR B o1 g t) (hs : TgsR B o2 gs ts) : TgsR B (o1 ++ o2) (gCons g gs) (gsCons t ts) := fun m H en en' σ d v s r er e Q q => by
  cases d with
  | nil => cases e
  | cons x xs =>
    simp only [Reps] at r
    obtain ⟨y, ys, rfl, r1, r2⟩ := r
    simp only [gsCons] at e
    cases e1 : t x en with
    | none => rw [e1] at e; cases e
    | some en1 =>
      rw [e1] at e
      exact ⟨y, ys, rfl, h m H en en1 σ x y s r1 er e1 _ fun σ' er' o1 => hs m H en1 en' σ' xs ys s r2 er' e Q fun σ2 er2 o2 => q σ2 er2 (o1.trans o2)⟩
theorem tg_tup {B : Bas} {own : List Nat} {n : Nat} {gs : TGs} {ts : MGs} (hs : TgsR B own gs ts) : TgR B own (gTup B.K n gs) (gT n ts) := fun m H en en' σ d v s r er e Q q => by
  cases d with
  | tup ds =>
    simp only [gT] at e
    split at e
    · rename_i hn
      simp only [Rep] at r
      obtain ⟨a, vs, rfl, t, rs⟩ := r
      exact ⟨a, vs, rfl, t.sq s, by rw [← rs.length]; exact hn, hs m H en en' σ ds vs s rs er e Q q⟩
    · cases e
  | _ => cases e
section
variable {X : Cx} {B : Bas} {W : WX} {st : Stmt} {sts : List Stmt} {pos : Pos} {e : Expr} {ma mb : MS} {me : ME} {mt : MT} {mr : MA}
theorem ds_nil : PSs X [] (tS B W sNil) := PSs.cut pss_nil fun D σ H ⟨m, S, en, s, c, er, p⟩ => p m H (.nx σ) (Le.refl s) c er
theorem tSeq_of (hW : WI W) (D : Ends) (σ : St) (H : Hp) (t : tS B W (sSeq ma mb) D σ H) : tSeq (tS B W ma) (tS B W mb) D σ H := by
  obtain ⟨m, S, en, s, c, er, p⟩ := t
  refine ⟨m, S, en, s, c, er, (Post.bind p).imp ?_⟩
  rintro g H1 ⟨f, S1, m1, _, l1, c1, r1, p1⟩
  cases f with
  | nx en1 =>
    cases g with
    | nx σ1 => exact ⟨m1, S1, en1, l1.sub, c1, r1, p1.wx fun c d H' h => hW _ _ _ _ _ h⟩
    | _ => exact r1.elim
  | rt d =>
    cases g with
    | rt v => exact p1 m1 H1 (.rt v) (Le.refl l1.sub) c1 r1
    | _ => exact r1.elim
  | bk en1 =>
    cases g with
    | bk v => exact p1 m1 H1 (.bk v) (Le.refl l1.sub) c1 r1
    | _ => exact r1.elim
  | ct en1 =>
    cases g with
    | ct v => exact p1 m1 H1 (.ct v) (Le.refl l1.sub) c1 r1
    | _ => exact r1.elim
theorem ds_cons (hW : WI W) (h1 : PS X st (tS B W ma)) (h2 : PSs X sts (tS B W mb)) : PSs X (st :: sts) (tS B W (sSeq ma mb)) := PSs.cut (pss_cons h1 h2) (tSeq_of hW)
theorem ds_one (h1 : PS X st (tS B W ma)) : PSs X [st] (tS B W ma) := pss_one h1
theorem ds_if {c : Expr} {a b : List Stmt} (hc : PT X c (tT B W mt)) (ha : PSs X a (tS B W ma)) (hb : PSs X b (tS B W mb)) : PS X (.If c a b pos) (tS B W (sIf mt ma mb)) :=
  PS.cut (ps_if hc ha hb) fun D σ H ⟨m, S, en, s, c, er, p⟩ => ⟨m, S, en, s, c, er, (Post.bind p).imp (by
    rintro k H1 ⟨k', S1, m1, _, l1, c1, r1, p1⟩
    cases r1
    cases k with
    | true => exact iteT ⟨m1, S1, en, l1.sub, c1, er.mono l1, p1⟩
    | false => exact iteF ⟨m1, S1, en, l1.sub, c1, er.mono l1, p1⟩)⟩
theorem ds_ret (he : PE X e (tE B W me)) : PS X (.Return (some e) pos) (tS B W (sRet me)) :=
  PS.cut (ps_ret he) fun D σ H ⟨m, S, en, s, c, er, p⟩ => ⟨m, S, en, s, c, er, (Post.bind p).imp (by
    rintro v H1 ⟨d, S1, m1, _, l1, c1, r1, p1⟩
    exact p1 m1 H1 (.rt v) (Le.refl l1.sub) c1 r1)⟩
theorem ds_retN : PS X (.Return none pos) (tS B W sRetN) := PS.cut ps_retN fun D σ H ⟨m, S, en, s, c, er, p⟩ => p m H (.rt .non) (Le.refl s) c (rp_non (B := B) m)
theorem ds_pass : PS X (.Pass pos) (tS B W sNil) := PS.cut ps_pass fun D σ H ⟨m, S, en, s, c, er, p⟩ => p m H (.nx σ) (Le.refl s) c er
theorem ds_break : PS X (.Break pos) (tS B W sBk) := PS.cut ps_break fun D σ H ⟨m, S, en, s, c, er, p⟩ => p m H (.bk σ) (Le.refl s) c er
theorem ds_continue : PS X (.Continue pos) (tS B W sCt) := PS.cut ps_continue fun D σ H ⟨m, S, en, s, c, er, p⟩ => p m H (.ct σ) (Le.refl s) c er
theorem ds_never : PS X st (tS B W sBad) := ⟨fun _ _ _ _ _ _ ⟨_, _, _, _, _, _, p⟩ => p.elim⟩
theorem ds_expr (he : PE X e (tE B W me)) (hs : swapsWith e none pos.line X.env = pure false := by rfl) : PS X (.Expr e pos) (tS B W (sDrop me)) :=
  PS.cut (ps_expr he hs) fun D σ H ⟨m, S, en, s, c, er, p⟩ => ⟨m, S, en, s, c, er, (Post.bind p).imp (by
    rintro v H1 ⟨d, S1, m1, _, l1, c1, r1, p1⟩
    exact p1 m1 H1 (.nx σ) (Le.refl l1.sub) c1 (er.mono l1))⟩
theorem tAsg_of {own : List Nat} {g : TG} {t : MG} (h : TgR B own g t) (D : Ends) (σ : St) (H : Hp) (q : tS B W (sAsg me t) D σ H) : tAsg (tE B W me) g D σ H := by
  obtain ⟨m, S, en, s, c, er, p⟩ := q
  refine ⟨m, S, en, s, c, er, (Post.bind p).imp ?_⟩
  rintro v H1 ⟨d, S1, m1, _, l1, c1, r1, p1⟩
  cases e1 : t d en with
  | none => rw [e1] at p1; exact p1.elim
  | some en1 =>
    rw [e1] at p1
    exact h m1 H1 en en1 σ d v l1.sub r1 (er.mono l1) e1 _ fun σ' er' _ => p1 m1 H1 (.nx σ') (Le.refl l1.sub) c1 er'
theorem ds_set {i : Nat} {x : Str} {pos' : Pos} (hN : X.N.Nodup) (hi : X.N[i]? = some x) (hx : Loc X.env.scope x) (he : PE X e (tE B W me)) (hs : swapsWith e (some (.Name x pos')) pos.line X.env = pure false := by rfl)
    (hf : X.fn x = true ∨ X.env.scope.names.lookup x = some .local := by first | exact .inl rfl | exact .inr rfl | assumption) : PS X (.Assign [.Name x pos'] e pos) (tS B W (sAsg me (gN i))) :=
  PS.cut (ps_set hN hi hx he hs hf) (tAsg_of tg_name)
theorem ds_asg {own : List Nat} {tg : Expr} {g : TG} {t : MG} (ht : TgR B own g t) (he : PE X e (tE B W me)) (hg : PG X tg g) (hs : swapsWithSole [tg] e pos.line X.env = pure false := by rfl) (hw : swappedStores [tg] e X.env = pure none := by rfl)
    (h1 : (assignEach [tg] X.env).map (·.2) = [assign tg X.env] := by rfl) : PS X (.Assign [tg] e pos) (tS B W (sAsg me t)) := PS.cut (ps_asg he hg hs hw h1) (tAsg_of ht)
theorem ds_par {i j : Nat} {x y : Str} {a b : Expr} {px py pt : Pos} {kt k2 pt2} (hc : X.calm = true) (hN : X.N.Nodup) (hi : X.N[i]? = some x) (hj : X.N[j]? = some y) (hij : i ≠ j)
    (hx : X.env.scope.names.lookup x = some .local) (hy : X.env.scope.names.lookup y = some .local) (ha : PA X [a, b] (tA B W mr))
    (hw : swappedStores [.Tuple [.Name x px, .Name y py] kt pt] (.Tuple [a, b] k2 pt2) X.env = pure (some [x, y]))
    (hs : swapsWithSole [.Tuple [.Name x px, .Name y py] kt pt] (.Tuple [a, b] k2 pt2) pos.line X.env = pure false := by rfl) : PS X (.Assign [.Tuple [.Name x px, .Name y py] kt pt] (.Tuple [a, b] k2 pt2) pos) (tS B W (sPar i j mr)) :=
  PS.cut (ps_par hc hN hi hj hij hx hy ha hw hs) fun D σ H ⟨m, S, en, s, c, er, p⟩ => ⟨m, S, en, s, c, er, (Post.bind p).imp (by
    rintro vs H1 ⟨ds, S1, m1, _, l1, c1, r1, p1⟩
    match ds, p1, r1 with
    | [x, y], p1, r1 =>
      simp only [Reps] at r1
      obtain ⟨v, r, rfl, rv, w, r', rfl, rw', rfl⟩ := r1
      exact ⟨v, w, rfl, p1 m1 H1 (.nx _) (Le.refl l1.sub) c1 (((er.mono l1).set i rv).set j rw')⟩
    | [], p1, _ => exact p1.elim
    | [_], p1, _ => exact p1.elim
    | _ :: _ :: _ :: _, p1, _ => exact p1.elim)⟩
end
/-! ### for -/
structure Its where
  ds : List D
  P : Sto → Prop
def ItR (B : Bas) (m : Mp) (its : Its) (J : It) : Prop := ∀ (m' : Mp) (H' : Hp) (S : Sto), Kp m m' → Sub m' H' → Cor B m' S → its.P S →
  (∀ (i : Nat) (d : D), its.ds[i]? = some d → J.go i H' ∧ ∀ x H'', J.yld i H' x H'' → ∃ m'', Le m' H' m'' H'' ∧ Cor B m'' S ∧ Rep B m'' d x) ∧ ∀ i, its.ds.length ≤ i → J.stop i H'
abbrev MI := En → Sto → Res Its
def tI (B : Bas) (W : WX) (f : MI) : TI := fun σ H R => ∃ m S en, Sub m H ∧ Cor B m S ∧ EnR B m en σ ∧ Post B (ItR B) (at' W σ) m H R (f en S)
open Classical in
noncomputable def loop (g : MG) (b : MS) (P : Sto → Prop) : List D → En → Sto → Res Fl
  | [], en, S => if P S then .ok (.nx en) S else .bad
  | d :: ds, en, S => if P S then (match g d en with
    | none => .bad
    | some en1 => (b en1 S).bind fun f S1 => match f with
      | .nx en2 => loop g b P ds en2 S1
      | .ct en2 => loop g b P ds en2 S1
      | .bk en2 => .ok (.nx en2) S1
      | .rt d => .ok (.rt d) S1) else .bad
noncomputable def sFor (i : MI) (g : MG) (b : MS) : MS := fun en S => (i en S).bind fun its S1 => loop g b its.P its.ds en S1
theorem tFor_of {B : Bas} {W : WX} {mi : MI} {mb : MS} {g : TG} {t : MG} {own : List Nat} (hW : WI W) (ht : TgR B own g t) (D : Ends) (σ : St) (H : Hp) (q : tS B W (sFor mi t mb) D σ H) : tFor (tI B W mi) g (tS B W mb) D σ H := by
  obtain ⟨m, S, en, s, c, er, p⟩ := q
  refine ⟨m, S, en, s, c, er, (Post.bind p).imp ?_⟩
  rintro J H1 ⟨its, S1, m1, _, l1, c1, ir, p1⟩
  refine ⟨fun i k σ' H' => k = its.ds.length - i ∧ ∃ m' S' en', Le m1 H1 m' H' ∧ Cor B m' S' ∧ EnR B m' en' σ' ∧ Post B (RFl B) (at' W σ') m' H' (qOf D) (loop t mb its.P (its.ds.drop i) en' S'),
    ⟨_, rfl, m1, S1, en, Le.refl l1.sub, c1, er.mono l1, p1⟩, ?_⟩
  rintro i k σ' H' ⟨rfl, m', S', en', l', c', er', p'⟩
  by_cases hP : its.P S'
  · obtain ⟨hg, hs⟩ := ir m' H' S' l'.toKp l'.sub c' hP
    cases hd : its.ds[i]? with
    | none =>
      have hi : its.ds.length ≤ i := List.getElem?_eq_none_iff.mp hd
      rw [List.drop_eq_nil_of_le hi, loop, if_pos hP] at p'
      exact .inl ⟨hs i hi, p' m' H' (.nx σ') (Le.refl l'.sub) c' er'⟩
    | some d =>
      have hi : i < its.ds.length := (List.getElem?_eq_some_iff.mp hd).1
      obtain ⟨go, yl⟩ := hg i d hd
      have e1 : its.ds.drop i = d :: its.ds.drop (i + 1) := by
        rw [List.drop_eq_getElem_cons hi]
        congr 1
        exact (List.getElem?_eq_some_iff.mp hd).2
      rw [e1, loop, if_pos hP] at p'
      refine .inr ⟨go, fun σ2 H2 => its.ds.length - (i + 1) = its.ds.length - (i + 1) ∧ ∃ m2 S2 en2, Le m1 H1 m2 H2 ∧ Cor B m2 S2 ∧ EnR B m2 en2 σ2 ∧ Post B (RFl B) (at' W σ2) m2 H2 (qOf D) (loop t mb its.P (its.ds.drop (i + 1)) en2 S2),
        fun σ2 H2 n2 => ⟨its.ds.length - (i + 1), by omega, n2⟩, fun x H'' y => ?_⟩
      obtain ⟨m'', l2, c2, r2⟩ := yl x H'' y
      cases e2 : t d en' with
      | none => rw [e2] at p'; exact p'.elim
      | some en1 =>
        rw [e2] at p'
        refine ht m'' H'' en' en1 σ' d x l2.sub r2 (er'.mono l2) e2 _ fun σ2 er2 _ => ?_
        refine ⟨m'', S', en1, l2.sub, c2, er2, (Post.bind ((p'.shift l2).wx fun c d H3 h => hW _ _ _ _ _ h)).imp ?_⟩
        rintro f' H3 ⟨f, S3, m3, _, l3, c3, r3, p3⟩
        cases f with
        | nx en3 =>
          cases f' with
          | nx σ3 => exact ⟨rfl, m3, S3, en3, (l'.trans l2).trans l3, c3, r3, p3.wx fun c d H4 h => hW _ _ _ _ _ h⟩
          | _ => exact r3.elim
        | ct en3 =>
          cases f' with
          | ct σ3 => exact ⟨rfl, m3, S3, en3, (l'.trans l2).trans l3, c3, r3, p3.wx fun c d H4 h => hW _ _ _ _ _ h⟩
          | _ => exact r3.elim
        | bk en3 =>
          cases f' with
          | bk σ3 => exact p3 m3 H3 (.nx σ3) (Le.refl l3.sub) c3 r3
          | _ => exact r3.elim
        | rt d3 =>
          cases f' with
          | rt v3 => exact p3 m3 H3 (.rt v3) (Le.refl l3.sub) c3 r3
          | _ => exact r3.elim
  · exfalso
    cases hl : its.ds.drop i with
    | nil => rw [hl, loop, if_neg hP] at p'; exact p'
    | cons d ds => rw [hl, loop, if_neg hP] at p'; exact p'
theorem ds_for {X : Cx} {B : Bas} {W : WX} {tg iter : Expr} {body : List Stmt} {pos : Pos} {mi : MI} {mb : MS} {g : TG} {t : MG} {own : List Nat} (hW : WI W) (hp : PassesOwn (model X.prog X.w) X.A X.env X.xe) (hc : X.calm = true)
    (ht : TgR B own g t) (hi : PI X tg iter (tI B W mi)) (hg : PG X tg g) (hb : PSs X body (tS B W mb)) (hs : ∀ x, foldedSetIterable iter X.env x = pure x := by intro _; rfl) :
    PS X (.For tg iter body [] pos) (tS B W (sFor mi t mb)) := PS.cut (ps_for hp hc hi hg hb hs) (tFor_of hW ht)
/-! ### while -/
def whil (t : MT) (b : MS) : Nat → En → Sto → Res Fl
  | 0, _, _ => .bad
  | n + 1, en, S => (t en S).bind fun k S1 => match k with
    | false => .ok (.nx en) S1
    | true => (b en S1).bind fun f S2 => match f with
      | .nx en2 => whil t b n en2 S2
      | .ct en2 => whil t b n en2 S2
      | .bk en2 => .ok (.nx en2) S2
      | .rt d => .ok (.rt d) S2
def sWhile (n : Nat) (t : MT) (b : MS) : MS := fun en S => whil t b n en S
theorem tWhile_of {B : Bas} {W : WX} {mt : MT} {mb : MS} {n : Nat} (hW : WI W) (D : Ends) (σ : St) (H : Hp) (q : tS B W (sWhile n mt mb) D σ H) : tWhile (tT B W mt) (tS B W mb) D σ H := by
  obtain ⟨m, S, en, s, c, er, p⟩ := q
  refine ⟨fun k σ' H' => ∃ m' S' en', Le m H m' H' ∧ Cor B m' S' ∧ EnR B m' en' σ' ∧ Post B (RFl B) (at' W σ') m' H' (qOf D) (whil mt mb k en' S'), ⟨n, m, S, en, Le.refl s, c, er, p⟩, ?_⟩
  rintro k σ' H' ⟨m', S', en', l', c', er', p'⟩
  cases k with
  | zero => exact p'.elim
  | succ k =>
    rw [whil] at p'
    refine ⟨m', S', en', l'.sub, c', er', (Post.bind p').imp ?_⟩
    rintro b H1 ⟨b', S1, m1, _, l1, c1, r1, p1⟩
    cases r1
    cases b with
    | false => exact iteF (p1 m1 H1 (.nx σ') (Le.refl l1.sub) c1 (er'.mono l1))
    | true =>
      refine iteT ⟨fun σ2 H2 => ∃ m2 S2 en2, Le m H m2 H2 ∧ Cor B m2 S2 ∧ EnR B m2 en2 σ2 ∧ Post B (RFl B) (at' W σ2) m2 H2 (qOf D) (whil mt mb k en2 S2), fun σ2 H2 n2 => ⟨k, Nat.lt_succ_self _, n2⟩, ?_⟩
      refine ⟨m1, S1, en', l1.sub, c1, er'.mono l1, (Post.bind p1).imp ?_⟩
      rintro f' H3 ⟨f, S3, m3, _, l3, c3, r3, p3⟩
      cases f with
      | nx en3 =>
        cases f' with
        | nx σ3 => exact ⟨m3, S3, en3, (l'.trans l1).trans l3, c3, r3, p3.wx fun c d H4 h => hW _ _ _ _ _ h⟩
        | _ => exact r3.elim
      | ct en3 =>
        cases f' with
        | ct σ3 => exact ⟨m3, S3, en3, (l'.trans l1).trans l3, c3, r3, p3.wx fun c d H4 h => hW _ _ _ _ _ h⟩
        | _ => exact r3.elim
      | bk en3 =>
        cases f' with
        | bk σ3 => exact p3 m3 H3 (.nx σ3) (Le.refl l3.sub) c3 r3
        | _ => exact r3.elim
      | rt d3 =>
        cases f' with
        | rt v3 => exact p3 m3 H3 (.rt v3) (Le.refl l3.sub) c3 r3
        | _ => exact r3.elim
theorem ds_while {X : Cx} {B : Bas} {W : WX} {c : Expr} {body : List Stmt} {pos : Pos} {mt : MT} {mb : MS} {n : Nat} (hW : WI W) (hp : PassesOwn (model X.prog X.w) X.A X.env X.xe) (hc : PT X c (tT B W mt)) (hb : PSs X body (tS B W mb)) :
    PS X (.While c body [] pos) (tS B W (sWhile n mt mb)) := PS.cut (ps_while hp hc hb) (tWhile_of hW)
/-! ### defs -/
structure Fn where
  n : Nat
  run : List D → Sto → Res D
def spF (B : Bas) (F : Fn) : Sp := fun vs H Q E => ∃ m S ds, Sub m H ∧ Cor B m S ∧ Reps B m ds vs ∧ ds.length = F.n ∧ Post B (Rep B) E m H Q (F.run ds S)
theorem spF_len {B : Bas} {F : Fn} {ps : List Str} (h : F.n = ps.length) (vs : List V) (H : Hp) (Q : VK) (E : XK) (q : spF B F vs H Q E) : vs.length = ps.length := by
  obtain ⟨m, S, ds, _, _, r, n, _⟩ := q
  rw [← r.length, n, h]
def startE (N : Nat) (ds : List D) : En := ds.map some ++ List.replicate (N - ds.length) none
def fnB (n N : Nat) (b : MS) : Fn := ⟨n, fun ds S => (b (startE N ds) S).bind fun f S1 => match f with
  | .nx _ => .ok .non S1
  | .rt d => .ok d S1
  | _ => .bad⟩
theorem start_en {B : Bas} {m : Mp} {N : List Str} {ds : List D} {vs : List V} (r : Reps B m ds vs) : EnR B m (startE N.length ds) (L2.start N vs) := by
  have hl := r.length
  refine ⟨by unfold startE L2.start; simp only [List.length_append, List.length_map, List.length_replicate]; omega, fun i d e => ?_⟩
  unfold startE at e
  by_cases hi : i < ds.length
  · rw [List.getElem?_append_left (by simpa using hi), List.getElem?_map] at e
    cases e2 : ds[i]? with
    | none => rw [e2] at e; cases e
    | some x =>
      rw [e2] at e
      cases e
      obtain ⟨v, hv, rv⟩ := r.get e2
      refine ⟨v, ?_, rv⟩
      unfold L2.start
      rw [List.getElem?_append_left (by simpa [← hl] using hi), List.getElem?_map, hv]
      rfl
  · rw [List.getElem?_append_right (by simpa using hi), List.getElem?_replicate] at e
    split at e <;> cases e
abbrev WE0 (E : XK) : WX := fun c d _ H => E c d H
theorem wi_E {E : XK} : WI (WE0 E) := fun _ _ _ _ _ h => h
abbrev W0 : WX := fun _ _ _ _ => False
theorem wi_0 : WI W0 := fun _ _ _ _ _ h => h
theorem fn_body {B : Bas} {N : List Str} {n : Nat} {ms : MS} {vs : List V} {H : Hp} {Q : VK} {E : XK} (h : spF B (fnB n N.length ms) vs H Q E) : tS B (WE0 E) ms { nx := fun _ H' => Q .non H', rt := Q } (L2.start N vs) H := by
  obtain ⟨m, S, ds, s, c, r, hn, p⟩ := h
  refine ⟨m, S, startE N.length ds, s, c, start_en r, (Post.bind p).imp ?_⟩
  rintro f' H1 ⟨f, S1, m1, _, l1, c1, r1, p1⟩
  cases f with
  | nx en =>
    cases f' with
    | nx σ => exact p1 m1 H1 .non (Le.refl l1.sub) c1 (rp_non _)
    | _ => exact r1.elim
  | rt d =>
    cases f' with
    | rt v => exact p1 m1 H1 v (Le.refl l1.sub) c1 r1
    | _ => exact r1.elim
  | bk en => exact p1.elim
  | ct en => exact p1.elim
theorem fn_ok {P : Program} {w : World} {K : PySem.W.Frag} {mg : Str → Option Value} {base : Heap} {B : Bas} {x qual : Str} {st : Stmt} {f : Addr} {fd : FuncData} {N ps : List Str} {k n : Nat} {ms : MS} (F : Fun K x qual st f fd) (S : FnScope N ps (defScope st)) (hn : n = ps.length)
    (hbody : ∀ (cdv : Value) (A : Around) (outer : List Env) (s : Shared) (H : Hp) (E : XK), Room k (A.deeper (PyProof.Rows.envOfC qual (defScope st) s.heap.objs.size f cdv)) →
      PSs (cxOf (L2.CX P w) P w K mg base N qual (defScope st) f cdv A outer s H E) (defBody st) (tS B (WE0 E) ms)) : FnOk P w K mg base (L2.CX P w) (k + 1) f fd ps (spF B (fnB n N.length ms)) :=
  F.okX S (spF_len hn) fun cdv A outer s H vs Q E hr h => ⟨_, hbody cdv A outer s H E hr, fn_body h⟩
/-! ### calls -/
def mCall (F : Fn) (r : MA) : ME := fun en S => (r en S).bind fun ds S1 => if ds.length = F.n then F.run ds S1 else .bad
theorem tCall_of {B : Bas} {W : WX} {F : Fn} {mr : MA} (σ : St) (H : Hp) (Q : VK) (t : tE B W (mCall F mr) σ H Q) : tCallSD (spF B F) [] (fun σ => at' W σ) (tA B W mr) σ H Q := by
  obtain ⟨m, S, en, s, c, er, p⟩ := t
  refine ⟨m, S, en, s, c, er, (Post.bind p).imp ?_⟩
  rintro vs H1 ⟨ds, S1, m1, _, l1, c1, r1, p1⟩
  split at p1
  · rename_i hn
    exact ⟨m1, S1, ds, l1.sub, c1, by rw [List.append_nil]; exact r1, hn, p1⟩
  · exact p1.elim
section
variable {X : Cx} {B : Bas} {W : WX} {k : Nat} {f : Addr} {fd : FuncData} {ps : List Str} {F : Fn} {x : Str} {p pos : Pos} {e : Expr} {es : List Expr} {mr : MA}
theorem de_call (FO : FnOk X.prog X.w X.K X.mg X.base (L2.CX X.prog X.w) k f fd ps (spF B F)) (hr : Room k X.A) (tk : Takes X W) (hm : X.mg x = some (.ref f)) (hk : PySem.W.keepIn X.K (.ref f) = true) (hb : Binds X.K fd ps [])
    (ha : PA X (e :: es) (tA B W mr)) (hg : Gl X x := by rfl) (hdb : (x == ("__debug__" : Str)) = false := by decide) (he : starEach (e :: es) X.env = (false, eval e X.env) :: starEach es X.env := by rfl) (hpl : (backTo pos (starEach es X.env)).any (·.1) = false := by rfl) :
    PE X (.Call (.Name x p) (e :: es) [] pos) (tE B W (mCall F mr)) := PE.cut (pe_callSD FO hr hg hm hk hb .nil (fun σ => passAt tk σ) ha hdb he hpl) tCall_of
end
end G
end
section
set_option Elab.async false
set_option linter.all false
set_option maxRecDepth 100000
set_option maxHeartbeats 2000000
/-! G4: what a def leaves in the store is cut off at its end -/
namespace G
open PySem L2
mutual
def D.bel (n : Nat) : D → Prop
  | .tup ds => D.bels n ds
  | .lst ds => D.bels n ds
  | .scr ds => D.bels n ds
  | .ktp ds => D.bels n ds
  | .dic _ ds => D.bels n ds
  | .ins _ _ ds => D.bels n ds
  | .ref i => i < n
  | .non => True
  | .bl _ => True
  | .int _ => True
  | .str _ => True
  | .fn _ => True
  | .ty _ => True
  | .cl _ => True
def D.bels (n : Nat) : List D → Prop
  | [] => True
  | d :: r => D.bel n d ∧ D.bels n r
end
def Ob.bel (n : Nat) : Ob → Prop
  | .lst ds => D.bels n ds
  | .dic _ ds => D.bels n ds
  | .ins _ _ ds => D.bels n ds
section
variable {B : Bas} {m : Mp}
mutual
theorem Rep.bel : ∀ {d : D} {v : V}, Rep B m d v → d.bel m.n
  | .non, _, _ => by simp only [D.bel]
  | .bl _, _, _ => by simp only [D.bel]
  | .int _, _, _ => by simp only [D.bel]
  | .str _, _, _ => by simp only [D.bel]
  | .fn _, _, _ => by simp only [D.bel]
  | .ty _, _, _ => by simp only [D.bel]
  | .cl _, _, _ => by simp only [D.bel]
  | .ref i, v, h => by
    simp only [Rep] at h
    simp only [D.bel]
    exact h.1
  | .tup ds, v, h => by
    simp only [Rep] at h
    obtain ⟨a, vs, e, t, r⟩ := h
    simp only [D.bel]
    exact Reps.bel r
  | .lst ds, v, h => by
    simp only [Rep] at h
    obtain ⟨a, vs, e, t, r⟩ := h
    simp only [D.bel]
    exact Reps.bel r
  | .scr ds, v, h => by
    simp only [Rep] at h
    obtain ⟨a, vs, e, t, r⟩ := h
    simp only [D.bel]
    exact Reps.bel r
  | .ktp ds, v, h => by
    simp only [Rep] at h
    obtain ⟨a, vs, e, t, r⟩ := h
    simp only [D.bel]
    exact Reps.bel r
  | .dic ks ds, v, h => by
    simp only [Rep] at h
    obtain ⟨a, vs, e, o, t, r⟩ := h
    simp only [D.bel]
    exact Reps.bel r
  | .ins c ns ds, v, h => by
    simp only [Rep] at h
    obtain ⟨a, dx, vs, e, o, t, n, r⟩ := h
    simp only [D.bel]
    exact Reps.bel r
theorem Reps.bel : ∀ {ds : List D} {vs : List V}, Reps B m ds vs → D.bels m.n ds
  | [], _, _ => by simp only [D.bels]
  | d :: ds, _, h => by
    simp only [Reps] at h
    obtain ⟨v, r, e, p, q⟩ := h
    simp only [D.bels]
    exact ⟨Rep.bel p, Reps.bel q⟩
end
theorem ObR.bel {a : Addr} {o : Ob} (h : ObR B m a o) : o.bel m.n := by
  cases o with
  | lst ds => obtain ⟨vs, e, r⟩ := h; exact r.bel
  | dic ks ds => obtain ⟨vs, e, r⟩ := h; exact r.bel
  | ins c ns ds => obtain ⟨dx, vs, e, n, r⟩ := h; exact r.bel
end
open Classical in
noncomputable def Mp.cut (m : Mp) (n : Nat) : Mp := { mu := m.mu, n := n, Z := fun a => if ∃ j, n ≤ j ∧ j < m.n ∧ m.mu j = a then none else m.Z a }
section
variable {B : Bas} {m : Mp} {n : Nat}
open Classical in
theorem Mp.cut_out {a : Addr} (h : m.out a) : (m.cut n).Z a = m.Z a := by
  show (if ∃ j, n ≤ j ∧ j < m.n ∧ m.mu j = a then none else m.Z a) = _
  rw [if_neg]
  rintro ⟨j, _, h2, h3⟩
  exact h j h2 h3
theorem Mp.cut_oo {a : Addr} (hn : n ≤ m.n) (h : m.out a) : (m.cut n).out a := fun i hi => h i (Nat.lt_of_lt_of_le hi hn)
mutual
theorem Rep.cutR (hn : n ≤ m.n) : ∀ {d : D} {v : V}, Rep B m d v → d.bel n → Rep B (m.cut n) d v
  | .non, _, h, _ => by simpa only [Rep] using h
  | .bl _, _, h, _ => by simpa only [Rep] using h
  | .int _, _, h, _ => by simpa only [Rep] using h
  | .str _, _, h, _ => by simpa only [Rep] using h
  | .fn _, _, h, _ => by simpa only [Rep] using h
  | .ty _, _, h, _ => by simpa only [Rep] using h
  | .cl _, _, h, _ => by simpa only [Rep] using h
  | .ref i, v, h, b => by
    simp only [Rep] at h ⊢
    simp only [D.bel] at b
    exact ⟨b, h.2⟩
  | .tup ds, v, h, b => by
    simp only [Rep] at h ⊢
    simp only [D.bel] at b
    obtain ⟨a, vs, e, t, r⟩ := h
    exact ⟨a, vs, e, ⟨(Mp.cut_out t.2).trans t.1, Mp.cut_oo hn t.2⟩, Reps.cutR hn r b⟩
  | .lst ds, v, h, b => by
    simp only [Rep] at h ⊢
    simp only [D.bel] at b
    obtain ⟨a, vs, e, t, r⟩ := h
    exact ⟨a, vs, e, ⟨(Mp.cut_out t.2).trans t.1, Mp.cut_oo hn t.2⟩, Reps.cutR hn r b⟩
  | .scr ds, v, h, b => by
    simp only [Rep] at h ⊢
    simp only [D.bel] at b
    obtain ⟨a, vs, e, t, r⟩ := h
    refine ⟨a, vs, e, ?_, Reps.cutR hn r b⟩
    rcases t with ⟨t, o⟩ | t
    · refine .inl ⟨?_, Mp.cut_oo hn o⟩
      rcases t with t | ⟨x, t⟩
      · exact .inl ((Mp.cut_out o).trans t)
      · exact .inr ⟨x, (Mp.cut_out o).trans t⟩
    · exact .inr t
  | .ktp ds, v, h, b => by
    simp only [Rep] at h ⊢
    simp only [D.bel] at b
    obtain ⟨a, vs, e, t, r⟩ := h
    exact ⟨a, vs, e, t, Reps.cutR hn r b⟩
  | .dic ks ds, v, h, b => by
    simp only [Rep] at h ⊢
    simp only [D.bel] at b
    obtain ⟨a, vs, e, o, t, r⟩ := h
    exact ⟨a, vs, e, Mp.cut_oo hn o, by rw [Mp.cut_out o]; exact t, Reps.cutR hn r b⟩
  | .ins c ns ds, v, h, b => by
    simp only [Rep] at h ⊢
    simp only [D.bel] at b
    obtain ⟨a, dx, vs, e, o, t, k, r⟩ := h
    exact ⟨a, dx, vs, e, Mp.cut_oo hn o, (Mp.cut_out o).trans t, k, Reps.cutR hn r b⟩
theorem Reps.cutR (hn : n ≤ m.n) : ∀ {ds : List D} {vs : List V}, Reps B m ds vs → D.bels n ds → Reps B (m.cut n) ds vs
  | [], _, h, _ => by simpa only [Reps] using h
  | d :: ds, _, h, b => by
    simp only [Reps] at h ⊢
    simp only [D.bels] at b
    obtain ⟨v, r, e, p, q⟩ := h
    exact ⟨v, r, e, Rep.cutR hn p b.1, Reps.cutR hn q b.2⟩
end
theorem ObR.cutR (hn : n ≤ m.n) {a : Addr} {o : Ob} (hz : (m.cut n).Z a = m.Z a) (h : ObR B m a o) (b : o.bel n) : ObR B (m.cut n) a o := by
  cases o with
  | lst ds => obtain ⟨vs, e, r⟩ := h; exact ⟨vs, hz.trans e, Reps.cutR hn r b⟩
  | dic ks ds => obtain ⟨vs, e, r⟩ := h; exact ⟨vs, by rw [hz]; exact e, Reps.cutR hn r b⟩
  | ins c ns ds => obtain ⟨dx, vs, e, k, r⟩ := h; exact ⟨dx, vs, hz.trans e, k, Reps.cutR hn r b⟩
end
/-- what stood is as it was, or looks at nothing new -/
def Cl (S S' : Sto) : Prop := S.length ≤ S'.length ∧ ∀ i, i < S.length → S'[i]? = S[i]? ∨ ∃ o, S'[i]? = some o ∧ o.bel S.length
theorem Cl.app (S G : Sto) : Cl S (S ++ G) := ⟨by simp, fun i hi => .inl (List.getElem?_append_left hi)⟩
open Classical in
noncomputable def Res.drop (S : Sto) : Res D → Res D
  | .ok d S' => if Cl S S' ∧ d.bel S.length then .ok d (S'.take S.length) else .bad
  | .ex c ns vs S' => if Cl S S' ∧ D.bels S.length vs then .ex c ns vs (S'.take S.length) else .bad
  | .bad => .bad
noncomputable def dropF (F : Fn) : Fn := ⟨F.n, fun ds S => (F.run ds S).drop S⟩
theorem Res.drop_app {d : D} {S G : Sto} (h : d.bel S.length) : (Res.ok d (S ++ G)).drop S = .ok d S := by
  simp only [Res.drop]
  rw [if_pos ⟨Cl.app S G, h⟩, List.take_left']
  rfl
theorem Res.drop_self {d : D} {S : Sto} (h : d.bel S.length) : (Res.ok d S).drop S = .ok d S := by
  have := Res.drop_app (G := []) h
  rwa [List.append_nil] at this
open Classical in
theorem cut_all {B : Bas} {m m1 : Mp} {H H1 : Hp} {S S1 : Sto} (c : Cor B m S) (l : Le m H m1 H1) (c1 : Cor B m1 S1) (cl : Cl S S1) : Le m H (m1.cut S.length) H1 ∧ Cor B (m1.cut S.length) (S1.take S.length) := by
  have hn : S.length ≤ m1.n := by rw [c1.n]; exact cl.1
  refine ⟨⟨⟨by rw [c.n]; exact Nat.le_refl _, fun i hi => l.mu i hi, fun a o h1 h2 => ?_⟩, fun a o h1 h2 => ?_, fun a o h => ?_⟩, ⟨?_, fun i o e => ?_, fun i j hi hj e => ?_⟩⟩
  · obtain ⟨k1, k2⟩ := l.keep a o h1 h2
    exact ⟨(Mp.cut_out k2).trans k1, Mp.cut_oo hn k2⟩
  · obtain ⟨k1, k2⟩ := l.fr a o h1 h2
    refine ⟨k1, ?_⟩
    show (if _ then none else m1.Z a) = none
    split
    · rfl
    · exact k2
  · have h' : (if ∃ j, S.length ≤ j ∧ j < m1.n ∧ m1.mu j = a then none else m1.Z a) = some o := h
    split at h'
    · cases h'
    · exact l.sub a o h'
  · show S.length = _
    rw [List.length_take, Nat.min_eq_left cl.1]
  · have hi : i < S.length := by
      have := (List.getElem?_eq_some_iff.mp e).1
      rw [List.length_take] at this
      omega
    rw [List.getElem?_take_of_lt hi] at e
    have ob := c1.ob i o e
    refine ObR.cutR hn ?_ ob ?_
    · show (if ∃ j, S.length ≤ j ∧ j < m1.n ∧ m1.mu j = m1.mu i then none else m1.Z (m1.mu i)) = m1.Z (m1.mu i)
      rw [if_neg]
      rintro ⟨j, h1, h2, h3⟩
      have := c1.inj j i h2 (Nat.lt_of_lt_of_le hi hn) h3
      omega
    · rcases cl.2 i hi with q | ⟨o', q, b⟩
      · rw [q] at e
        have := (c.ob i o e).bel
        rw [c.n] at this
        exact this
      · rw [q] at e
        cases e
        exact b
  · have hi' : i < m1.n := Nat.lt_of_lt_of_le hi hn
    have hj' : j < m1.n := Nat.lt_of_lt_of_le hj hn
    exact c1.inj i j hi' hj' e
theorem ExR.cutR {B : Bas} {m : Mp} {n : Nat} (hn : n ≤ m.n) {ns : List Str} {vs : List D} {dd : Option Addr} (h : ExR B m ns vs dd) (b : D.bels n vs) : ExR B (m.cut n) ns vs dd := by
  rcases h with h | ⟨a, us, e, z, o, l, r⟩
  · exact .inl h
  · exact .inr ⟨a, us, e, (Mp.cut_out o).trans z, Mp.cut_oo hn o, l, Reps.cutR hn r b⟩
theorem Post.drop {B : Bas} {E : XK} {m : Mp} {H : Hp} {Q : VK} {r : Res D} {S : Sto} (c : Cor B m S) (h : Post B (Rep B) E m H Q (r.drop S)) : Post B (Rep B) E m H Q r := by
  cases r with
  | bad => exact h
  | ok d S1 =>
    intro m1 H1 v l c1 rv
    simp only [Res.drop] at h
    split at h
    · rename_i hc
      obtain ⟨l2, c2⟩ := cut_all c l c1 hc.1
      exact h _ _ _ l2 c2 (rv.cutR (by rw [c1.n]; exact hc.1.1) hc.2)
    · exact h.elim
  | ex cl ns vs S1 =>
    intro m1 H1 dd l c1 rv
    simp only [Res.drop] at h
    split at h
    · rename_i hc
      obtain ⟨l2, c2⟩ := cut_all c l c1 hc.1
      exact h _ _ _ l2 c2 (rv.cutR (by rw [c1.n]; exact hc.1.1) hc.2)
    · exact h.elim
theorem fn_drop {P : Program} {w : World} {K : PySem.W.Frag} {mg : Str → Option Value} {base : Heap} {CX : CXT} {B : Bas} {f : Addr} {fd : FuncData} {ps : List Str} {k : Nat} {F : Fn} (h : FnOk P w K mg base CX k f fd ps (spF B F)) :
    FnOk P w K mg base CX k f fd ps (spF B (dropF F)) := h.imp fun vs H Q E ⟨m, S, ds, s, c, r, n, p⟩ => ⟨m, S, ds, s, c, r, n, p.drop c⟩
end G
end
section
set_option Elab.async false
set_option linter.all false
set_option maxRecDepth 100000
set_option maxHeartbeats 2000000
/-! G5: the operators by data -/
namespace G
open PySem L2
/-! ### helpers: an answer that makes no object, one that makes a new one -/
section
variable {B : Bas} {m : Mp} {H : Hp} {S : Sto} {Q : VK} {d : D}
theorem q_val {v : V} (s : Sub m H) (c : Cor B m S) (q : ∀ m' H' v, Le m H m' H' → Cor B m' S → Rep B m' d v → Q v H') (r : Rep B m d v) : Q v H := q m H v (Le.refl s) c r
theorem q_tup {ds : List D} {vs : List V} (s : Sub m H) (c : Cor B m S) (q : ∀ m' H' v, Le m H m' H' → Cor B m' S → Rep B m' (.tup ds) v → Q v H') (r : Reps B m ds vs) (p : Addr) (hp : H p = none) : Q (.ref p) (upd H p (.tup vs)) :=
  q _ _ _ (Le.new c s hp) (Cor.new c s hp) (rp_tup c s hp r)
theorem q_lst {ds : List D} {vs : List V} (s : Sub m H) (c : Cor B m S) (q : ∀ m' H' v, Le m H m' H' → Cor B m' S → Rep B m' (.lst ds) v → Q v H') (r : Reps B m ds vs) (p : Addr) (hp : H p = none) : Q (.ref p) (upd H p (.lst vs)) :=
  q _ _ _ (Le.new c s hp) (Cor.new c s hp) (rp_lst c s hp r)
theorem Rep.int_eq {i : Int} {v : V} (r : Rep B m (.int i) v) : v = .int i := by simpa only [Rep] using r
theorem Rep.str_eq {i : Str} {v : V} (r : Rep B m (.str i) v) : v = .str i := by simpa only [Rep] using r
theorem Rep.bl_eq {i : Bool} {v : V} (r : Rep B m (.bl i) v) : v = .bl i := by simpa only [Rep] using r
theorem Rep.non_eq {v : V} (r : Rep B m .non v) : v = .non := by simpa only [Rep] using r
end
/-! ### arithmetic -/
def dI (C : Int → Int → Prop) [∀ i j, Decidable (C i j)] (g : Int → Int → D) (_ : Sto) : D → D → Option D
  | .int i, .int j => if C i j then some (g i j) else none
  | _, _ => none
def dI0 (g : Int → Int → D) (_ : Sto) : D → D → Option D
  | .int i, .int j => some (g i j)
  | _, _ => none
theorem op2_I {B : Bas} {C : Int → Int → Prop} [∀ i j, Decidable (C i j)] {f : Int → Int → Int} : Op2 B (rI C fun i j => .int (f i j)) (dI C fun i j => .int (f i j)) := fun m S H x y d1 d2 d s c r1 r2 e Q q => by
  cases d1 with
  | int i =>
    cases d2 with
    | int j =>
      simp only [dI] at e
      split at e
      · cases e
        exact ⟨i, j, r1.int_eq, r2.int_eq, by assumption, q_val s c q (rp_int m)⟩
      · cases e
    | _ => cases e
  | _ => cases e
theorem op2_I0 {B : Bas} {f : Int → Int → Int} : Op2 B (rI0 fun i j => .int (f i j)) (dI0 fun i j => .int (f i j)) := fun m S H x y d1 d2 d s c r1 r2 e Q q => by
  cases d1 with
  | int i =>
    cases d2 with
    | int j => cases e; exact ⟨i, j, r1.int_eq, r2.int_eq, q_val s c q (rp_int m)⟩
    | _ => cases e
  | _ => cases e
theorem op2_B0 {B : Bas} {f : Int → Int → Bool} : Op2 B (rI0 fun i j => .bl (f i j)) (dI0 fun i j => .bl (f i j)) := fun m S H x y d1 d2 d s c r1 r2 e Q q => by
  cases d1 with
  | int i =>
    cases d2 with
    | int j => cases e; exact ⟨i, j, r1.int_eq, r2.int_eq, q_val s c q (rp_bl m)⟩
    | _ => cases e
  | _ => cases e
noncomputable instance (i j : Int) : Decidable (CMul i j) := Classical.propDecidable _
noncomputable instance (i j : Int) : Decidable (CDiv i j) := Classical.propDecidable _
noncomputable instance (i j : Int) : Decidable (CPow i j) := Classical.propDecidable _
def dSub := dI0 fun i j => .int (i - j)
noncomputable def dDiv := dI CDiv fun i j => .int (i / j)
def dMod := dI (fun _ j => 0 < j) fun i j => .int (i % j)
noncomputable def dPow := dI CPow fun i j => .int (i ^ j.toNat)
noncomputable def dShl := dI CPow fun i j => .int (i * 2 ^ j.toNat)
def dAnd := dI0 fun i j => .int (Builtin.bitAnd i j)
def dOr := dI0 fun i j => .int (Builtin.bitOr i j)
def dLt0 := dI0 fun i j => .bl (decide (i < j))
def dLe0 := dI0 fun i j => .bl (decide (i ≤ j))
def dGt0 := dI0 fun i j => .bl (decide (j < i))
def dGe0 := dI0 fun i j => .bl (decide (j ≤ i))
def dAdd (S : Sto) : D → D → Option D
  | .int i, .int j => some (.int (i + j))
  | .str x, .str y => if x.length + y.length ≤ sizeLine then some (.str (x ++ y)) else none
  | .tup x, .tup y => if x.length + y.length ≤ sizeLine then some (.tup (x ++ y)) else none
  | .ktp x, .ktp y => if x.length + y.length ≤ sizeLine ∧ x ≠ [] ∧ y ≠ [] then some (.tup (x ++ y)) else none
  | x, y => match plL S x, plL S y with
    | some x, some y => if x.length + y.length ≤ sizeLine then some (.lst (x ++ y)) else none
    | _, _ => none
def rStrAdd : R2 := fun x y H Q => ∃ i j, x = .str i ∧ y = .str j ∧ i.length + j.length ≤ sizeLine ∧ Q (.str (i ++ j)) H
def rAddU (K : PySem.W.Frag) : R2 := fun x y H Q => (rI0 (fun i j => .int (i + j)) x y H Q ∨ rStrAdd x y H Q) ∨ (rCatA K x y H Q ∨ rCat x y H Q)
theorem op_addU {X : Cx} : OpR X (binaryOp .Add) (rAddU X.K) := (op_add.or op_add_str).or (op_catA.or op_cat)
theorem op2_add {B : Bas} : Op2 B (rAddU B.K) dAdd := fun m S H x y d1 d2 d s c r1 r2 e Q q => by
  have fin : ∀ {a b : List D}, plL S d1 = some a → plL S d2 = some b → (if a.length + b.length ≤ sizeLine then some (D.lst (a ++ b)) else none) = some d → rAddU B.K x y H Q := fun {a b} h1 h2 e => by
    split at e
    · cases e
      obtain ⟨p1, vs, rfl, k1, q1⟩ := repP s c r1 h1
      obtain ⟨p2, us, rfl, k2, q2⟩ := repP s c r2 h2
      exact .inr (.inr ⟨p1, p2, vs, us, rfl, rfl, k1, k2, by rw [← q1.length, ← q2.length]; assumption, q_lst s c q (q1.append q2)⟩)
    · cases e
  unfold dAdd at e
  split at e
  · cases e
    exact .inl (.inl ⟨_, _, r1.int_eq, r2.int_eq, q_val s c q (rp_int m)⟩)
  · split at e
    · cases e
      exact .inl (.inr ⟨_, _, r1.str_eq, r2.str_eq, by assumption, q_val s c q (rp_str m)⟩)
    · cases e
  · split at e
    · cases e
      rename_i a b hl
      have r1' := r1
      have r2' := r2
      simp only [Rep] at r1 r2
      obtain ⟨p1, vs, rfl, k1, q1⟩ := r1
      obtain ⟨p2, us, rfl, k2, q2⟩ := r2
      refine .inr (.inl ⟨p1, p2, vs, us, rfl, rfl, k1.sq s, k2.sq s, by rw [← q1.length, ← q2.length]; exact hl, fun z => ?_, fun _ z => ?_, fun _ _ => q_tup s c q (q1.append q2)⟩)
      · have : a = [] := q1.nil_iff.mp z
        subst this
        exact q_val s c q r2'
      · have : b = [] := q2.nil_iff.mp z
        subst this
        rw [List.append_nil] at q
        exact q_val s c q r1'
    · cases e
  · split at e
    · cases e
      rename_i a b hl
      simp only [Rep] at r1 r2
      obtain ⟨p1, vs, rfl, k1, q1⟩ := r1
      obtain ⟨p2, us, rfl, k2, q2⟩ := r2
      exact .inr (.inl ⟨p1, p2, vs, us, rfl, rfl, k1.sq, k2.sq, by rw [← q1.length, ← q2.length]; exact hl.1, fun z => absurd (q1.nil_iff.mp z) hl.2.1, fun _ z => absurd (q2.nil_iff.mp z) hl.2.2, fun _ _ => q_tup s c q (q1.append q2)⟩)
    · cases e
  · split at e
    · rename_i h1 h2
      exact fin h1 h2 e
    · cases e
noncomputable def dMul (S : Sto) : D → D → Option D
  | .int i, .int j => if CMul i j then some (.int (i * j)) else none
  | x, .int k => match plL S x with
    | some xs => if -(2 ^ 63) ≤ k ∧ k < 2 ^ 63 ∧ xs.length * k.toNat ≤ sizeLine then some (.lst (List.replicate k.toNat xs).flatten) else none
    | none => none
  | _, _ => none
theorem Reps.flat {B : Bas} {m : Mp} {ds : List D} {vs : List V} (r : Reps B m ds vs) : ∀ n : Nat, Reps B m (List.replicate n ds).flatten (List.replicate n vs).flatten
  | 0 => Reps.nil
  | n + 1 => by
    rw [List.replicate_succ, List.replicate_succ, List.flatten_cons, List.flatten_cons]
    exact r.append (Reps.flat r n)
theorem op_mulU {X : Cx} : OpR X (binaryOp .Mult) (fun x y H Q => rI CMul (fun i j => .int (i * j)) x y H Q ∨ rRep x y H Q) := op_mul.or op_rep
theorem op2_mul {B : Bas} : Op2 B (fun x y H Q => rI CMul (fun i j => .int (i * j)) x y H Q ∨ rRep x y H Q) dMul := fun m S H x y d1 d2 d s c r1 r2 e Q q => by
  unfold dMul at e
  split at e
  · split at e
    · cases e
      exact .inl ⟨_, _, r1.int_eq, r2.int_eq, by assumption, q_val s c q (rp_int m)⟩
    · cases e
  · split at e
    · rename_i xs h1
      split at e
      · rename_i hk
        cases e
        obtain ⟨p1, vs, rfl, k1, q1⟩ := repP s c r1 h1
        exact .inr ⟨p1, _, vs, rfl, r2.int_eq, k1, hk.1, hk.2.1, by rw [← q1.length]; exact hk.2.2, q_lst s c q (q1.flat _)⟩
      · cases e
    · cases e
  · cases e
/-! ### equality, membership -/
def dEqB (S : Sto) (x y : D) : Option Bool := match x, y with
  | .str a, .str b => some (decide (a = b))
  | x, y => match pdv S x, pdv S y with
    | some p, some q => if SeqAt.shaped p = true ∧ SeqAt.shaped q = true then some (PyData.eqv p q) else none
    | _, _ => none
def dEq (S : Sto) (x y : D) : Option D := (dEqB S x y).map .bl
def dNe (S : Sto) (x y : D) : Option D := (dEqB S x y).map fun b => .bl (!b)
theorem dEqB_of {B : Bas} {m : Mp} {H : Hp} {S : Sto} {x y : V} {d1 d2 : D} {k : Bool} (s : Sub m H) (c : Cor B m S) (r1 : Rep B m d1 x) (r2 : Rep B m d2 y) (e : dEqB S d1 d2 = some k) :
    (∃ a b : Str, x = .str a ∧ y = .str b ∧ k = decide (a = b)) ∨ ∃ p q, Dp B.K H x p ∧ Dp B.K H y q ∧ SeqAt.shaped p = true ∧ SeqAt.shaped q = true ∧ k = PyData.eqv p q := by
  unfold dEqB at e
  split at e
  · cases e
    exact .inl ⟨_, _, r1.str_eq, r2.str_eq, rfl⟩
  · split at e
    · rename_i p q h1 h2
      split at e
      · rename_i hs
        cases e
        exact .inr ⟨p, q, r1.dpv s c h1, r2.dpv s c h2, hs.1, hs.2, rfl⟩
      · cases e
    · cases e
theorem str_dec (a b : Str) : decide (V.str a = V.str b) = decide (a = b) := by
  by_cases h : a = b
  · subst h; simp
  · rw [decide_eq_false h, decide_eq_false fun z => h (by injection z)]
def rEqU (K : PySem.W.Frag) : R2 := fun x y H Q => rEq x y H Q ∨ rEqD K x y H Q
def rNeU (K : PySem.W.Frag) : R2 := fun x y H Q => rNe x y H Q ∨ rNeD K x y H Q
theorem op_eqU {X : Cx} (hu : X.A.units + 64 < cLine) : OpR X (compareOp .Eq) (rEqU X.K) := op_eq.or (op_eqD hu)
theorem op_neU {X : Cx} (hu : X.A.units + 64 < cLine) : OpR X (compareOp .NotEq) (rNeU X.K) := op_ne.or (op_neD hu)
theorem op2_eq {B : Bas} : Op2 B (rEqU B.K) dEq := fun m S H x y d1 d2 d s c r1 r2 e Q q => by
  unfold dEq at e
  cases h : dEqB S d1 d2 with
  | none => rw [h] at e; cases e
  | some k =>
    rw [h] at e
    cases e
    rcases dEqB_of s c r1 r2 h with ⟨a, b, rfl, rfl, rfl⟩ | ⟨p, z, a1, a2, a3, a4, rfl⟩
    · exact .inl ⟨rfl, by rw [str_dec]; exact q_val s c q (rp_bl m)⟩
    · exact .inr ⟨p, z, a1, a2, a3, a4, q_val s c q (rp_bl m)⟩
theorem op2_ne {B : Bas} : Op2 B (rNeU B.K) dNe := fun m S H x y d1 d2 d s c r1 r2 e Q q => by
  unfold dNe at e
  cases h : dEqB S d1 d2 with
  | none => rw [h] at e; cases e
  | some k =>
    rw [h] at e
    cases e
    rcases dEqB_of s c r1 r2 h with ⟨a, b, rfl, rfl, rfl⟩ | ⟨p, z, a1, a2, a3, a4, rfl⟩
    · exact .inl ⟨rfl, by rw [str_dec]; exact q_val s c q (rp_bl m)⟩
    · exact .inr ⟨p, z, a1, a2, a3, a4, q_val s c q (rp_bl m)⟩
/-- x in t, a tuple -/
def rInT (K : PySem.W.Frag) (f : Bool → Bool) : R2 := fun x y H Q => ∃ d ds, Dp K H x d ∧ Dp K H y (.tuple ds) ∧ SeqAt.shaped d = true ∧ SeqAt.shaped (.tuple ds) = true ∧ Q (.bl (f (ds.any fun z => PyData.eqv z d))) H
theorem op_inT {X : Cx} (hu : X.A.units + 65 < cLine) : OpR X (compareOp .In) (rInT X.K fun b => b) := by
  intro pins s σ H x y v u Q I rx ry h
  obtain ⟨d, ds, hd, he, sd, se, q⟩ := h
  obtain ⟨as, r1⟩ := Dp.reads I d x v hd rx
  obtain ⟨bs, r2⟩ := Dp.reads I (.tuple ds) y u he ry
  exact SeqAt.in_tuple_reads r2 r1 (SeqAt.canLay_of_shaped se) (SeqAt.canLay_of_shaped sd) (PyProof.Rows.room_in_shaped sd hu) ⟨.bl _, H, I, rfl, q⟩
theorem op_notInT {X : Cx} (hu : X.A.units + 65 < cLine) : OpR X (compareOp .NotIn) (rInT X.K fun b => !b) := by
  intro pins s σ H x y v u Q I rx ry h
  obtain ⟨d, ds, hd, he, sd, se, q⟩ := h
  obtain ⟨as, r1⟩ := Dp.reads I d x v hd rx
  obtain ⟨bs, r2⟩ := Dp.reads I (.tuple ds) y u he ry
  exact SeqAt.notIn_tuple_reads r2 r1 (SeqAt.canLay_of_shaped se) (SeqAt.canLay_of_shaped sd) (PyProof.Rows.room_in_shaped sd hu) ⟨.bl _, H, I, rfl, q⟩
def rInU (K : PySem.W.Frag) : R2 := fun x y H Q => ((∃ (c : Nat) (z : Str), x = .str ⟨#[c]⟩ ∧ y = .str z ∧ Q (.bl (decide (c ∈ z.cps.toList))) H) ∨ rInD K x y H Q) ∨ rInT K (fun b => b) x y H Q
def rNotInU (K : PySem.W.Frag) : R2 := fun x y H Q => ((∃ (c : Nat) (z : Str), x = .str ⟨#[c]⟩ ∧ y = .str z ∧ Q (.bl (!decide (c ∈ z.cps.toList))) H) ∨ rNotInD K x y H Q) ∨ rInT K (fun b => !b) x y H Q
theorem op_inU {X : Cx} (hu : X.A.units + 65 < cLine) : OpR X (compareOp .In) (rInU X.K) := (op_in_sign.or (op_inD hu)).or (op_inT hu)
theorem op_notInU {X : Cx} (hu : X.A.units + 65 < cLine) : OpR X (compareOp .NotIn) (rNotInU X.K) := (op_notIn_sign.or (op_notInD hu)).or (op_notInT hu)
def sign1 (w : Str) : Option Nat := match w.cps.toList with
  | [c] => some c
  | _ => none
theorem sign1_eq {w : Str} {c : Nat} (h : sign1 w = some c) : w = ⟨#[c]⟩ := by
  unfold sign1 at h
  split at h
  · rename_i x hx
    cases h
    obtain ⟨a⟩ := w
    congr 1
    exact Array.toList_inj.mp (by simpa using hx)
  · cases h
def dInB (S : Sto) (x y : D) : Option Bool := match y with
  | .str z => match x with
    | .str w => (sign1 w).map fun c => decide (c ∈ z.cps.toList)
    | _ => none
  | y => match seqL S y, seqT y with
    | some ds, _ => match pdv S x, pds ds with
      | some p, some qs => if SeqAt.shaped p = true ∧ SeqAt.shaped (.list qs) = true then some (qs.any fun z => PyData.eqv z p) else none
      | _, _ => none
    | none, some ds => match pdv S x, pds ds with
      | some p, some qs => if SeqAt.shaped p = true ∧ SeqAt.shaped (.tuple qs) = true then some (qs.any fun z => PyData.eqv z p) else none
      | _, _ => none
    | none, none => none
theorem dInB_of {B : Bas} {m : Mp} {H : Hp} {S : Sto} {x y : V} {d1 d2 : D} {k : Bool} (s : Sub m H) (c : Cor B m S) (r1 : Rep B m d1 x) (r2 : Rep B m d2 y) (e : dInB S d1 d2 = some k) :
    (∃ (c : Nat) (z : Str), x = .str ⟨#[c]⟩ ∧ y = .str z ∧ k = decide (c ∈ z.cps.toList)) ∨ (∃ p qs, Dp B.K H x p ∧ Dp B.K H y (.list qs) ∧ SeqAt.shaped p = true ∧ SeqAt.shaped (.list qs) = true ∧ k = (qs.any fun z => PyData.eqv z p)) ∨
      ∃ p qs, Dp B.K H x p ∧ Dp B.K H y (.tuple qs) ∧ SeqAt.shaped p = true ∧ SeqAt.shaped (.tuple qs) = true ∧ k = (qs.any fun z => PyData.eqv z p) := by
  unfold dInB at e
  split at e
  · split at e
    · rename_i z _ w
      cases h : sign1 w with
      | none => rw [h] at e; cases e
      | some c' =>
        rw [h] at e
        cases e
        have := sign1_eq h
        subst this
        exact .inl ⟨_, _, r1.str_eq, r2.str_eq, rfl⟩
    · cases e
  · split at e
    · rename_i ds _ h1
      split at e
      · rename_i p qs h2 h3
        split at e
        · rename_i hs
          cases e
          obtain ⟨a, vs, rfl, q, t⟩ := repL s c r2 h1
          exact .inr (.inl ⟨p, qs, r1.dpv s c h2, .lst q (t.dp s h3), hs.1, hs.2, rfl⟩)
        · cases e
      · cases e
    · rename_i ds _ h1
      split at e
      · rename_i p qs h2 h3
        split at e
        · rename_i hs
          cases e
          obtain ⟨a, vs, rfl, q, t⟩ := repT s r2 h1
          exact .inr (.inr ⟨p, qs, r1.dpv s c h2, .tup q (t.dp s h3), hs.1, hs.2, rfl⟩)
        · cases e
      · cases e
    · cases e
def dIn (S : Sto) (x y : D) : Option D := (dInB S x y).map .bl
def dNotIn (S : Sto) (x y : D) : Option D := (dInB S x y).map fun b => .bl (!b)
theorem op2_in {B : Bas} : Op2 B (rInU B.K) dIn := fun m S H x y d1 d2 d s c r1 r2 e Q q => by
  unfold dIn at e
  cases h : dInB S d1 d2 with
  | none => rw [h] at e; cases e
  | some k =>
    rw [h] at e
    cases e
    rcases dInB_of s c r1 r2 h with ⟨c', z, a1, a2, rfl⟩ | ⟨p, qs, a1, a2, a3, a4, rfl⟩ | ⟨p, qs, a1, a2, a3, a4, rfl⟩
    · exact .inl (.inl ⟨c', z, a1, a2, q_val s c q (rp_bl m)⟩)
    · exact .inl (.inr ⟨p, qs, a1, a2, a3, a4, q_val s c q (rp_bl m)⟩)
    · exact .inr ⟨p, qs, a1, a2, a3, a4, q_val s c q (rp_bl m)⟩
theorem op2_notIn {B : Bas} : Op2 B (rNotInU B.K) dNotIn := fun m S H x y d1 d2 d s c r1 r2 e Q q => by
  unfold dNotIn at e
  cases h : dInB S d1 d2 with
  | none => rw [h] at e; cases e
  | some k =>
    rw [h] at e
    cases e
    rcases dInB_of s c r1 r2 h with ⟨c', z, a1, a2, rfl⟩ | ⟨p, qs, a1, a2, a3, a4, rfl⟩ | ⟨p, qs, a1, a2, a3, a4, rfl⟩
    · exact .inl (.inl ⟨c', z, a1, a2, q_val s c q (rp_bl m)⟩)
    · exact .inl (.inr ⟨p, qs, a1, a2, a3, a4, q_val s c q (rp_bl m)⟩)
    · exact .inr ⟨p, qs, a1, a2, a3, a4, q_val s c q (rp_bl m)⟩
/-! ### is None -/
def isNon : D → Bool
  | .non => true
  | _ => false
def dIs (_ : Sto) (x y : D) : Option D := match y with
  | .non => some (.bl (isNon x))
  | _ => none
def dIsNot (_ : Sto) (x y : D) : Option D := match y with
  | .non => some (.bl (!isNon x))
  | _ => none
theorem rep_non_iff {B : Bas} {m : Mp} {d : D} {v : V} (r : Rep B m d v) : decide (v = V.non) = isNon d := by
  cases d <;> simp only [Rep] at r
  case non => subst r; rfl
  case bl => subst r; rfl
  case int => subst r; rfl
  case str => subst r; rfl
  case fn => subst r; rfl
  case ty => subst r; rfl
  case cl => subst r; rfl
  case ref => obtain ⟨_, rfl⟩ := r; rfl
  case tup => obtain ⟨a, vs, rfl, _⟩ := r; rfl
  case lst => obtain ⟨a, vs, rfl, _⟩ := r; rfl
  case scr => obtain ⟨a, vs, rfl, _⟩ := r; rfl
  case ktp => obtain ⟨a, vs, rfl, _⟩ := r; rfl
  case dic => obtain ⟨a, vs, rfl, _⟩ := r; rfl
  case ins => obtain ⟨a, dx, vs, rfl, _⟩ := r; rfl
def rIsU : R2 := fun x y H Q => y = .non ∧ Q (.bl (decide (x = .non))) H
def rIsNotU : R2 := fun x y H Q => y = .non ∧ Q (.bl (!decide (x = .non))) H
theorem op2_is {B : Bas} : Op2 B rIsU dIs := fun m S H x y d1 d2 d s c r1 r2 e Q q => by
  cases d2 with
  | non => cases e; exact ⟨r2.non_eq, by rw [rep_non_iff r1]; exact q_val s c q (rp_bl m)⟩
  | _ => cases e
theorem op2_isNot {B : Bas} : Op2 B rIsNotU dIsNot := fun m S H x y d1 d2 d s c r1 r2 e Q q => by
  cases d2 with
  | non => cases e; exact ⟨r2.non_eq, by rw [rep_non_iff r1]; exact q_val s c q (rp_bl m)⟩
  | _ => cases e
/-! ### unary -/
def dNeg (_ : Sto) : D → Option D
  | .int i => some (.int (-i))
  | _ => none
def mUn (g : Sto → D → Option D) (a : ME) : ME := fun en S => (a en S).bind fun x S1 => match g S1 x with
  | some d => .ok d S1
  | none => .bad
theorem op1_neg {B : Bas} : Op1 B (rU fun i => .int (-i)) dNeg := fun m S H x d1 d s c r1 e Q q => by
  cases d1 with
  | int i => cases e; exact ⟨i, r1.int_eq, q_val s c q (rp_int m)⟩
  | _ => cases e
theorem tUn_of {B : Bas} {W : WX} {r : V → Hp → VK → Prop} {g : Sto → D → Option D} {a : ME} (h : Op1 B r g) (σ : L2.St) (H : Hp) (Q : VK) (t : tE B W (mUn g a) σ H Q) : tUn r (tE B W a) σ H Q := by
  obtain ⟨m, S, en, s, c, er, p⟩ := t
  refine ⟨m, S, en, s, c, er, (Post.bind p).imp ?_⟩
  rintro x H1 ⟨d1, S1, m1, _, l1, c1, r1, p1⟩
  cases e : g S1 d1 with
  | none => rw [e] at p1; exact p1.elim
  | some d => rw [e] at p1; exact h m1 S1 H1 x d1 d l1.sub c1 r1 e Q p1
theorem de_un {X : Cx} {B : Bas} {W : WX} {op : UnaryOp} {a : Expr} {pos : Pos} {ma : ME} {r : V → Hp → VK → Prop} {g : Sto → D → Option D} (ho : UnR X (unaryOp op) r) (h : Op1 B r g) (ha : PE X a (tE B W ma)) : PE X (.UnaryOp op a pos) (tE B W (mUn g ma)) :=
  PE.cut (pe_un ho ha) (tUn_of h)
/-! ### subscripts -/
def lookD : List D → List D → D → Option D
  | k :: ks, v :: vs, x => match keyD k, keyD x with
    | some a, some b => if a = b then some v else lookD ks vs x
    | _, _ => match tkeyD k, tkeyD x with
      | some a, some b => if a = b then some v else lookD ks vs x
      | _, _ => none
  | _, _, _ => none
def dIdx (S : Sto) (x y : D) : Option D := match y with
  | .int i => match x with
    | .str z => if z.length ≤ sizeLine then (atI z.cps.toList i).map fun c => .str ⟨#[c]⟩ else none
    | x => match seqL S x, seqT x with
      | some ds, _ => atI ds i
      | none, some ds => atI ds i
      | none, none => none
  | _ => none
theorem Reps.at {B : Bas} {m : Mp} {ds : List D} {vs : List V} {i : Int} {d : D} (r : Reps B m ds vs) (e : atI ds i = some d) : ∃ v, atI vs i = some v ∧ Rep B m d v := by
  unfold atI at e ⊢
  rw [← r.length]
  cases h : ixN ds.length i with
  | none => rw [h] at e; cases e
  | some j => rw [h] at e; exact r.get e
theorem op2_idx {B : Bas} : Op2 B (rIx B.K) dIdx := fun m S H x y d1 d2 d s c r1 r2 e Q q => by
  unfold dIdx at e
  split at e
  · split at e
    · split at e
      · rename_i z hz
        rename_i i' _
        cases h : atI z.cps.toList i' with
        | none => rw [h] at e; cases e
        | some c' => rw [h] at e; cases e; exact .inr (.inr ⟨z, _, c', r1.str_eq, r2.int_eq, hz, h, q_val s c q (rp_str m)⟩)
      · cases e
    · split at e
      · rename_i ds _ h1
        obtain ⟨a, vs, rfl, k, t⟩ := repL s c r1 h1
        obtain ⟨v, hv, rv⟩ := t.at e
        exact .inl ⟨a, vs, _, v, rfl, r2.int_eq, k, hv, q_val s c q rv⟩
      · rename_i ds _ h1
        obtain ⟨a, vs, rfl, k, t⟩ := repT s r1 h1
        obtain ⟨v, hv, rv⟩ := t.at e
        exact .inr (.inl ⟨a, vs, _, v, rfl, r2.int_eq, k, hv, q_val s c q rv⟩)
      · cases e
  · cases e
theorem de_idx {X : Cx} {B : Bas} {W : WX} {a b : Expr} {pos : Pos} {ma mb : ME} {r : R2} {g : Sto → D → D → Option D} (hr : IxR X r) (h : Op2 B r g) (ha : PE X a (tE B W ma)) (hb : PE X b (tE B W mb)) (hs : PlainIx b := by intro _ _; rfl) : PE X (.Subscript a b pos) (tE B W (mOp g ma mb)) :=
  PE.cut (pe_ix hr ha hb hs) (tOp_of h)
end G
end
section
set_option Elab.async false
set_option linter.all false
set_option maxRecDepth 100000
set_option maxHeartbeats 2000000
/-! G6: what is walked; list comprehensions -/
namespace G
open PySem L2
/-! ### what is walked -/
theorem PI.cut {X : Cx} {tg e : Expr} {t t' : TI} (h : PI X tg e t) (f : ∀ σ H R, t' σ H R → t σ H R) : PI X tg e t' := ⟨fun pins s σ H R I q => h.run pins s σ H R I (f σ H R q)⟩
def iSeqU (K : PySem.W.Frag) (tl : TE) : TI := fun σ H R => tl σ H fun x H1 => ∃ a, x = .ref a ∧ (((∃ xs, SqL K H1 a xs) ∧ R (Itl K a) H1) ∨ ((∃ xs, SqT K H1 a xs) ∧ R (Itt K a) H1))
theorem pi_seq {X : Cx} {tg l : Expr} {tl : TE} (hl : PE X l tl) : PI X tg l (iSeqU X.K tl) := ⟨fun pins s σ H R I h => by
  refine thn (hl.run pins s σ H _ I h) fun v s1 hq => ?_
  obtain ⟨x, H1, I1, r1, a, rfl, q⟩ := hq
  cases r1
  have fresh : ∀ b, b ∈ [s1.heap.objs.size] → FpOk X pins H1 b := fun b hb => by
    have e : b = s1.heap.objs.size := by simpa using hb
    rw [e]
    exact I1.fpOk (Nat.le_refl _) (I1.hok.fresh (Nat.le_refl _))
  rcases q with ⟨⟨xs, hs⟩, q⟩ | ⟨⟨xs, hs⟩, q⟩
  · obtain ⟨its, _, p, _⟩ := I1.list hs
    exact wpAny_pyIter_list p.isList ⟨_, _, _, _, H1, rfl, I1.kept (t' := s1.toks) (fun b o e => Heap.get?_push_of_some _ e), turn_list a _, ⟨_, Heap.get?_push_size _ rfl, rfl, rfl⟩, fresh, q⟩
  · obtain ⟨its, _, p, _⟩ := I1.tuple hs
    exact wpAny_pyIter_tuple (show s1.heap.IsTuple a its.toArray from p) ⟨_, _, _, _, H1, rfl, I1.kept (t' := s1.toks) (fun b o e => Heap.get?_push_of_some _ e), turn_tuple a _, ⟨_, Heap.get?_push_size _ rfl, rfl, rfl⟩, fresh, q⟩⟩
def iSeq (e : ME) : MI := fun en S => (e en S).bind fun d S1 => match seqL S1 d, seqT d with
  | some ds, _ => .ok ⟨ds, fun S => seqL S d = some ds⟩ S1
  | none, some ds => .ok ⟨ds, fun _ => True⟩ S1
  | none, none => .bad
theorem itr_list {B : Bas} {m : Mp} {a : Addr} {d : D} {ds : List D} (r : Rep B m d (.ref a)) : ItR B m ⟨ds, fun S => seqL S d = some ds⟩ (Itl B.K a) := fun m' H' S k s c p => by
  obtain ⟨a', vs, e, hs, rs⟩ := repL s c (r.monoK k) p
  cases e
  refine ⟨fun i x e => ?_, fun i hi => ⟨vs, hs, by rw [← rs.length]; exact hi⟩⟩
  obtain ⟨v, hv, rv⟩ := rs.get e
  refine ⟨⟨vs, v, hs, hv⟩, fun y H'' hy => ?_⟩
  obtain ⟨rfl, hy⟩ := hy
  have := hy vs hs
  rw [hv] at this
  cases this
  exact ⟨m', Le.refl s, c, rv⟩
theorem itr_tup {B : Bas} {m : Mp} {a : Addr} {d : D} {ds : List D} (r : Rep B m d (.ref a)) (e : seqT d = some ds) : ItR B m ⟨ds, fun _ => True⟩ (Itt B.K a) := fun m' H' S k s c _ => by
  obtain ⟨a', vs, e, hs, rs⟩ := repT s (r.monoK k) e
  cases e
  refine ⟨fun i x e => ?_, fun i hi => ⟨vs, hs, by rw [← rs.length]; exact hi⟩⟩
  obtain ⟨v, hv, rv⟩ := rs.get e
  refine ⟨⟨vs, v, hs, hv⟩, fun y H'' hy => ?_⟩
  obtain ⟨rfl, hy⟩ := hy
  have := hy vs hs
  rw [hv] at this
  cases this
  exact ⟨m', Le.refl s, c, rv⟩
theorem di_seq {X : Cx} {B : Bas} {W : WX} {tg l : Expr} {me : ME} (hK : B.K = X.K := by rfl) (hl : PE X l (tE B W me)) : PI X tg l (tI B W (iSeq me)) :=
  PI.cut (pi_seq hl) fun σ H R ⟨m, S, en, s, c, er, p⟩ => ⟨m, S, en, s, c, er, (Post.bind p).imp (by
    rintro v H1 ⟨d, S1, m1, _, l1, c1, r1, p1⟩
    rw [← hK]
    cases h1 : seqL S1 d with
    | some ds =>
      rw [h1] at p1
      obtain ⟨a, vs, rfl, hs, _⟩ := repL l1.sub c1 r1 h1
      exact ⟨a, rfl, .inl ⟨⟨vs, hs⟩, p1 m1 H1 _ (Le.refl l1.sub) c1 (itr_list r1)⟩⟩
    | none =>
      cases h2 : seqT d with
      | some ds =>
        rw [h1, h2] at p1
        obtain ⟨a, vs, rfl, hs, _⟩ := repT l1.sub r1 h2
        exact ⟨a, rfl, .inr ⟨⟨vs, hs⟩, p1 m1 H1 _ (Le.refl l1.sub) c1 (itr_tup r1 h2)⟩⟩
      | none => rw [h1, h2] at p1; exact p1.elim)⟩
def rangeD (lo : Int) (n : Nat) : List D := (List.range n).map fun k => .int (lo + (k : Nat))
theorem itr_range {B : Bas} {m : Mp} {lo : Int} {n : Nat} : ItR B m ⟨rangeD lo n, fun _ => True⟩ (Itr lo n) := fun m' H' S k s c _ => by
  refine ⟨fun i x e => ?_, fun i hi => by
    have hi : n ≤ i := by simpa [rangeD] using hi
    exact hi⟩
  have hi : i < n := by
    have := (List.getElem?_eq_some_iff.mp e).1
    simpa [rangeD] using this
  refine ⟨hi, fun y H'' hy => ?_⟩
  obtain ⟨rfl, rfl⟩ := hy
  refine ⟨m', Le.refl s, c, ?_⟩
  have : x = .int (lo + (i : Nat)) := by
    unfold rangeD at e
    rw [List.getElem?_map, List.getElem?_range hi] at e
    cases e
    rfl
  rw [this]
  exact rp_int m'
/-- what range takes (told so that nothing is reckoned with it ahead of its turn) -/
def rgOk (j : Int) : Prop := -(2 ^ 62) ≤ j ∧ j < 2 ^ 62
open Classical in
noncomputable def iRg1 (r : MA) : MI := fun en S => (r en S).bind fun ds S1 => match ds with
  | [.int j] => if rgOk j then .ok ⟨rangeD 0 j.toNat, fun _ => True⟩ S1 else .bad
  | _ => .bad
open Classical in
noncomputable def iRg2 (r : MA) : MI := fun en S => (r en S).bind fun ds S1 => match ds with
  | [.int i, .int j] => if rgOk i ∧ rgOk j then .ok ⟨rangeD i (j - i).toNat, fun _ => True⟩ S1 else .bad
  | _ => .bad
theorem di_rg1 {X : Cx} {B : Bas} {W : WX} {tg a : Expr} {mr : MA} {p pos : Pos} (hm : X.mg "range" = none) (ha : PA X [a] (tA B W mr)) (hg : Gl X "range" := by rfl) (hs : starEach [a] X.env = [(false, eval a X.env)] := by rfl) :
    PI X tg (.Call (.Name "range" p) [a] [] pos) (tI B W (iRg1 mr)) := PI.cut (pi_range1 hg hm ha hs) fun σ H R ⟨m, S, en, s, c, er, p⟩ => ⟨m, S, en, s, c, er, (Post.bind p).imp (by
    rintro vs H1 ⟨ds, S1, m1, _, l1, c1, r1, p1⟩
    split at p1
    · rename_i j _
      split at p1
      · rename_i hj
        simp only [Reps] at r1
        obtain ⟨v, r, rfl, rv, rfl⟩ := r1
        exact ⟨j, by rw [rv.int_eq], hj.1, hj.2, p1 m1 H1 _ (Le.refl l1.sub) c1 itr_range⟩
      · exact p1.elim
    · exact p1.elim)⟩
theorem di_rg2 {X : Cx} {B : Bas} {W : WX} {tg a b : Expr} {mr : MA} {p pos : Pos} (hm : X.mg "range" = none) (ha : PA X [a, b] (tA B W mr)) (hg : Gl X "range" := by rfl) (hs : starEach [a, b] X.env = [(false, eval a X.env), (false, eval b X.env)] := by rfl) (hs2 : starEach [b] X.env = [(false, eval b X.env)] := by rfl) :
    PI X tg (.Call (.Name "range" p) [a, b] [] pos) (tI B W (iRg2 mr)) := PI.cut (pi_range2 hg hm ha hs hs2) fun σ H R ⟨m, S, en, s, c, er, p⟩ => ⟨m, S, en, s, c, er, (Post.bind p).imp (by
    rintro vs H1 ⟨ds, S1, m1, _, l1, c1, r1, p1⟩
    split at p1
    · rename_i i j _
      split at p1
      · rename_i hj
        simp only [Reps] at r1
        obtain ⟨v, r, rfl, rv, v2, r2, rfl, rv2, rfl⟩ := r1
        exact ⟨i, j, by rw [rv.int_eq, rv2.int_eq], ⟨hj.1.1, hj.1.2, hj.2.1, hj.2.2⟩, p1 m1 H1 _ (Le.refl l1.sub) c1 itr_range⟩
      · exact p1.elim
    · exact p1.elim)⟩
/-! ### list comprehensions -/
def Res.noex {α : Type} : Res α → Res α
  | .ok a S => .ok a S
  | _ => .bad
theorem Post.noex {α β : Type} {B : Bas} {R : Mp → α → β → Prop} {W W' : XK} {m : Mp} {H : Hp} {Q : β → Hp → Prop} {r : Res α} (h : Post B R W m H Q r.noex) : Post B R W' m H Q r := by
  cases r with
  | ok a S => exact h
  | ex c ns vs S => exact h.elim
  | bad => exact h
def wipeE (en : En) : List Nat → En
  | [] => en
  | v :: vs => (wipeE en vs).set v none
theorem wipeE_length (en : En) : ∀ vs : List Nat, (wipeE en vs).length = en.length
  | [] => rfl
  | v :: vs => by unfold wipeE; rw [List.length_set, wipeE_length en vs]
theorem wipe_other {σ : L2.St} {j : Nat} : ∀ {vs : List Nat}, j ∉ vs → (wipe σ vs)[j]? = σ[j]?
  | [], _ => rfl
  | v :: vs, h => by
    unfold wipe
    rw [List.getElem?_set_ne (fun z => h (by simp [z]))]
    exact wipe_other fun z => h (List.mem_cons_of_mem _ z)
theorem wipe_own {σ : L2.St} {j : Nat} (hj : j < σ.length) : ∀ {vs : List Nat}, j ∈ vs → (wipe σ vs)[j]? = some none
  | v :: vs, h => by
    unfold wipe
    by_cases e : v = j
    · subst e
      rw [List.getElem?_set_self (by rw [wipe_length]; exact hj)]
    · rw [List.getElem?_set_ne e]
      rcases List.mem_cons.mp h with z | z
      · exact absurd z.symm e
      · exact wipe_own hj z
theorem wipeE_some {en : En} {j : Nat} {d : D} : ∀ {vs : List Nat}, (wipeE en vs)[j]? = some (some d) → j ∉ vs ∧ en[j]? = some (some d)
  | [], h => ⟨by simp, h⟩
  | v :: vs, h => by
    unfold wipeE at h
    by_cases e : v = j
    · subst e
      by_cases hv : v < (wipeE en vs).length
      · rw [List.getElem?_set_self hv] at h; cases h
      · rw [List.getElem?_eq_none (by rw [List.length_set]; omega)] at h; cases h
    · rw [List.getElem?_set_ne e] at h
      obtain ⟨h1, h2⟩ := wipeE_some h
      exact ⟨by
        intro z
        rcases List.mem_cons.mp z with z | z
        · exact e z.symm
        · exact h1 z, h2⟩
theorem EnR.wipe {B : Bas} {m : Mp} {en : En} {σ : L2.St} (h : EnR B m en σ) (vs : List Nat) : EnR B m (wipeE en vs) (L2.wipe σ vs) := by
  refine ⟨by rw [wipeE_length, L2.wipe_length, h.1], fun i d e => ?_⟩
  obtain ⟨h1, h2⟩ := wipeE_some e
  obtain ⟨v, hv, rv⟩ := h.2 i d h2
  exact ⟨v, by rw [wipe_other h1]; exact hv, rv⟩
theorem wipe_only {own vs : List Nat} {σ σ' : L2.St} (h : Only own (wipe σ vs) σ') (hs : ∀ j ∈ own, j ∈ vs) : wipe σ' vs = wipe σ vs := by
  have hl : σ'.length = σ.length := by rw [h.1, wipe_length]
  apply List.ext_getElem?
  intro j
  by_cases hj : j ∈ vs
  · by_cases hk : j < σ.length
    · rw [wipe_own (by rw [hl]; exact hk) hj, wipe_own hk hj]
    · rw [List.getElem?_eq_none (by rw [wipe_length, hl]; omega), List.getElem?_eq_none (by rw [wipe_length]; omega)]
  · rw [wipe_other hj, h.2 j fun z => hj (hs j z)]
open Classical in
noncomputable def comp (g : MG) (t : MT) (e : ME) (P : Sto → Prop) (en : En) : List D → List D → Sto → Res (List D)
  | [], acc, S => if P S then .ok acc S else .bad
  | d :: ds, acc, S => if P S then (match g d en with
    | none => .bad
    | some en1 => (t en1 S).noex.bind fun k S1 => match k with
      | false => comp g t e P en ds acc S1
      | true => (e en1 S1).noex.bind fun x S2 => if acc.length < sizeLine then comp g t e P en ds (acc ++ [x]) S2 else .bad) else .bad
noncomputable def cItems (i : MI) (g : MG) (t : MT) (e : ME) (vs : List Nat) (en : En) (S : Sto) : Res (List D) := (i en S).bind fun its S1 => comp g t e its.P (wipeE en vs) its.ds [] S1
noncomputable def mLc (i : MI) (g : MG) (t : MT) (e : ME) (vs : List Nat) : ME := fun en S => (cItems i g t e vs en S).bind fun ds S1 => .ok (.lst ds) S1
noncomputable def mLcN (i : MI) (g : MG) (t : MT) (e : ME) (vs : List Nat) : ME := fun en S => (cItems i g t e vs en S).bind fun ds S1 => .ok (.ref S1.length) (S1 ++ [.lst ds])
def del (H : Hp) (p : Addr) : Hp := fun a => if a = p then none else H a
theorem del_at {H : Hp} {p : Addr} : del H p p = none := by unfold del; rw [if_pos rfl]
theorem del_ne {H : Hp} {p a : Addr} (h : a ≠ p) : del H p a = H a := by unfold del; rw [if_neg h]
theorem del_upd {H : Hp} {p : Addr} {o : HO} : del (upd H p o) p = del H p := by
  funext a
  by_cases h : a = p
  · rw [h, del_at, del_at]
  · rw [del_ne h, del_ne h, upd_ne h]
theorem upd_del {H : Hp} {p : Addr} {o : HO} (h : H p = some o) : upd (del H p) p o = H := by
  funext a
  by_cases e : a = p
  · rw [e, upd_same, h]
  · rw [upd_ne e, del_ne e]
theorem del_new {H : Hp} {p : Addr} (h : H p = none) : del H p = H := by
  funext a
  by_cases e : a = p
  · rw [e, del_at, h]
  · rw [del_ne e]
theorem Le.del {m m' : Mp} {H H' : Hp} {p : Addr} (l : Le m H m' H') (hz : m.Z p = none) (hp : ∃ o, H p = some o) : Le m (G.del H p) m' (G.del H' p) where
  toKp := l.toKp
  fr := fun a o h1 h2 => by
    by_cases e : a = p
    · rw [e, del_at] at h2; cases h2
    · rw [del_ne e] at h2 ⊢
      exact l.fr a o h1 h2
  sub := fun a o h => by
    obtain ⟨u, hu⟩ := hp
    have e : a ≠ p := fun z => by
      rw [z, (l.fr p u hz hu).2] at h
      cases h
    rw [del_ne e]
    exact l.sub a o h
/-- one comprehension: the list comes to be at p, apart from what is told of -/
theorem comp_run {B : Bas} {W : WX} {m1 : Mp} {H1 : Hp} {S1 : Sto} {its : Its} {J : It} {en : En} {σ : L2.St} {vs own : List Nat} {g : TG} {t : MG} {tt : MT} {te : ME} {Q : VK} {K2 : List D → Sto → Res D}
    (sub1 : Sub m1 H1) (c1 : Cor B m1 S1) (er : EnR B m1 en σ) (ir : ItR B m1 its J) (ht : TgR B own g t) (hown : ∀ j ∈ own, j ∈ vs) (D : Addr) (hD : H1 D = none)
    (hend : ∀ (m' : Mp) (H' : Hp) (S' : Sto) (acc : List G.D) (av : List V), Le m1 H1 m' (del H' D) → Cor B m' S' → H' D = some (.lst av) → Reps B m' acc av → Post B (Rep B) (at' W σ) m' (del H' D) Q (K2 acc S') → Q (.ref D) H')
    (p1 : Post B (Rep B) (at' W σ) m1 H1 Q ((comp t tt te its.P (wipeE en vs) its.ds [] S1).bind K2)) :
    ∃ Wt : Nat → Nat → Hp → Prop, (∃ k, Wt 0 k (upd H1 D (.lst []))) ∧ ∀ i k H, Wt i k H →
      (J.stop i H ∧ Q (.ref D) H) ∨ (J.go i H ∧ ∃ Nx : Hp → Prop, (∀ H', Nx H' → ∃ m', m' < k ∧ Wt (i + 1) m' H') ∧ ∀ x H', J.yld i H x H' → g x (wipe σ vs) H' fun σ2 H2 => wipe σ2 vs = wipe σ vs ∧ tT B W0 tt σ2 H2 fun b H3 =>
        if b = true then tE B W0 te σ2 H3 fun y H4 => ∃ acc, H4 D = some (.lst acc) ∧ acc.length < sizeLine ∧ Nx (upd H4 D (.lst (acc ++ [y]))) else Nx H3) := by
  refine ⟨fun i k H' => k = its.ds.length - i ∧ ∃ m' S' acc av, Le m1 H1 m' (del H' D) ∧ Cor B m' S' ∧ H' D = some (.lst av) ∧ Reps B m' acc av ∧ Post B (Rep B) (at' W σ) m' (del H' D) Q ((comp t tt te its.P (wipeE en vs) (its.ds.drop i) acc S').bind K2),
    ⟨_, rfl, m1, S1, [], [], by rw [del_upd, del_new hD]; exact Le.refl sub1, c1, upd_same, Reps.nil, by rw [del_upd, del_new hD]; exact p1⟩, ?_⟩
  rintro i k H' ⟨rfl, m', S', acc, av, l', c', hDa, ra, p'⟩
  have zD : m'.Z D = none := l'.sub.none del_at
  have sub' : Sub m' H' := fun a o h => by
    have e : a ≠ D := fun z => by rw [z, zD] at h; cases h
    have := l'.sub a o h
    rwa [del_ne e] at this
  by_cases hP : its.P S'
  · obtain ⟨hg, hs⟩ := ir m' H' S' l'.toKp sub' c' hP
    cases hd : its.ds[i]? with
    | none =>
      have hi : its.ds.length ≤ i := List.getElem?_eq_none_iff.mp hd
      rw [List.drop_eq_nil_of_le hi, comp, if_pos hP] at p'
      exact .inl ⟨hs i hi, hend m' H' S' acc av l' c' hDa ra p'⟩
    | some d =>
      have hi : i < its.ds.length := (List.getElem?_eq_some_iff.mp hd).1
      obtain ⟨go, yl⟩ := hg i d hd
      have e1 : its.ds.drop i = d :: its.ds.drop (i + 1) := by
        rw [List.drop_eq_getElem_cons hi]
        congr 1
        exact (List.getElem?_eq_some_iff.mp hd).2
      rw [e1, comp, if_pos hP] at p'
      refine .inr ⟨go, fun H2 => its.ds.length - (i + 1) = its.ds.length - (i + 1) ∧ ∃ m2 S2 acc2 av2, Le m1 H1 m2 (del H2 D) ∧ Cor B m2 S2 ∧ H2 D = some (.lst av2) ∧ Reps B m2 acc2 av2 ∧ Post B (Rep B) (at' W σ) m2 (del H2 D) Q ((comp t tt te its.P (wipeE en vs) (its.ds.drop (i + 1)) acc2 S2).bind K2),
        fun H2 n2 => ⟨its.ds.length - (i + 1), by omega, n2⟩, fun x H'' y => ?_⟩
      obtain ⟨m2, l2, c2, r2⟩ := yl x H'' y
      have l2d := l2.del zD ⟨_, hDa⟩
      obtain ⟨hD2, zD2⟩ := l2.fr D _ zD hDa
      cases e2 : t d (wipeE en vs) with
      | none => rw [e2] at p'; exact p'.elim
      | some en1 =>
        rw [e2] at p'
        refine ht m2 H'' (wipeE en vs) en1 (wipe σ vs) d x l2.sub r2 (((er.wipe vs).mono l').mono l2d) e2 _ fun σ2 er2 on => ⟨wipe_only on hown, ?_⟩
        simp only [] at p'
        have key : ∀ (m3 : Mp) (H3 : Hp), Le m2 H'' m3 H3 → H3 D = some (.lst av) ∧ m3.Z D = none ∧ Le m1 H1 m3 (del H3 D) := fun m3 H3 l3 => by
          obtain ⟨a1, a2⟩ := l3.fr D _ zD2 hD2
          exact ⟨a1, a2, (l'.trans l2d).trans (l3.del zD2 ⟨_, hD2⟩)⟩
        have p2 := p'.shift l2d
        cases hk : tt en1 S' with
        | bad => rw [hk] at p2; exact p2.elim
        | ex c ns vs S3 => rw [hk] at p2; exact p2.elim
        | ok kk S3 =>
          rw [hk] at p2
          refine ⟨m2, S', en1, l2.sub, c2, er2, ?_⟩
          rw [hk]
          intro m3 H3 b l3 c3 rb
          cases rb
          obtain ⟨hD3, zD3, l13⟩ := key m3 H3 l3
          cases kk with
          | false =>
            refine iteF ⟨rfl, m3, S3, acc, av, l13, c3, hD3, (ra.mono l2d).mono l3, ?_⟩
            exact p2.shift (l3.del zD2 ⟨_, hD2⟩)
          | true =>
            refine iteT ?_
            cases hx : te en1 S3 with
            | bad => simp only [Res.noex, Res.bind_ok, hx] at p2; exact p2.elim
            | ex c ns vs S4 => simp only [Res.noex, Res.bind_ok, hx] at p2; exact p2.elim
            | ok xx S4 =>
              simp only [Res.noex, Res.bind_ok, hx] at p2
              refine ⟨m3, S3, en1, l3.sub, c3, er2.mono l3, ?_⟩
              rw [hx]
              intro m4 H4 yv l4 c4 ry
              obtain ⟨hD4, zD4⟩ := l4.fr D _ zD3 hD3
              have l34 := l4.del zD3 ⟨_, hD3⟩
              split at p2
              · rename_i hlen
                have ra4 : Reps B m4 (acc ++ [xx]) (av ++ [yv]) := (((ra.mono l2d).mono l3).mono l4).append (Reps.cons ry Reps.nil)
                refine ⟨av, hD4, by rw [← ra.length]; exact hlen, rfl, m4, S4, acc ++ [xx], av ++ [yv], by rw [del_upd]; exact l13.trans l34, c4, upd_same, ra4, ?_⟩
                rw [del_upd]
                exact (p2.shift (l3.del zD2 ⟨_, hD2⟩)).shift l34
              · exact p2.elim
  · exfalso
    cases hl : its.ds.drop i with
    | nil => rw [hl, comp, if_neg hP] at p'; exact p'
    | cons d ds => rw [hl, comp, if_neg hP] at p'; exact p'
theorem tLc_of {B : Bas} {W : WX} {mi : MI} {g : TG} {t : MG} {tt : MT} {te : ME} {vs own : List Nat} (ht : TgR B own g t) (hown : ∀ j ∈ own, j ∈ vs) (σ : L2.St) (H : Hp) (Q : VK) (q : tE B W (mLc mi t tt te vs) σ H Q) : tLc (tI B W mi) g (tT B W0 tt) (tE B W0 te) vs σ H Q := by
  obtain ⟨m, S, en, s, c, er, p⟩ := q
  have p0 : Post B (Rep B) (at' W σ) m H Q ((mi en S).bind fun its S1 => (comp t tt te its.P (wipeE en vs) its.ds [] S1).bind fun ds S1 => .ok (.lst ds) S1) := by
    have : (mi en S).bind (fun its S1 => (comp t tt te its.P (wipeE en vs) its.ds [] S1).bind fun ds S1 => .ok (.lst ds) S1) = mLc mi t tt te vs en S := by
      unfold mLc cItems
      cases mi en S <;> rfl
    rw [this]
    exact p
  refine ⟨m, S, en, s, c, er, (Post.bind p0).imp ?_⟩
  rintro J H1 ⟨its, S1, m1, _, l1, c1, ir, p1⟩
  intro D hD
  refine comp_run l1.sub c1 (er.mono l1) ir ht hown D hD (fun m' H' S' acc av l' c' hDa ra pe => ?_) p1
  have := pe (m'.put D (.lst av)) (upd (del H' D) D (.lst av)) (.ref D) (Le.new c' l'.sub del_at) (Cor.new c' l'.sub del_at) (rp_lst c' l'.sub del_at ra)
  rwa [upd_del hDa] at this
theorem tLcN_of {B : Bas} {W : WX} {mi : MI} {g : TG} {t : MG} {tt : MT} {te : ME} {vs own : List Nat} (ht : TgR B own g t) (hown : ∀ j ∈ own, j ∈ vs) (σ : L2.St) (H : Hp) (Q : VK) (q : tE B W (mLcN mi t tt te vs) σ H Q) : tLc (tI B W mi) g (tT B W0 tt) (tE B W0 te) vs σ H Q := by
  obtain ⟨m, S, en, s, c, er, p⟩ := q
  have p0 : Post B (Rep B) (at' W σ) m H Q ((mi en S).bind fun its S1 => (comp t tt te its.P (wipeE en vs) its.ds [] S1).bind fun ds S1 => .ok (.ref S1.length) (S1 ++ [.lst ds])) := by
    have : (mi en S).bind (fun its S1 => (comp t tt te its.P (wipeE en vs) its.ds [] S1).bind fun ds S1 => .ok (.ref S1.length) (S1 ++ [.lst ds])) = mLcN mi t tt te vs en S := by
      unfold mLcN cItems
      cases mi en S <;> rfl
    rw [this]
    exact p
  refine ⟨m, S, en, s, c, er, (Post.bind p0).imp ?_⟩
  rintro J H1 ⟨its, S1, m1, _, l1, c1, ir, p1⟩
  intro D hD
  refine comp_run l1.sub c1 (er.mono l1) ir ht hown D hD (fun m' H' S' acc av l' c' hDa ra pe => ?_) p1
  have := pe (m'.add D (.lst av)) (upd (del H' D) D (.lst av)) (.ref D) (Le.add c' l'.sub del_at) (Cor.add c' l'.sub del_at ⟨av, upd_same, ra.mono (Le.add c' l'.sub del_at)⟩) (rp_ref c')
  rwa [upd_del hDa] at this
section
variable {X : Cx} {B : Bas} {W : WX} {elt tg iter : Expr} {ifs : List Expr} {scope : Scope} {ow : List (Str × Nat)} {pos : Pos} {mi : MI} {g : TG} {t : MG} {tt : MT} {te : ME} {own : List Nat}
theorem de_lc (hc : X.calm = true) (hN : X.N.Nodup) (ht : TgR B own g t) (hown : ∀ j ∈ own, j ∈ ow.map (·.2)) (hi : PI X tg iter (tI B W mi)) (ok : BlkOk X.N X.env.scope scope ow)
    (hg : ∀ (s : Shared) (H : Hp) (C : Addr) (cl : List (Str × Addr)) (fp : List Addr), PG (X.blk s H scope (compEnvC scope cl C X.env) fp) tg g) (htt : ∀ (s : Shared) (H : Hp) (C : Addr) (cl : List (Str × Addr)) (fp : List Addr), PTs (X.blk s H scope (compEnvC scope cl C X.env) fp) ifs (tT B W0 tt))
    (he : ∀ (s : Shared) (H : Hp) (C : Addr) (cl : List (Str × Addr)) (fp : List Addr), PE (X.blk s H scope (compEnvC scope cl C X.env) fp) elt (tE B W0 te)) (hs : ∀ x, foldedSetIterable iter X.env x = pure x := by intro _; rfl) :
    PE X (.ListComp elt [⟨tg, iter, ifs, 0⟩] scope pos) (tE B W (mLc mi t tt te (ow.map (·.2)))) := PE.cut (pe_lc hc hN hi ok hg htt he hs) (tLc_of ht hown)
theorem de_lcN (hc : X.calm = true) (hN : X.N.Nodup) (ht : TgR B own g t) (hown : ∀ j ∈ own, j ∈ ow.map (·.2)) (hi : PI X tg iter (tI B W mi)) (ok : BlkOk X.N X.env.scope scope ow)
    (hg : ∀ (s : Shared) (H : Hp) (C : Addr) (cl : List (Str × Addr)) (fp : List Addr), PG (X.blk s H scope (compEnvC scope cl C X.env) fp) tg g) (htt : ∀ (s : Shared) (H : Hp) (C : Addr) (cl : List (Str × Addr)) (fp : List Addr), PTs (X.blk s H scope (compEnvC scope cl C X.env) fp) ifs (tT B W0 tt))
    (he : ∀ (s : Shared) (H : Hp) (C : Addr) (cl : List (Str × Addr)) (fp : List Addr), PE (X.blk s H scope (compEnvC scope cl C X.env) fp) elt (tE B W0 te)) (hs : ∀ x, foldedSetIterable iter X.env x = pure x := by intro _; rfl) :
    PE X (.ListComp elt [⟨tg, iter, ifs, 0⟩] scope pos) (tE B W (mLcN mi t tt te (ow.map (·.2)))) := PE.cut (pe_lc hc hN hi ok hg htt he hs) (tLcN_of ht hown)
theorem ds_setLc {i : Nat} {y : Str} {py spos : Pos} (hc : X.calm = true) (hN : X.N.Nodup) (hy : X.N[i]? = some y) (hyl : X.env.scope.names.lookup y = some .local)
    (hsw : swapsWith (.ListComp elt [⟨tg, iter, ifs, 0⟩] scope pos) (some (.Name y py)) spos.line X.env = pure true) (ht : TgR B own g t) (hown : ∀ j ∈ own, j ∈ ow.map (·.2)) (hi : PI X tg iter (tI B W mi)) (ok : BlkOk X.N X.env.scope scope ow)
    (hg : ∀ (s : Shared) (H : Hp) (C : Addr) (cl : List (Str × Addr)) (fp : List Addr), PG (X.blk s H scope (compEnvC scope cl C X.env) fp) tg g) (htt : ∀ (s : Shared) (H : Hp) (C : Addr) (cl : List (Str × Addr)) (fp : List Addr), PTs (X.blk s H scope (compEnvC scope cl C X.env) fp) ifs (tT B W0 tt))
    (he : ∀ (s : Shared) (H : Hp) (C : Addr) (cl : List (Str × Addr)) (fp : List Addr), PE (X.blk s H scope (compEnvC scope cl C X.env) fp) elt (tE B W0 te)) (hs : ∀ x, foldedSetIterable iter X.env x = pure x := by intro _; rfl) :
    PS X (.Assign [.Name y py] (.ListComp elt [⟨tg, iter, ifs, 0⟩] scope pos) spos) (tS B W (sAsg (mLc mi t tt te (ow.map (·.2))) (gN i))) :=
  PS.cut (ps_setLc hc hN hy hyl hsw hi ok hg htt he hs) fun D σ H q => tLc_of (W := W) ht hown σ H _ (tAsg_of (W := W) tg_name D σ H q)
theorem ds_setLcN {i : Nat} {y : Str} {py spos : Pos} (hc : X.calm = true) (hN : X.N.Nodup) (hy : X.N[i]? = some y) (hyl : X.env.scope.names.lookup y = some .local)
    (hsw : swapsWith (.ListComp elt [⟨tg, iter, ifs, 0⟩] scope pos) (some (.Name y py)) spos.line X.env = pure true) (ht : TgR B own g t) (hown : ∀ j ∈ own, j ∈ ow.map (·.2)) (hi : PI X tg iter (tI B W mi)) (ok : BlkOk X.N X.env.scope scope ow)
    (hg : ∀ (s : Shared) (H : Hp) (C : Addr) (cl : List (Str × Addr)) (fp : List Addr), PG (X.blk s H scope (compEnvC scope cl C X.env) fp) tg g) (htt : ∀ (s : Shared) (H : Hp) (C : Addr) (cl : List (Str × Addr)) (fp : List Addr), PTs (X.blk s H scope (compEnvC scope cl C X.env) fp) ifs (tT B W0 tt))
    (he : ∀ (s : Shared) (H : Hp) (C : Addr) (cl : List (Str × Addr)) (fp : List Addr), PE (X.blk s H scope (compEnvC scope cl C X.env) fp) elt (tE B W0 te)) (hs : ∀ x, foldedSetIterable iter X.env x = pure x := by intro _; rfl) :
    PS X (.Assign [.Name y py] (.ListComp elt [⟨tg, iter, ifs, 0⟩] scope pos) spos) (tS B W (sAsg (mLcN mi t tt te (ow.map (·.2))) (gN i))) :=
  PS.cut (ps_setLc hc hN hy hyl hsw hi ok hg htt he hs) fun D σ H q => tLcN_of (W := W) ht hown σ H _ (tAsg_of (W := W) tg_name D σ H q)
def tYesM : MT := fun _ S => .ok true S
theorem PTs.cut {es : List Expr} {t t' : TT} (h : PTs X es t) (f : ∀ σ H Q, t' σ H Q → t σ H Q) : PTs X es t' := ⟨fun pins s σ H Q I q => h.run pins s σ H Q I (f σ H Q q)⟩
theorem dts_nil : PTs X [] (tT B W tYesM) := PTs.cut pts_nil fun σ H Q ⟨m, S, en, s, c, er, p⟩ => p m H true (Le.refl s) c rfl
theorem dts_one {c : Expr} {mt : MT} (h : PT X c (tT B W mt)) : PTs X [c] (tT B W mt) := pts_one h
end
end G
end
section
set_option Elab.async false
set_option linter.all false
set_option maxRecDepth 100000
set_option maxHeartbeats 2000000
/-! G7: a < b of data, the first place that differs deciding; min, max of two -/
namespace PySem.SeqAt
open Sem (wp)
open AutoSeq1 (wpAny_loadPart')
open MeetsSeq MeetsSeq2 MeetsSeq3 SeqRoads2
theorem tuple_ltF (l b : Addr) (items items2 : Array Value) (n n2 : Nat) (dd dd2 : Option Addr) (sl sl2 : Array (Option Value)) (e r : Nat → Bool) :
    Meets (Builtin.«tuple.__lt__» ⟨[.ref l, .ref b], []⟩)
      (fun A R s => (s.heap.get? l = some { cls := .type "tuple", dict := dd, data := .seq items n, slots := sl } ∧ s.heap.get? b = some { cls := .type "tuple", dict := dd2, data := .seq items2 n2, slots := sl2 }) ∧
        ((∀ j (h1 : j < items.size) (h2 : j < items2.size), EqAt A.in1 s items[j] items2[j] (e j)) ∧ (∀ j (h1 : j < items.size) (h2 : j < items2.size), (∀ i, i < j → e i = true) → e j = false → RcLt A.in1 s items[j] items2[j] (r j))) ∧
        R (.ok (.ret (.bool (firstLt e r (decide (items.size < items2.size)) (List.range (min items.size items2.size)))))) s) :=
  .of_wp fun prog w A R s h => by
    obtain ⟨hp, g, d, tk, os⟩ := s; obtain ⟨⟨hl, hb⟩, ⟨he, hr⟩, h⟩ := h
    have f2 := AutoSeq1.sub_tuple_tuple
    have lenZ : (items.toList.zip items2.toList).length = min items.size items2.size := by simp
    wp_walk using wpAny_loadPart' hl, wpAny_loadPart' hb, wpAny_forIn_list _ (fun rest b s' => b.1 = none ∧ s' = ⟨hp, g, d, tk, os⟩ ∧ ∃ i, (∀ k, k < i → e k = true) ∧ rest = (items.toList.zip items2.toList).drop i ∧
      R (.ok (.ret (.bool (firstLt e r (decide (items.size < items2.size)) ((List.range (min items.size items2.size)).drop i))))) ⟨hp, g, d, tk, os⟩) _
    case turn =>
      rintro ⟨y, x⟩ rest b s' ⟨hb', rfl, i, hpre, hz, hR⟩
      have hlt : i < (items.toList.zip items2.toList).length := by
        apply Nat.lt_of_not_le
        intro h'
        rw [List.drop_of_length_le h'] at hz
        cases hz
      have hm : i < min items.size items2.size := lenZ ▸ hlt
      have h1 : i < items.size := Nat.lt_of_lt_of_le hm (Nat.min_le_left _ _)
      have h2 : i < items2.size := Nat.lt_of_lt_of_le hm (Nat.min_le_right _ _)
      rw [List.drop_eq_getElem_cons hlt] at hz
      injection hz with hyx hrest
      obtain rfl : y = items[i] := by simpa using congrArg Prod.fst hyx
      obtain rfl : x = items2[i] := by simpa using congrArg Prod.snd hyx
      have hd : (List.range (min items.size items2.size)).drop i = i :: (List.range (min items.size items2.size)).drop (i + 1) := by simp [List.drop_eq_getElem_cons, hm]
      rw [hd] at hR
      refine wpAny_bind (he i h1 h2 prog w _ _ ?_)
      cases hy : e i with
      | true =>
        rw [firstLt_yes hy] at hR
        wp_walk
        refine ⟨rfl, rfl, i + 1, fun k hk => ?_, hrest, hR⟩
        rcases Nat.lt_succ_iff_lt_or_eq.mp hk with z | z
        · exact hpre k z
        · rw [z]; exact hy
      | false =>
        rw [firstLt_no hy] at hR
        have hrc := hr i h1 h2 hpre hy
        unfold RcLt at hrc
        generalize richCompare CmpOp.Lt items[i] items2[i] = rc at hrc ⊢
        wp_walk
        refine hrc prog w _ _ ?_
        wp_walk
        exact ⟨_, rfl, hR⟩
    case fin =>
      rintro ⟨b1, b2⟩ s' ⟨hb', rfl, i, _, hz, hR⟩
      simp only at hb'
      subst hb'
      have hge : min items.size items2.size ≤ i := by
        apply Nat.le_of_not_lt
        intro h'
        rw [List.drop_eq_getElem_cons (by rw [lenZ]; exact h')] at hz
        cases hz
      rw [List.drop_of_length_le (by simpa using hge)] at hR
      wp_walk
      exact ⟨_, rfl, by simpa [Builtin.Tuple.tupleCompareSizes, firstLt] using hR⟩
    case h => exact ⟨rfl, rfl, 0, fun k hk => absurd hk (Nat.not_lt_zero _), rfl, by simpa using h⟩
theorem RcLt.tupF {A : Around} {s : Shared} {l b : Addr} {items items2 : Array Value} {e r : Nat → Bool} (hl : s.heap.IsTuple l items) (hb : s.heap.IsTuple b items2) (hu : A.units < cLine)
    (he : ∀ j (h1 : j < items.size) (h2 : j < items2.size), EqAt A.in1 s items[j] items2[j] (e j)) (hr : ∀ j (h1 : j < items.size) (h2 : j < items2.size), (∀ i, i < j → e i = true) → e j = false → RcLt A.in1 s items[j] items2[j] (r j)) :
    RcLt A s (.ref l) (.ref b) (firstLt e r (decide (items.size < items2.size)) (List.range (min items.size items2.size))) := fun prog w E Q h => by
  obtain ⟨⟨cls, dd, data, sl⟩, ho, hc, n, hd⟩ := id hl
  obtain ⟨⟨cls2, dd2, data2, sl2⟩, ho2, hc2, n2, hd2⟩ := id hb
  simp only at hc hd hc2 hd2
  subst hc hd hc2 hd2
  exact richCompare_meets_room (op := .Lt) ⟨_, ho, rfl⟩ ⟨_, ho2, rfl⟩ F.slot_tuple_lt F.entry_tuple_lt (F.args_tuple_lt_2 _ _) (tuple_ltF l b items items2 n n2 dd dd2 sl sl2 e r)
    ⟨⟨ho, ho2⟩, ⟨he, hr⟩, ⟨(fun x => nomatch x), h⟩⟩ hu
end PySem.SeqAt
namespace G
open PySem L2
mutual
def pLt : PyData → PyData → Option Bool
  | .int i, .int j => some (decide (i < j))
  | .str x, .str y => some (decide (x.cps.toList < y.cps.toList))
  | .tuple xs, .tuple ys => pLts xs ys
  | _, _ => none
def pLts : List PyData → List PyData → Option Bool
  | [], [] => some false
  | [], _ :: _ => some true
  | _ :: _, [] => some false
  | x :: xs, y :: ys => if PyData.eqv x y = true then pLts xs ys else pLt x y
end
open SeqAt in
theorem firstLt_shift (e r : Nat → Bool) (fin : Bool) (n : Nat) : firstLt e r fin (List.range (n + 1)) = if e 0 = true then firstLt (fun j => e (j + 1)) (fun j => r (j + 1)) fin (List.range n) else r 0 := by
  rw [List.range_succ_eq_map, firstLt]
  congr 1
  generalize List.range n = l
  induction l with
  | nil => rfl
  | cons j t ih => simp only [List.map_cons, firstLt, ih]
open SeqAt in
theorem firstLt_pLts : ∀ (xs ys : List PyData) (k : Bool) (r : Nat → Bool), pLts xs ys = some k →
    (∀ j, j < xs.length → j < ys.length → (∀ i, i < j → pairEq xs ys i = true) → pairEq xs ys j = false → pLt (xs.getD j .none) (ys.getD j .none) = some (r j)) →
    firstLt (pairEq xs ys) r (decide (xs.length < ys.length)) (List.range (min xs.length ys.length)) = k
  | [], [], k, r, h, _ => by
    simp only [pLts] at h
    cases h
    simp [firstLt]
  | [], y :: ys, k, r, h, _ => by
    simp only [pLts] at h
    cases h
    simp [firstLt]
  | x :: xs, [], k, r, h, _ => by
    simp only [pLts] at h
    cases h
    simp [firstLt]
  | x :: xs, y :: ys, k, r, h, hr => by
    have e0 : pairEq (x :: xs) (y :: ys) 0 = PyData.eqv x y := rfl
    have e1 : ∀ j, pairEq (x :: xs) (y :: ys) (j + 1) = pairEq xs ys j := fun _ => rfl
    simp only [List.length_cons, Nat.succ_min_succ, firstLt_shift, e0, e1]
    simp only [pLts] at h
    split at h
    · rename_i hq
      rw [if_pos hq]
      have ih := firstLt_pLts xs ys k (fun j => r (j + 1)) h fun j h1 h2 hpre hj => by
        have := hr (j + 1) (by simpa using h1) (by simpa using h2) (fun i hi => by
          cases i with
          | zero => exact hq
          | succ i => exact hpre i (by omega)) hj
        simpa using this
      simpa using ih
    · rename_i hq
      rw [if_neg hq]
      have := hr 0 (by simp) (by simp) (fun i hi => absurd hi (Nat.not_lt_zero _)) (by rw [e0]; simpa using hq)
      simp only [List.getD_cons_zero] at this
      rw [h] at this
      exact (Option.some.inj this).symm
theorem pLts_at : ∀ (xs ys : List PyData) (k : Bool), pLts xs ys = some k → ∀ j, j < xs.length → j < ys.length → (∀ i, i < j → SeqAt.pairEq xs ys i = true) → SeqAt.pairEq xs ys j = false → ∃ q, pLt (xs.getD j .none) (ys.getD j .none) = some q
  | [], _, _, _, j, h1, _, _, _ => absurd h1 (Nat.not_lt_zero _)
  | _ :: _, [], _, _, j, _, h2, _, _ => absurd h2 (Nat.not_lt_zero _)
  | x :: xs, y :: ys, k, h, j, h1, h2, hpre, hj => by
    simp only [pLts] at h
    cases j with
    | zero =>
      have hj' : PyData.eqv x y = false := hj
      rw [hj'] at h
      simp only [Bool.false_eq_true, if_false] at h
      exact ⟨k, h⟩
    | succ j =>
      have h0 : PyData.eqv x y = true := hpre 0 (Nat.succ_pos _)
      rw [if_pos h0] at h
      exact pLts_at xs ys k h j (by simpa using h1) (by simpa using h2) (fun i hi => hpre (i + 1) (by omega)) hj
mutual
theorem rcLt_p : ∀ (da db : PyData) (A : Around) (s : Shared) (a b : Value) (as bs : List Addr) (k : Bool), Reads s.heap a da as → Reads s.heap b db bs → da.canLay0 = true → db.canLay0 = true → A.units + min da.depth db.depth < cLine → pLt da db = some k → SeqAt.RcLt A s a b k
  | .int x, db, A, s, a, b, as, bs, k, ra, rb, ha, hb, hu, h => by
    cases db with
    | int y =>
      simp only [pLt] at h
      cases h
      cases ra
      cases rb
      exact fun prog w E Q hq => P.lt_int hq
    | _ => simp [pLt] at h
  | .str x, db, A, s, a, b, as, bs, k, ra, rb, ha, hb, hu, h => by
    cases db with
    | str y =>
      simp only [pLt] at h
      cases h
      cases ra
      cases rb
      exact fun prog w E Q hq => P.lt_str hq
    | _ => simp [pLt] at h
  | .tuple xs, db, A, s, a, b, as, bs, k, ra, rb, ha, hb, hu, h => by
    cases db with
    | tuple ys =>
      simp only [pLt] at h
      have ha' : PyData.canLayAll0 xs = true := by simpa [PyData.canLay0] using ha
      have hb' : PyData.canLayAll0 ys = true := by simpa [PyData.canLay0] using hb
      cases ra with
      | @tuple l o vs n _ as₁ h1 h2 h3 h4 =>
        cases rb with
        | @tuple l' o' vs' n' _ bs₁ k1 k2 k3 k4 =>
          have hl : s.heap.IsTuple l vs := ⟨_, h1, h2, _, h3⟩
          have hl' : s.heap.IsTuple l' vs' := ⟨_, k1, k2, _, k3⟩
          have n1 : vs.size = xs.length := PySem.W.readsAll_len h4
          have n2 : vs'.size = ys.length := PySem.W.readsAll_len k4
          have hu1 : (A.in1).units + min (PyData.depthAll xs) (PyData.depthAll ys) < cLine := SeqAt.room_in hu
          rw [← firstLt_pLts xs ys k (fun j => (pLt (xs.getD j .none) (ys.getD j .none)).getD false) h (fun j h1 h2 hpre hj => by
            obtain ⟨q, hq⟩ := pLts_at xs ys k h j h1 h2 hpre hj
            rw [hq]
            rfl), ← n1, ← n2]
          refine SeqAt.RcLt.tupF hl hl' (SeqAt.room_here hu) (fun j j1 j2 => ?_) fun j j1 j2 hpre hj => ?_
          · have := SeqAt.eqAt_readsAll xs ys A.in1 s vs.toList vs'.toList _ _ h4 k4 ha' hb' hu1 j (by simpa using j1) (by simpa using j2)
            simpa using this
          · obtain ⟨q, hq⟩ := pLts_at xs ys k h j (by omega) (by omega) hpre hj
            have := rcLt_ps xs ys A.in1 s vs.toList vs'.toList _ _ h4 k4 ha' hb' hu1 j (by simpa using j1) (by simpa using j2) q hq
            rw [hq]
            simpa using this
    | _ => simp [pLt] at h
  | .none, db, _, _, _, _, _, _, _, _, _, _, _, _, h => by simp [pLt] at h
  | .bool _, db, _, _, _, _, _, _, _, _, _, _, _, _, h => by simp [pLt] at h
  | .list _, db, _, _, _, _, _, _, _, _, _, _, _, _, h => by simp [pLt] at h
  | .dict _, db, _, _, _, _, _, _, _, _, _, _, _, _, h => by simp [pLt] at h
theorem rcLt_ps : ∀ (xs ys : List PyData) (A : Around) (s : Shared) (vs ws : List Value) (as bs : List Addr), ReadsAll s.heap vs xs as → ReadsAll s.heap ws ys bs → PyData.canLayAll0 xs = true → PyData.canLayAll0 ys = true →
    A.units + min (PyData.depthAll xs) (PyData.depthAll ys) < cLine → ∀ j (h1 : j < vs.length) (h2 : j < ws.length) (q : Bool), pLt (xs.getD j .none) (ys.getD j .none) = some q → SeqAt.RcLt A s vs[j] ws[j] q
  | [], _, _, _, _, _, _, _, ra, _, _, _, _, j, h1, _, _, _ => by cases ra; exact absurd h1 (Nat.not_lt_zero _)
  | _ :: _, [], _, _, _, _, _, _, _, rb, _, _, _, j, _, h2, _, _ => by cases rb; exact absurd h2 (Nat.not_lt_zero _)
  | x :: xs, y :: ys, A, s, _, _, _, _, ra, rb, ha, hb, hu, j, h1, h2, q, hq => by
    have ha' : x.canLay0 = true ∧ PyData.canLayAll0 xs = true := by simpa [PyData.canLayAll0] using ha
    have hb' : y.canLay0 = true ∧ PyData.canLayAll0 ys = true := by simpa [PyData.canLayAll0] using hb
    cases ra with
    | cons r rs =>
      cases rb with
      | cons r' rs' =>
        cases j with
        | zero => exact rcLt_p x y A s _ _ _ _ q r r' ha'.1 hb'.1 (SeqAt.room_head hu) (by simpa using hq)
        | succ j => exact rcLt_ps xs ys A s _ _ _ _ rs rs' ha'.2 hb'.2 (SeqAt.room_tail hu) j (Nat.lt_of_succ_lt_succ h1) (Nat.lt_of_succ_lt_succ h2) q (by simpa using hq)
end
end G
end
section
set_option Elab.async false
set_option linter.all false
set_option maxRecDepth 100000
set_option maxHeartbeats 2000000
/-! G8: min, max of two data; order as an operator -/
namespace PySem
section
variable {prog : Program} {w : World} {A : Around} {E : Value → Shared → Prop} {s : Shared}
theorem two_min {a b : Value} {Q : Value → Shared → Prop}
    (h : wpAny (model prog w) A.in1 (pyIter (.ref s.heap.objs.size)) (fun it s2 => ∃ I fp wr G n P St H bt, it = .ref I ∧ WalksS prog w A.in1 I fp wr G n P St ∧ St 0 s2 ∧ (∀ b ∈ fp, b < s2.heap.objs.size) ∧ 0 < n ∧
      (∀ b o, H.get? b = some o → b ∉ wr) ∧ (∀ b o, H.get? b = some o → s2.heap.get? b = some o) ∧ CmpIn prog w A.in1 .Lt H P bt ∧ ∀ v s', P (argBest bt (n - 1)) v → Moved wr G s2 s' → Q v s') E
      { s with heap := s.heap.push { cls := .type "tuple", data := .seq #[a, b] } }) :
    wpAny (model prog w) A (call (.builtin "min") [a, b]) Q E s := by
  have hname : (toString "min" ++ toString ".loop" : String) = "min.loop" := by decide
  refine call_function_tree F.kind_min F.plain_min F.entry_min (F.args_min2 _ _) ?_
  show wpAny _ A.in1 (Builtin.Builtins.bindParams "min" ["key", "default"] 0 ⟨[], []⟩ >>= _) _ _ s
  refine wpAny_bind (wpAny_of_eq (show Builtin.Builtins.bindParams "min" ["key", "default"] 0 ⟨[], []⟩ = pure [none, none] from rfl) ?_)
  show wpAny _ A.in1 (newTuple [a, b] >>= _) _ _ s
  refine wpAny_bind (wpAny_newObj_type (wpAny_bind (wpAny_mono h (fun it s2 h2 => ?_) fun _ _ e => e)))
  obtain ⟨I, fp, wr, G, n, P, St, H, bt, rfl, W, hst, hfp, hn, hw, hkeep, hcmp, hQ⟩ := h2
  refine wpAny_bind (wpAny_newObj_type ?_)
  rw [hname]
  exact wpAny_pure ⟨plainId_quiet F.plain_min_loop _, codeAny_min_loop_firstH W H hw bt hcmp s2.heap.objs.size (fun hm => Nat.lt_irrefl _ (hfp _ hm)) (fresh_in hkeep) _ hn (fun b o e => Heap.get?_push_of_some _ (hkeep b o e))
    (W.frame 0 s2 _ s2.toks hst (Nat.le_refl _) fun b _ o e => Heap.get?_push_of_some _ e) (Heap.get?_push_size _ rfl) fun v s' hP hm => hQ v s' hP (Moved.drop_new (tk := s2.toks) hm (Nat.le_refl _))⟩
theorem two_max {a b : Value} {Q : Value → Shared → Prop}
    (h : wpAny (model prog w) A.in1 (pyIter (.ref s.heap.objs.size)) (fun it s2 => ∃ I fp wr G n P St H bt, it = .ref I ∧ WalksS prog w A.in1 I fp wr G n P St ∧ St 0 s2 ∧ (∀ b ∈ fp, b < s2.heap.objs.size) ∧ 0 < n ∧
      (∀ b o, H.get? b = some o → b ∉ wr) ∧ (∀ b o, H.get? b = some o → s2.heap.get? b = some o) ∧ CmpIn prog w A.in1 .Gt H P bt ∧ ∀ v s', P (argBest bt (n - 1)) v → Moved wr G s2 s' → Q v s') E
      { s with heap := s.heap.push { cls := .type "tuple", data := .seq #[a, b] } }) :
    wpAny (model prog w) A (call (.builtin "max") [a, b]) Q E s := by
  have hname : (toString "max" ++ toString ".loop" : String) = "max.loop" := by decide
  refine call_function_tree F.kind_max F.plain_max F.entry_max (F.args_max2 _ _) ?_
  show wpAny _ A.in1 (Builtin.Builtins.bindParams "max" ["key", "default"] 0 ⟨[], []⟩ >>= _) _ _ s
  refine wpAny_bind (wpAny_of_eq (show Builtin.Builtins.bindParams "max" ["key", "default"] 0 ⟨[], []⟩ = pure [none, none] from rfl) ?_)
  show wpAny _ A.in1 (newTuple [a, b] >>= _) _ _ s
  refine wpAny_bind (wpAny_newObj_type (wpAny_bind (wpAny_mono h (fun it s2 h2 => ?_) fun _ _ e => e)))
  obtain ⟨I, fp, wr, G, n, P, St, H, bt, rfl, W, hst, hfp, hn, hw, hkeep, hcmp, hQ⟩ := h2
  refine wpAny_bind (wpAny_newObj_type ?_)
  rw [hname]
  exact wpAny_pure ⟨plainId_quiet F.plain_max_loop _, codeAny_max_loop_firstH W H hw bt hcmp s2.heap.objs.size (fun hm => Nat.lt_irrefl _ (hfp _ hm)) (fresh_in hkeep) _ hn (fun b o e => Heap.get?_push_of_some _ (hkeep b o e))
    (W.frame 0 s2 _ s2.toks hst (Nat.le_refl _) fun b _ o e => Heap.get?_push_of_some _ e) (Heap.get?_push_size _ rfl) fun v s' hP hm => hQ v s' hP (Moved.drop_new (tk := s2.toks) hm (Nat.le_refl _))⟩
end
end PySem
namespace G
open PySem L2
/-! ### x < y -/
def rLtP (K : PySem.W.Frag) : R2 := fun x y H Q => ∃ p q k, Dp K H x p ∧ Dp K H y q ∧ SeqAt.shaped p = true ∧ SeqAt.shaped q = true ∧ pLt p q = some k ∧ Q (.bl k) H
theorem room_sh {A : Around} {p q : PyData} (h : SeqAt.shaped p = true) (hu : A.units + 64 < cLine) : A.units + min p.depth q.depth < cLine := SeqAt.room_of_shaped h hu
theorem op_ltP {X : Cx} (hu : X.A.units + 64 < cLine) : OpR X (compareOp .Lt) (rLtP X.K) := by
  intro pins s σ H x y v u Q I rx ry h
  obtain ⟨p, q, k, hp, hq, sp, sq, e, qq⟩ := h
  obtain ⟨as, r1⟩ := Dp.reads I p x v hp rx
  obtain ⟨bs, r2⟩ := Dp.reads I q y u hq ry
  exact rcLt_p p q X.A s v u as bs k r1 r2 (SeqAt.canLay_of_shaped sp) (SeqAt.canLay_of_shaped sq) (room_sh sp hu) e X.prog X.w X.xe _ ⟨.bl k, H, I, rfl, qq⟩
def dLt (S : Sto) (x y : D) : Option D := match pdv S x, pdv S y with
  | some p, some q => if SeqAt.shaped p = true ∧ SeqAt.shaped q = true then (pLt p q).map .bl else none
  | _, _ => none
theorem op2_lt {B : Bas} : Op2 B (rLtP B.K) dLt := fun m S H x y d1 d2 d s c r1 r2 e Q q => by
  unfold dLt at e
  split at e
  · rename_i p z h1 h2
    split at e
    · rename_i hs
      cases h : pLt p z with
      | none => rw [h] at e; cases e
      | some k => rw [h] at e; cases e; exact ⟨p, z, k, r1.dpv s c h1, r2.dpv s c h2, hs.1, hs.2, h, q_val s c q (rp_bl m)⟩
    · cases e
  · cases e
/-! ### min(x, y), max(x, y) -/
def rMin2 (K : PySem.W.Frag) : List V → Hp → VK → Prop := fun xs H Q => ∃ x y p q, xs = [x, y] ∧ Dp K H x p ∧ Dp K H y q ∧ SeqAt.shaped p = true ∧ SeqAt.shaped q = true ∧ PySem.W.AlikeAll [p, q] ∧ Q (if PySem.W.dataLt q p = true then y else x) H
def rMax2 (K : PySem.W.Frag) : List V → Hp → VK → Prop := fun xs H Q => ∃ x y p q, xs = [x, y] ∧ Dp K H x p ∧ Dp K H y q ∧ SeqAt.shaped p = true ∧ SeqAt.shaped q = true ∧ PySem.W.AlikeAll [p, q] ∧ Q (if PySem.W.dataLt p q = true then y else x) H
theorem depth2 {p q : PyData} (sp : SeqAt.shaped p = true) (sq : SeqAt.shaped q = true) : PyData.depthAll [p, q] ≤ 64 := by
  have h1 := SeqAt.depth_of_shaped sp
  have h2 := SeqAt.depth_of_shaped sq
  simp only [PyData.depthAll]
  omega
theorem reads_two {h : Heap} {a b : Value} {p q : PyData} {as bs : List Addr} (r1 : Reads h a p as) (r2 : Reads h b q bs) : ∃ cs, ReadsAll h (#[a, b] : Array Value).toList [p, q] cs := ⟨_, .cons r1 (.cons r2 .nil)⟩
theorem call_min2D {X : Cx} (hc : X.calm = true) (hu : X.A.units + 66 < cLine) : CallR X (.builtin "min") (rMin2 X.K) := by
  intro pins s σ H xs us Q I r h
  obtain ⟨x, y, p, q, rfl, hp, hq, sp, sq, al, qq⟩ := h
  obtain ⟨u, w', rfl, ru, rw'⟩ := vals2 r
  obtain ⟨as, r1⟩ := Dp.reads I p x u hp ru
  obtain ⟨bs, r2⟩ := Dp.reads I q y w' hq rw'
  have kp : ∀ b o, s.heap.get? b = some o → (s.heap.push { cls := .type "tuple", data := .seq #[u, w'] }).get? b = some o := fun b o e => Heap.get?_push_of_some _ e
  have r1' := PySem.W.reads_keeps kp r1
  have r2' := PySem.W.reads_keeps kp r2
  obtain ⟨cs, rr⟩ := reads_two r1' r2'
  have hT : (s.heap.push { cls := .type "tuple", data := .seq #[u, w'] }).IsTuple s.heap.objs.size #[u, w'] := ⟨_, Heap.get?_push_size _ rfl, rfl, 0, rfl⟩
  have hd := depth2 sp sq
  refine two_min (PySem.W.iter_tupleW (s := { s with heap := s.heap.push { cls := .type "tuple", data := .seq #[u, w'] } }) (A := X.A.in1) (I.ok.hd hc) hT fun s2 e Wk st hfp hw hk => ?_)
  refine ⟨_, _, _, _, _, _, _, s.heap.push { cls := .type "tuple", data := .seq #[u, w'] }, _, rfl, Wk, st, hfp, by simp, hw, hk,
    PySem.W.cmpIn_lt (s := { s with heap := s.heap.push { cls := .type "tuple", data := .seq #[u, w'] } }) (A := X.A.in1) (vs := #[u, w']) rr al (by show X.A.units + 1 + _ < _; omega), fun v s' hP mv => ?_⟩
  obtain ⟨h', tk, rfl, hk'⟩ := PySem.W.moved_old e rfl mv
  refine ⟨_, H, I.kept (t' := tk) (fun b o e => hk' b o (kp b o e)), ?_, qq⟩
  have hP' : #[u, w'][argBest (fun i j => PySem.W.dataLt ([p, q].getD i .none) ([p, q].getD j .none)) 1]? = some v := hP
  have e0 : argBest (fun i j => PySem.W.dataLt ([p, q].getD i .none) ([p, q].getD j .none)) 1 = (if PySem.W.dataLt q p = true then 1 else 0) := rfl
  rw [e0] at hP'
  by_cases hl : PySem.W.dataLt q p = true
  · rw [if_pos hl] at hP' ⊢
    cases hP'
    exact rw'
  · rw [if_neg hl] at hP' ⊢
    cases hP'
    exact ru
theorem call_max2D {X : Cx} (hc : X.calm = true) (hu : X.A.units + 66 < cLine) : CallR X (.builtin "max") (rMax2 X.K) := by
  intro pins s σ H xs us Q I r h
  obtain ⟨x, y, p, q, rfl, hp, hq, sp, sq, al, qq⟩ := h
  obtain ⟨u, w', rfl, ru, rw'⟩ := vals2 r
  obtain ⟨as, r1⟩ := Dp.reads I p x u hp ru
  obtain ⟨bs, r2⟩ := Dp.reads I q y w' hq rw'
  have kp : ∀ b o, s.heap.get? b = some o → (s.heap.push { cls := .type "tuple", data := .seq #[u, w'] }).get? b = some o := fun b o e => Heap.get?_push_of_some _ e
  have r1' := PySem.W.reads_keeps kp r1
  have r2' := PySem.W.reads_keeps kp r2
  obtain ⟨cs, rr⟩ := reads_two r1' r2'
  have hT : (s.heap.push { cls := .type "tuple", data := .seq #[u, w'] }).IsTuple s.heap.objs.size #[u, w'] := ⟨_, Heap.get?_push_size _ rfl, rfl, 0, rfl⟩
  have hd := depth2 sp sq
  refine two_max (PySem.W.iter_tupleW (s := { s with heap := s.heap.push { cls := .type "tuple", data := .seq #[u, w'] } }) (A := X.A.in1) (I.ok.hd hc) hT fun s2 e Wk st hfp hw hk => ?_)
  refine ⟨_, _, _, _, _, _, _, s.heap.push { cls := .type "tuple", data := .seq #[u, w'] }, _, rfl, Wk, st, hfp, by simp, hw, hk,
    PySem.W.cmpIn_gt (s := { s with heap := s.heap.push { cls := .type "tuple", data := .seq #[u, w'] } }) (A := X.A.in1) (vs := #[u, w']) rr al (by show X.A.units + 1 + _ < _; omega), fun v s' hP mv => ?_⟩
  obtain ⟨h', tk, rfl, hk'⟩ := PySem.W.moved_old e rfl mv
  refine ⟨_, H, I.kept (t' := tk) (fun b o e => hk' b o (kp b o e)), ?_, qq⟩
  have hP' : #[u, w'][argBest (fun i j => PySem.W.dataLt ([p, q].getD j .none) ([p, q].getD i .none)) 1]? = some v := hP
  have e0 : argBest (fun i j => PySem.W.dataLt ([p, q].getD j .none) ([p, q].getD i .none)) 1 = (if PySem.W.dataLt p q = true then 1 else 0) := rfl
  rw [e0] at hP'
  by_cases hl : PySem.W.dataLt p q = true
  · rw [if_pos hl] at hP' ⊢
    cases hP'
    exact rw'
  · rw [if_neg hl] at hP' ⊢
    cases hP'
    exact ru
open Classical in
noncomputable def dMin2 (S : Sto) : List D → Option D
  | [x, y] => match pdv S x, pdv S y with
    | some p, some q => if SeqAt.shaped p = true ∧ SeqAt.shaped q = true ∧ PySem.W.AlikeAll [p, q] then some (if PySem.W.dataLt q p = true then y else x) else none
    | _, _ => none
  | _ => none
open Classical in
noncomputable def dMax2 (S : Sto) : List D → Option D
  | [x, y] => match pdv S x, pdv S y with
    | some p, some q => if SeqAt.shaped p = true ∧ SeqAt.shaped q = true ∧ PySem.W.AlikeAll [p, q] then some (if PySem.W.dataLt p q = true then y else x) else none
    | _, _ => none
  | _ => none
theorem opn_min2 {B : Bas} : OpN B (rMin2 B.K) dMin2 := fun m S H xs ds d s c r e Q q => by
  unfold dMin2 at e
  split at e
  · rename_i x y
    split at e
    · rename_i p z h1 h2
      split at e
      · rename_i hs
        cases e
        simp only [Reps] at r
        obtain ⟨v, _, rfl, rv, w', _, rfl, rw', rfl⟩ := r
        refine ⟨v, w', p, z, rfl, rv.dpv s c h1, rw'.dpv s c h2, hs.1, hs.2.1, hs.2.2, ?_⟩
        split
        · exact q_val s c (by simpa only [*, if_true] using q) rw'
        · exact q_val s c (by simpa only [*, if_false, Bool.false_eq_true] using q) rv
      · cases e
    · cases e
  · cases e
theorem opn_max2 {B : Bas} : OpN B (rMax2 B.K) dMax2 := fun m S H xs ds d s c r e Q q => by
  unfold dMax2 at e
  split at e
  · rename_i x y
    split at e
    · rename_i p z h1 h2
      split at e
      · rename_i hs
        cases e
        simp only [Reps] at r
        obtain ⟨v, _, rfl, rv, w', _, rfl, rw', rfl⟩ := r
        refine ⟨v, w', p, z, rfl, rv.dpv s c h1, rw'.dpv s c h2, hs.1, hs.2.1, hs.2.2, ?_⟩
        split
        · exact q_val s c (by simpa only [*, if_true] using q) rw'
        · exact q_val s c (by simpa only [*, if_false, Bool.false_eq_true] using q) rv
      · cases e
    · cases e
  · cases e
end G
end
section
set_option Elab.async false
set_option linter.all false
set_option maxRecDepth 100000
set_option maxHeartbeats 2000000
/-! G9: built-ins by data -/
namespace G
open PySem L2
theorem CallR.or {X : Cx} {f : Value} {r r' : List V → Hp → VK → Prop} (h : CallR X f r) (h' : CallR X f r') : CallR X f (fun xs H Q => r xs H Q ∨ r' xs H Q) := by
  intro pins s σ H xs us Q I rx q
  rcases q with q | q
  · exact h pins s σ H xs us Q I rx q
  · exact h' pins s σ H xs us Q I rx q
section
variable {X : Cx} {B : Bas} {W : WX} {x : Str} {p pos : Pos} {e : Expr} {es : List Expr} {mr : MA} {id T : String} {r : List V → Hp → VK → Prop} {g : Sto → List D → Option D}
theorem de_callB (hc : CallR X (.builtin id) r) (h : OpN B r g) (hm : X.mg x = none) (hv : bootBuiltins x = some (.builtin id)) (ha : PA X (e :: es) (tA B W mr)) (hg : Gl X x := by rfl) (hn : x ≠ "__name__" := by decide) (hdb : (x == ("__debug__" : Str)) = false := by decide)
    (he : starEach (e :: es) X.env = (false, eval e X.env) :: starEach es X.env := by rfl) (hpl : (backTo pos (starEach es X.env)).any (·.1) = false := by rfl) : PE X (.Call (.Name x p) (e :: es) [] pos) (tE B W (mCB g mr)) :=
  PE.cut (pe_callB hc hg hm hv ha hn hdb he hpl) (tCB_of h)
theorem de_callTy (hc : CallR X (.type T) r) (h : OpN B r g) (hm : X.mg x = none) (hv : bootBuiltins x = some (.type T)) (ha : PA X (e :: es) (tA B W mr)) (hg : Gl X x := by rfl) (hn : x ≠ "__name__" := by decide) (hdb : (x == ("__debug__" : Str)) = false := by decide)
    (he : starEach (e :: es) X.env = (false, eval e X.env) :: starEach es X.env := by rfl) (hpl : (backTo pos (starEach es X.env)).any (·.1) = false := by rfl) : PE X (.Call (.Name x p) (e :: es) [] pos) (tE B W (mCB g mr)) :=
  PE.cut (pe_callTy hc hg hm hv ha hn hdb he hpl) (tCB_of h)
end
theorem Reps.one {B : Bas} {m : Mp} {d : D} {vs : List V} (r : Reps B m [d] vs) : ∃ v, vs = [v] ∧ Rep B m d v := by
  simp only [Reps] at r
  obtain ⟨v, _, rfl, rv, rfl⟩ := r
  exact ⟨v, rfl, rv⟩
theorem Reps.two {B : Bas} {m : Mp} {d e : D} {vs : List V} (r : Reps B m [d, e] vs) : ∃ v w, vs = [v, w] ∧ Rep B m d v ∧ Rep B m e w := by
  simp only [Reps] at r
  obtain ⟨v, _, rfl, rv, w, _, rfl, rw', rfl⟩ := r
  exact ⟨v, w, rfl, rv, rw'⟩
/-! ### len -/
def dLen (S : Sto) : List D → Option D
  | [.str z] => if z.length ≤ sizeLine then some (.int z.length) else none
  | [x] => match seqL S x, seqT x, dicOf S x with
    | some ds, _, _ => some (.int ds.length)
    | none, some ds, _ => some (.int ds.length)
    | none, none, some (ks, _) => some (.int ks.length)
    | none, none, none => none
  | _ => none
def rLenU (K : PySem.W.Frag) : List V → Hp → VK → Prop := fun xs H Q => ((∃ p ys, xs = [.ref p] ∧ (SqL K H p ys ∨ SqT K H p ys) ∧ Q (.int ys.length) H) ∨ (∃ z, xs = [.str z] ∧ z.length ≤ sizeLine ∧ Q (.int z.length) H)) ∨ ((∃ a kvs, xs = [V.ref a] ∧ H a = some (.dK kvs) ∧ Q (.int kvs.length) H) ∨ rLenT xs H Q)
theorem call_lenU {X : Cx} : CallR X (.builtin "len") (rLenU X.K) := (call_len_seq.or call_len_str).or (call_lenD.or call_len_dT)
theorem keysD_length : ∀ {ks : List D} {q : List Key}, keysD ks = some q → q.length = ks.length
  | [], q, h => by cases h; rfl
  | k :: r, q, h => by
    simp only [keysD] at h
    split at h
    · rename_i a b h1 h2
      cases h
      simp [keysD_length h2]
    · cases h
theorem tkeysD_length : ∀ {ks : List D} {q : List (List Key)}, tkeysD ks = some q → q.length = ks.length
  | [], q, h => by cases h; rfl
  | k :: r, q, h => by
    simp only [tkeysD] at h
    split at h
    · rename_i a b h1 h2
      cases h
      simp [tkeysD_length h2]
    · cases h
theorem opn_len {B : Bas} : OpN B (rLenU B.K) dLen := fun m S H xs ds d s c r e Q q => by
  unfold dLen at e
  split at e
  · split at e
    · cases e
      obtain ⟨v, rfl, rv⟩ := r.one
      exact .inl (.inr ⟨_, by rw [rv.str_eq], by assumption, q_val s c q (rp_int m)⟩)
    · cases e
  · obtain ⟨v, rfl, rv⟩ := r.one
    split at e
    · rename_i ds _ _ h1
      cases e
      obtain ⟨a, vs, rfl, k, t⟩ := repL s c rv h1
      exact .inl (.inl ⟨a, vs, rfl, .inl k, by rw [← t.length]; exact q_val s c q (rp_int m)⟩)
    · rename_i ds _ _ h1
      cases e
      obtain ⟨a, vs, rfl, k, t⟩ := repT s rv h1
      exact .inl (.inl ⟨a, vs, rfl, .inr k, by rw [← t.length]; exact q_val s c q (rp_int m)⟩)
    · rename_i ks ds _ _ h1
      cases e
      obtain ⟨a, vs, rfl, ⟨k1, k2⟩, t⟩ := repD s c rv h1
      rcases k2 with ⟨z, _, hz, k2⟩ | ⟨z, hz, k2⟩
      · have hl : (z.zip vs).length = ks.length := by rw [List.length_zip, keysD_length hz, ← k1, Nat.min_self]
        exact .inr (.inl ⟨a, _, rfl, k2, by rw [hl]; exact q_val s c q (rp_int m)⟩)
      · have hl : (z.zip vs).length = ks.length := by rw [List.length_zip, tkeysD_length hz, ← k1, Nat.min_self]
        exact .inr (.inr ⟨a, _, rfl, k2, by rw [hl]; exact q_val s c q (rp_int m)⟩)
    · cases e
  · cases e
/-! ### int, abs, str -/
def dInt (_ : Sto) : List D → Option D
  | [.int i] => some (.int i)
  | [.bl k] => some (.int (if k then 1 else 0))
  | [.str a] => if a.length ≤ 640 then (PySem.intText? a).map .int else none
  | _ => none
def rIntU : List V → Hp → VK → Prop := fun xs H Q => ((∃ i, xs = [.int i] ∧ Q (.int i) H) ∨ ∃ k, xs = [.bl k] ∧ Q (.int (if k then 1 else 0)) H) ∨ ∃ a n, xs = [.str a] ∧ PySem.intText? a = some n ∧ a.length ≤ 640 ∧ Q (.int n) H
theorem call_intU {X : Cx} : CallR X (.type "int") rIntU := call_int1.or call_int_str
theorem opn_int {B : Bas} : OpN B rIntU dInt := fun m S H xs ds d s c r e Q q => by
  unfold dInt at e
  split at e
  · cases e
    obtain ⟨v, rfl, rv⟩ := r.one
    exact .inl (.inl ⟨_, by rw [rv.int_eq], q_val s c q (rp_int m)⟩)
  · cases e
    obtain ⟨v, rfl, rv⟩ := r.one
    exact .inl (.inr ⟨_, by rw [rv.bl_eq], q_val s c q (rp_int m)⟩)
  · split at e
    · rename_i a hl
      obtain ⟨v, rfl, rv⟩ := r.one
      cases h : PySem.intText? a with
      | none => rw [h] at e; cases e
      | some n => rw [h] at e; cases e; exact .inr ⟨a, n, by rw [rv.str_eq], h, hl, q_val s c q (rp_int m)⟩
    · cases e
  · cases e
def dAbs (_ : Sto) : List D → Option D
  | [.int i] => some (.int (if i < 0 then -i else i))
  | _ => none
def rAbsU : List V → Hp → VK → Prop := fun xs H Q => ∃ i, xs = [.int i] ∧ Q (.int (if i < 0 then -i else i)) H
theorem opn_abs {B : Bas} : OpN B rAbsU dAbs := fun m S H xs ds d s c r e Q q => by
  unfold dAbs at e
  split at e
  · cases e
    obtain ⟨v, rfl, rv⟩ := r.one
    exact ⟨_, by rw [rv.int_eq], q_val s c q (rp_int m)⟩
  · cases e
def dStr (_ : Sto) : List D → Option D
  | [.int i] => if i.natAbs.log2 < 1920 then some (.str (toString i)) else none
  | [.str a] => some (.str a)
  | _ => none
def rStrU : List V → Hp → VK → Prop := fun xs H Q => (∃ i, xs = [.int i] ∧ i.natAbs.log2 < 1920 ∧ Q (.str (toString i)) H) ∨ ∃ a, xs = [.str a] ∧ Q (.str a) H
theorem call_strU {X : Cx} : CallR X (.type "str") rStrU := call_str_int.or SkE.call_str_str
theorem opn_str {B : Bas} : OpN B rStrU dStr := fun m S H xs ds d s c r e Q q => by
  unfold dStr at e
  split at e
  · split at e
    · cases e
      obtain ⟨v, rfl, rv⟩ := r.one
      exact .inl ⟨_, by rw [rv.int_eq], by assumption, q_val s c q (rp_str m)⟩
    · cases e
  · cases e
    obtain ⟨v, rfl, rv⟩ := r.one
    exact .inr ⟨_, by rw [rv.str_eq], q_val s c q (rp_str m)⟩
  · cases e
/-! ### tuple, list -/
def dTuple (S : Sto) : List D → Option D
  | [x] => match seqL S x with
    | some ds => some (.tup ds)
    | none => match x with
      | .tup ds => some (.tup ds)
      | _ => none
  | _ => none
def rTupU (K : PySem.W.Frag) : List V → Hp → VK → Prop := fun xs H Q => ∃ p ys, xs = [.ref p] ∧ ((SqL K H p ys ∧ ∀ l, H l = none → Q (.ref l) (upd H l (.tup ys))) ∨ (SqT K H p ys ∧ Q (.ref p) H))
theorem opn_tuple {B : Bas} : OpN B (rTupU B.K) dTuple := fun m S H xs ds d s c r e Q q => by
  unfold dTuple at e
  split at e
  · obtain ⟨v, rfl, rv⟩ := r.one
    split at e
    · rename_i ds h1
      cases e
      obtain ⟨a, vs, rfl, k, t⟩ := repL s c rv h1
      exact ⟨a, vs, rfl, .inl ⟨k, q_tup s c q t⟩⟩
    · split at e
      · cases e
        obtain ⟨a, vs, rfl, k, t⟩ := repT s rv rfl
        exact ⟨a, vs, rfl, .inr ⟨k, q_val s c q rv⟩⟩
      · cases e
  · cases e
def dList (S : Sto) : List D → Option D
  | [x] => match seqL S x, seqT x with
    | some ds, _ => some (.lst ds)
    | none, some ds => some (.lst ds)
    | none, none => none
  | _ => none
def rListU (K : PySem.W.Frag) : List V → Hp → VK → Prop := fun xs H Q => ∃ p ys, xs = [.ref p] ∧ (SqL K H p ys ∨ SqT K H p ys) ∧ ∀ l, H l = none → Q (.ref l) (upd H l (.lst ys))
theorem opn_list {B : Bas} : OpN B (rListU B.K) dList := fun m S H xs ds d s c r e Q q => by
  unfold dList at e
  split at e
  · obtain ⟨v, rfl, rv⟩ := r.one
    split at e
    · rename_i ds _ h1
      cases e
      obtain ⟨a, vs, rfl, k, t⟩ := repL s c rv h1
      exact ⟨a, vs, rfl, .inl k, q_lst s c q t⟩
    · rename_i ds _ h1
      cases e
      obtain ⟨a, vs, rfl, k, t⟩ := repT s rv h1
      exact ⟨a, vs, rfl, .inr k, q_lst s c q t⟩
    · cases e
  · cases e
/-! ### all, any, sum -/
def bls : List D → Option (List Bool)
  | [] => some []
  | .bl b :: r => (bls r).map (b :: ·)
  | _ => none
theorem bls_reps {B : Bas} {m : Mp} : ∀ {ds : List D} {vs : List V} {bs : List Bool}, Reps B m ds vs → bls ds = some bs → vs = bs.map V.bl
  | [], vs, bs, r, h => by
    simp only [Reps] at r
    cases h
    exact r
  | d :: ds, vs, bs, r, h => by
    cases d with
    | bl b =>
      simp only [bls] at h
      simp only [Reps] at r
      obtain ⟨v, t, rfl, rv, rt⟩ := r
      cases h2 : bls ds with
      | none => rw [h2] at h; cases h
      | some cs =>
        rw [h2] at h
        cases h
        rw [rv.bl_eq, bls_reps rt h2]
        rfl
    | _ => cases h
def intsD : List D → Option (List Int)
  | [] => some []
  | .int b :: r => (intsD r).map (b :: ·)
  | _ => none
theorem ints_reps {B : Bas} {m : Mp} : ∀ {ds : List D} {vs : List V} {bs : List Int}, Reps B m ds vs → intsD ds = some bs → vs = bs.map V.int
  | [], vs, bs, r, h => by
    simp only [Reps] at r
    cases h
    exact r
  | d :: ds, vs, bs, r, h => by
    cases d with
    | int b =>
      simp only [intsD] at h
      simp only [Reps] at r
      obtain ⟨v, t, rfl, rv, rt⟩ := r
      cases h2 : intsD ds with
      | none => rw [h2] at h; cases h
      | some cs =>
        rw [h2] at h
        cases h
        rw [rv.int_eq, ints_reps rt h2]
        rfl
    | _ => cases h
def dAll (S : Sto) : List D → Option D
  | [x] => ((seqL S x).bind bls).map fun bs => .bl (bs.all id)
  | _ => none
def dAny (S : Sto) : List D → Option D
  | [x] => ((seqL S x).bind bls).map fun bs => .bl (bs.any id)
  | _ => none
def dSum (S : Sto) : List D → Option D
  | [x] => ((seqL S x).bind intsD).map fun bs => .int bs.sum
  | _ => none
theorem opn_all {B : Bas} : OpN B (rAll B.K) dAll := fun m S H xs ds d s c r e Q q => by
  unfold dAll at e
  split at e
  · rename_i x
    obtain ⟨v, rfl, rv⟩ := r.one
    cases h1 : seqL S x with
    | none => rw [h1] at e; cases e
    | some ds =>
      cases h2 : bls ds with
      | none => rw [h1, Option.bind_some, h2] at e; cases e
      | some bs =>
        rw [h1, Option.bind_some, h2] at e
        cases e
        obtain ⟨a, vs, rfl, k, t⟩ := repL s c rv h1
        exact ⟨a, bs, rfl, by rw [← bls_reps t h2]; exact k, q_val s c q (rp_bl m)⟩
  · cases e
theorem opn_any {B : Bas} : OpN B (rAny B.K) dAny := fun m S H xs ds d s c r e Q q => by
  unfold dAny at e
  split at e
  · rename_i x
    obtain ⟨v, rfl, rv⟩ := r.one
    cases h1 : seqL S x with
    | none => rw [h1] at e; cases e
    | some ds =>
      cases h2 : bls ds with
      | none => rw [h1, Option.bind_some, h2] at e; cases e
      | some bs =>
        rw [h1, Option.bind_some, h2] at e
        cases e
        obtain ⟨a, vs, rfl, k, t⟩ := repL s c rv h1
        exact ⟨a, bs, rfl, by rw [← bls_reps t h2]; exact k, q_val s c q (rp_bl m)⟩
  · cases e
theorem opn_sum {B : Bas} : OpN B (rSum B.K) dSum := fun m S H xs ds d s c r e Q q => by
  unfold dSum at e
  split at e
  · rename_i x
    obtain ⟨v, rfl, rv⟩ := r.one
    cases h1 : seqL S x with
    | none => rw [h1] at e; cases e
    | some ds =>
      cases h2 : intsD ds with
      | none => rw [h1, Option.bind_some, h2] at e; cases e
      | some bs =>
        rw [h1, Option.bind_some, h2] at e
        cases e
        obtain ⟨a, vs, rfl, k, t⟩ := repL s c rv h1
        exact ⟨a, bs, rfl, by rw [← ints_reps t h2]; exact k, q_val s c q (rp_int m)⟩
  · cases e
/-! ### isinstance, of a built-in class -/
def tyN (S : Sto) (d : D) : Option String := match d with
  | .non => some "NoneType"
  | .bl _ => some "bool"
  | .int _ => some "int"
  | .str _ => some "str"
  | .tup _ => some "tuple"
  | .ktp _ => some "tuple"
  | .lst _ => some "list"
  | .dic _ _ => some "dict"
  | .ref i => match S[i]? with
    | some (.lst _) => some "list"
    | some (.dic _ _) => some "dict"
    | _ => none
  | _ => none
theorem tyN_of {B : Bas} {m : Mp} {H : Hp} {S : Sto} {d : D} {v : V} {n : String} (s : Sub m H) (c : Cor B m S) (r : Rep B m d v) (e : tyN S d = some n) : TyX B.K H v (.type n) := by
  have dic : ∀ {a : Addr} {ks : List D} {vs : List V}, DicAt (m.Z a) ks vs → TyX B.K H (.ref a) (.type "dict") := fun {a ks vs} h => by
    rcases h with ⟨_, ⟨q, _, _, z⟩ | ⟨q, _, z⟩⟩
    · exact .base (.dK (s _ _ z))
    · exact .base (.dT (s _ _ z))
  cases d with
  | non => cases e; rw [r.non_eq]; exact .base .non
  | bl b => cases e; rw [r.bl_eq]; exact .base (.bl b)
  | int b => cases e; rw [r.int_eq]; exact .base (.int b)
  | str b => cases e; rw [r.str_eq]; exact .base (.str b)
  | tup ds =>
    cases e
    simp only [Rep] at r
    obtain ⟨a, vs, rfl, t, _⟩ := r
    exact .base (.tup (s _ _ t.1))
  | ktp ds =>
    cases e
    simp only [Rep] at r
    obtain ⟨a, vs, rfl, t, _⟩ := r
    rcases t with (t | ⟨_, t⟩) | ⟨o, its, k, h1, h2, _⟩
    · cases t
    · cases t
    · exact .kTuple h1 h2
  | lst ds =>
    cases e
    simp only [Rep] at r
    obtain ⟨a, vs, rfl, t, _⟩ := r
    exact .base (.lst (s _ _ t.1))
  | dic ks ds =>
    cases e
    simp only [Rep] at r
    obtain ⟨a, vs, rfl, _, t, _⟩ := r
    exact dic t
  | ref i =>
    simp only [Rep] at r
    obtain ⟨_, rfl⟩ := r
    simp only [tyN] at e
    split at e
    · rename_i ds hx
      cases e
      obtain ⟨vs, z, _⟩ := c.ob _ _ hx
      exact .base (.lst (s _ _ z))
    · rename_i ks ds hx
      cases e
      obtain ⟨vs, z, _⟩ := c.ob _ _ hx
      exact dic z
    · cases e
  | _ => cases e
def dIsi (S : Sto) : List D → Option D
  | [x, .ty T] => ((tyN S x).bind fun n => kitB n T).map .bl
  | _ => none
theorem opn_isi {B : Bas} : OpN B (rIsi B.K) dIsi := fun m S H xs ds d s c r e Q q => by
  unfold dIsi at e
  split at e
  · rename_i x T
    obtain ⟨v, w, rfl, rv, rw'⟩ := r.two
    cases h1 : tyN S x with
    | none => rw [h1] at e; cases e
    | some n =>
      cases h2 : kitB n T with
      | none => rw [h1, Option.bind_some, h2] at e; cases e
      | some b =>
        rw [h1, Option.bind_some, h2] at e
        cases e
        have hw : w = .ty T := by simpa only [Rep] using rw'
        subst hw
        exact ⟨v, .ty T, .type n, .type T, b, rfl, .ty T, tyN_of s c rv h1, kit_ty h2, q_val s c q (rp_bl m)⟩
  · cases e
theorem rp_ty {B : Bas} {n : String} (m : Mp) : Rep B m (.ty n) (.ty n) := by simp only [Rep]
theorem de_ty {X : Cx} {B : Bas} {W : WX} {x : Str} {n : String} {pos : Pos} (hm : X.mg x = none) (hv : bootBuiltins x = some (.type n)) (hg : Gl X x := by rfl) (hn : x ≠ "__name__" := by decide) (hd : (x == ("__debug__" : Str)) = false := by decide) : PE X (.Name x pos) (tE B W (mC (.ty n))) :=
  de_c (pe_bltn hg hm hv (v := .ty n) rfl hn hd) rp_ty
/-- a module's own constant -/
theorem de_glob {X : Cx} {B : Bas} {W : WX} {x : Str} {v : V} {u : Value} {d : D} {pos : Pos} (hm : X.mg x = some u) (r : RelV v u) (rd : ∀ m, Rep B m d v) (hg : Gl X x := by rfl) (hd : (x == ("__debug__" : Str)) = false := by decide) : PE X (.Name x pos) (tE B W (mC d)) :=
  de_c (pe_glob hg hm r hd) rd
end G
end
section
set_option Elab.async false
set_option linter.all false
set_option maxRecDepth 100000
set_option maxHeartbeats 2000000
/-! G10: slices, texts, stores -/
namespace G
open PySem L2
/-! ### slices -/
abbrev MO := En → Sto → Res (Option Int)
def RO : Mp → Option Int → Option Int → Prop := fun _ a b => a = b
def tO (B : Bas) (W : WX) (e : MO) : TO := fun σ H Q => ∃ m S en, Sub m H ∧ Cor B m S ∧ EnR B m en σ ∧ Post B RO (at' W σ) m H Q (e en S)
def oNone : MO := fun _ S => .ok none S
def oSome (e : ME) : MO := fun en S => (e en S).bind fun d S1 => match d with
  | .int i => .ok (some i) S1
  | _ => .bad
theorem PO.cut {X : Cx} {e : Option Expr} {t t' : TO} (h : PO X e t) (f : ∀ σ H Q, t' σ H Q → t σ H Q) : PO X e t' := ⟨fun pins s σ H Q I q => h.run pins s σ H Q I (f σ H Q q)⟩
theorem do_none {X : Cx} {B : Bas} {W : WX} : PO X none (tO B W oNone) := PO.cut po_none fun σ H Q ⟨m, S, en, s, c, er, p⟩ => p m H none (Le.refl s) c rfl
theorem do_some {X : Cx} {B : Bas} {W : WX} {e : Expr} {me : ME} (h : PE X e (tE B W me)) : PO X (some e) (tO B W (oSome me)) := PO.cut (po_some h) fun σ H Q ⟨m, S, en, s, c, er, p⟩ => ⟨m, S, en, s, c, er, (Post.bind p).imp (by
  rintro v H1 ⟨d, S1, m1, _, l1, c1, r1, p1⟩
  cases d with
  | int i => exact ⟨i, r1.int_eq, p1 m1 H1 _ (Le.refl l1.sub) c1 rfl⟩
  | _ => exact p1.elim)⟩
def cutD (xs : List D) (lo hi : Option Int) : List D := (xs.drop (HT.sIx xs.length 0 lo)).take (HT.sIx xs.length xs.length hi - HT.sIx xs.length 0 lo)
theorem Reps.cutD {B : Bas} {m : Mp} {ds : List D} {vs : List V} (r : Reps B m ds vs) (lo hi : Option Int) : Reps B m (cutD ds lo hi) (cutV vs lo hi) := by
  unfold G.cutD cutV
  rw [r.length]
  exact (r.drop _).take _
def dSl (S : Sto) (x : D) (lo hi : Option Int) : Option D := match x with
  | .str z => if z.length ≤ sizeLine then some (.str (cutS z lo hi)) else none
  | .tup ds => some (.tup (cutD ds lo hi))
  | x => (seqL S x).map fun ds => .lst (cutD ds lo hi)
def mSl (a : ME) (l h : MO) : ME := fun en S => (a en S).bind fun x S1 => (l en S1).bind fun lo S2 => (h en S2).bind fun hi S3 => match dSl S3 x lo hi with
  | some d => .ok d S3
  | none => .bad
theorem sIx_le (n d : Nat) (hd : d ≤ n) (o : Option Int) : HT.sIx n d o ≤ n := by
  cases o with
  | none => exact hd
  | some v =>
    show (if v < 0 then (v + (n : Int)).toNat else min v.toNat n) ≤ n
    split
    · omega
    · exact Nat.min_le_right _ _
theorem de_slice {X : Cx} {B : Bas} {W : WX} {e : Expr} {lo hi : Option Expr} {p2 pos : Pos} {me : ME} {ml mh : MO} (hK : B.K = X.K := by rfl) (he : PE X e (tE B W me)) (hl : PO X lo (tO B W ml)) (hu : PO X hi (tO B W mh)) :
    PE X (.Subscript e (.Slice lo hi none p2) pos) (tE B W (mSl me ml mh)) := PE.cut (pe_slice ((sl_list.or sl_tupA).or sl_str) he hl hu) fun σ H Q ⟨m, S, en, s, c, er, p⟩ => ⟨m, S, en, s, c, er, (Post.bind p).imp (by
  rintro v H1 ⟨d, S1, m1, _, l1, c1, r1, p1⟩
  refine ⟨m1, S1, en, l1.sub, c1, er.mono l1, (Post.bind p1).imp ?_⟩
  rintro a H2 ⟨a', S2, m2, _, l2, c2, r2, p2⟩
  cases r2
  refine ⟨m2, S2, en, l2.sub, c2, (er.mono l1).mono l2, (Post.bind p2).imp ?_⟩
  rintro b H3 ⟨b', S3, m3, _, l3, c3, r3, p3⟩
  cases r3
  have rv := (r1.mono l2).mono l3
  rw [← hK]
  cases h : dSl S3 d a b with
  | none => rw [h] at p3; exact p3.elim
  | some x =>
    rw [h] at p3
    unfold dSl at h
    split at h
    · split at h
      · cases h
        exact .inr ⟨_, rv.str_eq, by assumption, q_val l3.sub c3 p3 (rp_str m3)⟩
      · cases h
    · rename_i ds _
      cases h
      have rv' := rv
      simp only [Rep] at rv
      obtain ⟨q, vs, rfl, t, rs⟩ := rv
      refine .inl (.inr ⟨q, vs, rfl, t.sq l3.sub, fun hz => ?_, fun _ => q_tup l3.sub c3 p3 (rs.cutD a b)⟩)
      have e1 : cutD ds a b = ds := by
        unfold G.cutD
        rw [rs.length, hz.1, hz.2]
        simp [← rs.length]
      rw [e1] at p3
      exact q_val l3.sub c3 p3 rv'
    · cases h1 : seqL S3 d with
      | none => rw [h1] at h; cases h
      | some ds =>
        rw [h1] at h
        cases h
        obtain ⟨q, vs, rfl, t, rs⟩ := repL l3.sub c3 rv h1
        exact .inl (.inl ⟨q, vs, rfl, t, q_lst l3.sub c3 p3 (rs.cutD a b)⟩))⟩
/-! ### methods of texts -/
def mBM (g : Sto → D → List D → Option D) (o : ME) (r : MA) : ME := fun en S => (o en S).bind fun x S1 => (r en S1).bind fun xs S2 => match g S2 x xs with
  | some d => .ok d S2
  | none => .bad
def isStr : D → Bool
  | .str _ => true
  | _ => false
/-- a method of a text: by the receiver's and the arguments' data -/
def OpM (B : Bas) (r : V → List V → Hp → VK → Prop) (g : Sto → D → List D → Option D) : Prop := ∀ (m : Mp) (S : Sto) (H : Hp) (x : V) (xs : List V) (d0 d : D) (ds : List D), Sub m H → Cor B m S → Rep B m d0 x → Reps B m ds xs → g S d0 ds = some d →
  ∀ Q : VK, (∀ m' H' v, Le m H m' H' → Cor B m' S → Rep B m' d v → Q v H') → r x xs H Q
def mBMs (g : Sto → D → List D → Option D) (o : ME) (r : MA) : ME := fun en S => (o en S).bind fun x S1 => match x with
  | .str z => (r en S1).bind fun xs S2 => match g S2 (.str z) xs with
    | some d => .ok d S2
    | none => .bad
  | _ => .bad
theorem de_bms {X : Cx} {B : Bas} {W : WX} {o e : Expr} {es : List Expr} {name : Str} {id : String} {apos cpos : Pos} {r : V → List V → Hp → VK → Prop} {g : Sto → D → List D → Option D} {mo : ME} {mr : MA}
    (slot : Slot "str" name id) (hty : typeOf (.builtin id) = pure (.type "method_descriptor")) (hm : MtR X id r) (h : OpM B r g) (ho : PE X o (tE B W mo)) (ha : PA X (e :: es) (tA B W mr))
    (hbase : attributeBase o name X.env (eval o X.env) = eval o X.env := by rfl)
    (hfew : ((backTo cpos (starEach (e :: es) X.env)).all (fun x => !x.1) && (backToKw cpos (keywordEach [] X.env)).all (fun x => x.1.isSome)
      && decide ((e :: es).length + ([] : List Keyword).length + (if ([] : List Keyword).isEmpty then 0 else 1) < 30)) = true := by rfl)
    (hline : (apos.endLine == cpos.line) = true := by rfl) (hs : starEach (e :: es) X.env = (false, eval e X.env) :: starEach es X.env := by rfl) (hplain : (backTo cpos (starEach es X.env)).any (·.1) = false := by rfl) :
    PE X (.Call (.Attribute o name apos) (e :: es) [] cpos) (tE B W (mBMs g mo mr)) :=
  PE.cut (pe_bm PySem.F.plainAttrs_str slot hty hm ho ha hbase hfew hline hs hplain) fun σ H Q ⟨m, S, en, s, c, er, p⟩ => ⟨m, S, en, s, c, er, (Post.bind p).imp (by
    rintro v H1 ⟨d, S1, m1, _, l1, c1, r1, p1⟩
    cases d with
    | str z =>
      have ev := r1.str_eq
      subst ev
      refine ⟨rfl, m1, S1, en, l1.sub, c1, er.mono l1, (Post.bind p1).imp ?_⟩
      rintro xs H2 ⟨ds, S2, m2, _, l2, c2, r2, p2⟩
      cases hg : g S2 (.str z) ds with
      | none => rw [hg] at p2; exact p2.elim
      | some d => rw [hg] at p2; exact h m2 S2 H2 _ xs _ d ds l2.sub c2 (r1.mono l2) r2 hg Q p2
    | _ => exact p1.elim)⟩
theorem Reps.strs {B : Bas} {m : Mp} : ∀ (ys : List Str), Reps B m (ys.map .str) (ys.map V.str)
  | [] => Reps.nil
  | y :: ys => Reps.cons (rp_str m) (Reps.strs ys)
def dSplit (_ : Sto) : D → List D → Option D
  | .str a, [.str b] => if (b.length == 0) = false ∧ a.length + 2 ≤ sizeLine then some (.lst ((Txt.split a b).map .str)) else none
  | _, _ => none
def rSplit : V → List V → Hp → VK → Prop := fun x xs H Q => ∃ a b, x = .str a ∧ xs = [.str b] ∧ (b.length == 0) = false ∧ a.length + 2 ≤ sizeLine ∧ rNewStrs (Txt.split a b) H Q
theorem opm_split {B : Bas} : OpM B rSplit dSplit := fun m S H x xs d0 d ds s c r0 r e Q q => by
  unfold dSplit at e
  split at e
  · split at e
    · rename_i a b hh
      cases e
      obtain ⟨v, rfl, rv⟩ := r.one
      exact ⟨a, b, r0.str_eq, by rw [rv.str_eq], hh.1, hh.2, fun p hp => q_lst s c q (Reps.strs _) p hp⟩
    · cases e
  · cases e
def strsD : List D → Option (List Str)
  | [] => some []
  | .str b :: r => (strsD r).map (b :: ·)
  | _ => none
theorem strs_reps {B : Bas} {m : Mp} : ∀ {ds : List D} {vs : List V} {bs : List Str}, Reps B m ds vs → strsD ds = some bs → vs = bs.map V.str
  | [], vs, bs, r, h => by
    simp only [Reps] at r
    cases h
    exact r
  | d :: ds, vs, bs, r, h => by
    cases d with
    | str b =>
      simp only [strsD] at h
      simp only [Reps] at r
      obtain ⟨v, t, rfl, rv, rt⟩ := r
      cases h2 : strsD ds with
      | none => rw [h2] at h; cases h
      | some cs =>
        rw [h2] at h
        cases h
        rw [rv.str_eq, strs_reps rt h2]
        rfl
    | _ => cases h
def dJoin (S : Sto) : D → List D → Option D
  | .str a, [x] => match (match seqL S x with | some ds => some ds | none => seqT x).bind strsD with
    | some ys => if (ys.map (·.length)).sum + ys.length * a.length ≤ 16777216 then some (.str (Txt.join a ys)) else none
    | none => none
  | _, _ => none
def rJoin (K : PySem.W.Frag) : V → List V → Hp → VK → Prop := fun x xs H Q => ∃ a p, ∃ ys : List Str, x = .str a ∧ xs = [.ref p] ∧ (SqL K H p (ys.map V.str) ∨ SqT K H p (ys.map V.str)) ∧ (ys.map (·.length)).sum + ys.length * a.length ≤ 16777216 ∧ Q (.str (Txt.join a ys)) H
theorem opm_join {B : Bas} : OpM B (rJoin B.K) dJoin := fun m S H x xs d0 d ds s c r0 r e Q q => by
  unfold dJoin at e
  split at e
  · rename_i a y
    obtain ⟨v, rfl, rv⟩ := r.one
    split at e
    · rename_i ys h1
      split at e
      · rename_i hl
        cases e
        cases h2 : seqL S y with
        | some zs =>
          rw [h2] at h1
          obtain ⟨q', vs, rfl, t, rs⟩ := repL s c rv h2
          have := strs_reps rs h1
          subst this
          exact ⟨a, q', ys, r0.str_eq, rfl, .inl t, hl, q_val s c q (rp_str m)⟩
        | none =>
          rw [h2] at h1
          cases h3 : seqT y with
          | none => rw [h3] at h1; cases h1
          | some zs =>
            rw [h3] at h1
            obtain ⟨q', vs, rfl, t, rs⟩ := repT s rv h3
            have := strs_reps rs h1
            subst this
            exact ⟨a, q', ys, r0.str_eq, rfl, .inr t, hl, q_val s c q (rp_str m)⟩
      · cases e
    · cases e
  · cases e
/-! ### f-strings -/
def dFmt (_ : Sto) : D → Option D
  | .str y => if y.length ≤ sizeLine then some (.str y) else none
  | .int i => if i.natAbs.log2 < 1920 then some (.str (toString i)) else none
  | _ => none
theorem de_fmt {X : Cx} {B : Bas} {W : WX} {e : Expr} {pos : Pos} {me : ME} (he : PE X e (tE B W me)) : PE X (.FormattedValue e (-1) none pos) (tE B W (mUn dFmt me)) :=
  PE.cut (pe_fmt he) fun σ H Q ⟨m, S, en, s, c, er, p⟩ => ⟨m, S, en, s, c, er, (Post.bind p).imp (by
    rintro v H1 ⟨d, S1, m1, _, l1, c1, r1, p1⟩
    cases h : dFmt S1 d with
    | none => rw [h] at p1; exact p1.elim
    | some x =>
      rw [h] at p1
      unfold dFmt at h
      split at h
      · split at h
        · cases h
          exact .inl ⟨_, r1.str_eq, by assumption, q_val l1.sub c1 p1 (rp_str m1)⟩
        · cases h
      · split at h
        · cases h
          exact .inr ⟨_, r1.int_eq, by assumption, q_val l1.sub c1 p1 (rp_str m1)⟩
        · cases h
      · cases h)⟩
def fsAll : List ME → Str → En → Sto → Res D
  | [], acc, _, S => .ok (.str acc) S
  | m :: ms, acc, en, S => (m en S).bind fun d S1 => match d with
    | .str y => if (acc ++ y).length ≤ sizeLine then fsAll ms (acc ++ y) en S1 else .bad
    | _ => .bad
def mFs (ms : List ME) : ME := fun en S => fsAll ms Str.empty en S
theorem tJs_of {B : Bas} {W : WX} : ∀ (ms : List ME) (acc : Str) (σ : L2.St) (H : Hp) (Q : VK) (m : Mp) (S : Sto) (en : En), Sub m H → Cor B m S → EnR B m en σ → Post B (Rep B) (at' W σ) m H Q (fsAll ms acc en S) → tJs (ms.map (tE B W)) acc σ H fun out H1 => Q (.str out) H1
  | [], acc, σ, H, Q, m, S, en, s, c, er, p => p m H _ (Le.refl s) c (rp_str m)
  | e :: ms, acc, σ, H, Q, m, S, en, s, c, er, p => by
    refine ⟨m, S, en, s, c, er, (Post.bind p).imp ?_⟩
    rintro v H1 ⟨d, S1, m1, _, l1, c1, r1, p1⟩
    cases d with
    | str y =>
      simp only [] at p1
      split at p1
      · rename_i hl
        exact ⟨y, r1.str_eq, hl, tJs_of ms (acc ++ y) σ H1 Q m1 S1 en l1.sub c1 (er.mono l1) p1⟩
      · exact p1.elim
    | _ => exact p1.elim
inductive DJ (X : Cx) (B : Bas) (W : WX) : List Expr → List ME → Prop where
  | nil : DJ X B W [] []
  | cons {e : Expr} {m : ME} {es : List Expr} {ms : List ME} (h : PE X e (tE B W m)) (r : DJ X B W es ms) : DJ X B W (e :: es) (m :: ms)
theorem DJ.pj {X : Cx} {B : Bas} {W : WX} {es : List Expr} {ms : List ME} (h : DJ X B W es ms) : PJ X es (ms.map (tE B W)) := by
  induction h with
  | nil => exact .nil
  | cons h _ ih => exact .cons h ih
theorem de_joined {X : Cx} {B : Bas} {W : WX} {v1 v2 : Expr} {rest : List Expr} {pos : Pos} {ms : List ME} (h : DJ X B W (v1 :: v2 :: rest) ms) : PE X (.JoinedStr (v1 :: v2 :: rest) pos) (tE B W (mFs ms)) :=
  PE.cut (pe_joined h.pj) fun σ H Q ⟨m, S, en, s, c, er, p⟩ => tJs_of ms Str.empty σ H Q m S en s c er p
/-! ### c + o.replace(y, z) -/
def dRepl (y z : Str) (_ : Sto) : D → Option D
  | .str x => if x.length + (x.length + 1) * z.length ≤ 16777216 then some (.str (Txt.replace x y z)) else none
  | _ => none
theorem pe_opT {X : Cx} {b : Expr} {op : Operator} {r : R2} {x : Str} {j} {cp pos : Pos} {tb : TE} (ho : OpR X (binaryOp op) r) (hb : PET X b tb) : PE X (.BinOp (.Constant (.str x) j cp) op b pos) (tOp r (tC (.str x)) tb) := ⟨fun pins s σ H Q I h => by
  refine wpAny_BinOp (Calls.Constant_str ?_)
  exact thn (hb pins _ σ H _ (Nat.succ_le_succ (Nat.zero_le _)) (I.tok _) h) fun u s2 ⟨y, H2, I2, r2, q2⟩ => ho pins s2 σ H2 (.str x) y _ u Q I2 ⟨_, rfl⟩ r2 q2⟩
theorem de_cRepl {X : Cx} {B : Bas} {W : WX} {o : Expr} {op : Operator} {r : R2} {x y z : Str} {i j k} {cp c0 c1 apos pos pos2 : Pos} {mo : ME} {g : Sto → D → D → Option D} (ho : OpR X (binaryOp op) r) (h : Op2 B r g) (hp : PE X o (tE B W mo)) (hyz : (y == z) = false := by decide)
    (hst : starEach [.Constant (.str y) j c0, .Constant (.str z) k c1] X.env = [(false, eval (.Constant (.str y) j c0) X.env), (false, eval (.Constant (.str z) k c1) X.env)] := by rfl)
    (hbase : attributeBase o "replace" X.env (eval o X.env) = eval o X.env := by rfl) (hline : (apos.endLine == pos.line) = true := by rfl) :
    PE X (.BinOp (.Constant (.str x) i cp) op (.Call (.Attribute o "replace" apos) [.Constant (.str y) j c0, .Constant (.str z) k c1] [] pos) pos2) (tE B W (mOp g (mC (.str x)) (mUn (dRepl y z) mo))) :=
  PE.cut (pe_opT ho (CwR.pet_replC hp hyz hst hbase hline)) fun σ H Q ⟨m, S, en, s, c, er, p⟩ => by
    refine ⟨m, S, en, s, c, er, ?_⟩
    have p' : Post B (Rep B) (at' W σ) m H Q (((mo en S).bind fun d S1 => match dRepl y z S1 d with | some d => .ok d S1 | none => .bad).bind fun y' S2 => match g S2 (.str x) y' with | some d => .ok d S2 | none => .bad) := p
    have e1 : (((mo en S).bind fun d S1 => match dRepl y z S1 d with | some d => .ok d S1 | none => .bad).bind fun y' S2 => match g S2 (.str x) y' with | some d => Res.ok d S2 | none => .bad) =
        (mo en S).bind fun d S1 => (match dRepl y z S1 d with | some d => Res.ok d S1 | none => .bad).bind fun y' S2 => match g S2 (.str x) y' with | some d => Res.ok d S2 | none => .bad := by
      cases mo en S <;> rfl
    rw [e1] at p'
    refine (Post.bind p').imp ?_
    rintro v H1 ⟨d, S1, m1, _, l1, c1, r1, p1⟩
    cases h1 : dRepl y z S1 d with
    | none => rw [h1] at p1; exact p1.elim
    | some d2 =>
      rw [h1] at p1
      simp only [Res.bind_ok] at p1
      unfold dRepl at h1
      split at h1
      · split at h1
        · rename_i w _ hl
          cases h1
          refine ⟨w, r1.str_eq, hl, ?_⟩
          cases h2 : g S1 (.str x) (.str (Txt.replace w y z)) with
          | none => rw [h2] at p1; exact p1.elim
          | some d3 => rw [h2] at p1; exact h m1 S1 H1 _ _ _ _ d3 l1.sub c1 (rp_str m1) (rp_str m1) h2 Q p1
        · cases h1
      · cases h1
/-! ### the store's objects change -/
section
variable {B : Bas} {m : Mp} {H : Hp} {S : Sto}
theorem Le.write {i : Nat} {o : HO} (c : Cor B m S) (s : Sub m H) (hi : i < m.n) : Le m H (m.put (m.mu i) o) (upd H (m.mu i) o) where
  le := Nat.le_refl _
  mu := fun _ _ => rfl
  keep := fun a u e q => ⟨by show upd m.Z (m.mu i) o a = _; rw [upd_ne (fun z => q i hi z.symm)]; exact e, q⟩
  fr := fun a u e q => by
    obtain ⟨w, hw⟩ := c.at hi
    have ne : a ≠ m.mu i := fun z => by rw [z, hw] at e; cases e
    exact ⟨by rw [upd_ne ne]; exact q, by show upd m.Z (m.mu i) o a = _; rw [upd_ne ne]; exact e⟩
  sub := fun a u e => by
    by_cases ha : a = m.mu i
    · subst ha
      have e' : upd m.Z (m.mu i) o (m.mu i) = some u := e
      rw [upd_same] at e' ⊢
      exact e'
    · have e' : upd m.Z (m.mu i) o a = some u := e
      rw [upd_ne ha] at e' ⊢
      exact s a u e'
theorem Cor.write {i : Nat} {o : HO} {b : Ob} (c : Cor B m S) (s : Sub m H) (hi : i < m.n) (r : ObR B (m.put (m.mu i) o) (m.mu i) b) : Cor B (m.put (m.mu i) o) (S.set i b) where
  n := by rw [List.length_set]; exact c.n
  ob := fun j x e => by
    by_cases hj : i = j
    · subst hj
      rw [List.getElem?_set_self (by rw [← c.n]; exact hi)] at e
      cases e
      exact r
    · rw [List.getElem?_set_ne hj] at e
      have hm : j < m.n := by rw [c.n]; exact (List.getElem?_eq_some_iff.mp e).1
      refine (c.ob j x e).mono (Le.write (o := o) c s hi) ?_
      show upd m.Z (m.mu i) o (m.mu j) = _
      rw [upd_ne (fun z => hj (c.inj j i hm hi z).symm)]
  inj := c.inj
end
theorem Reps.setR {B : Bas} {m : Mp} {d : D} {v : V} (rv : Rep B m d v) : ∀ {ds : List D} {vs : List V} (i : Nat), Reps B m ds vs → Reps B m (ds.set i d) (vs.set i v)
  | [], vs, i, r => by
    simp only [Reps] at r
    subst r
    exact Reps.nil
  | x :: ds, vs, 0, r => by
    simp only [Reps] at r
    obtain ⟨y, t, rfl, ry, rt⟩ := r
    exact Reps.cons rv rt
  | x :: ds, vs, i + 1, r => by
    simp only [Reps] at r
    obtain ⟨y, t, rfl, ry, rt⟩ := r
    exact Reps.cons ry (Reps.setR rv i rt)
/-- o[k] = e, a list of the store -/
def sIx (o k e : ME) : MS := fun en S => (e en S).bind fun d S1 => (o en S1).bind fun x S2 => (k en S2).bind fun y S3 => match x, y with
  | .ref i, .int n => match S3[i]? with
    | some (.lst ds) => match ixN ds.length n with
      | some j => .ok (.nx en) (S3.set i (.lst (ds.set j d)))
      | none => .bad
    | _ => .bad
  | _, _ => .bad
theorem ds_ix {X : Cx} {B : Bas} {W : WX} {o k e : Expr} {p1 pos : Pos} {mo mk me : ME} (ho : PE X o (tE B W mo)) (hk : PE X k (tE B W mk)) (he : PE X e (tE B W me)) (hg : PG X (.Subscript o k p1) (gSub (tE B W mo) (tE B W mk) rSetL))
    (hs : swapsWithSole [.Subscript o k p1] e pos.line X.env = pure false := by rfl) (hw : swappedStores [.Subscript o k p1] e X.env = pure none := by rfl)
    (h1 : (assignEach [.Subscript o k p1] X.env).map (·.2) = [assign (.Subscript o k p1) X.env] := by rfl) : PS X (.Assign [.Subscript o k p1] e pos) (tS B W (sIx mo mk me)) :=
  PS.cut (ps_asg he hg hs hw h1) fun D σ H ⟨m, S, en, s, c, er, p⟩ => ⟨m, S, en, s, c, er, (Post.bind p).imp (by
    rintro v H1 ⟨d, S1, m1, _, l1, c1, r1, p1⟩
    refine ⟨m1, S1, en, l1.sub, c1, er.mono l1, (Post.bind p1).imp ?_⟩
    rintro u H2 ⟨x, S2, m2, _, l2, c2, r2, p2⟩
    refine ⟨m2, S2, en, l2.sub, c2, (er.mono l1).mono l2, (Post.bind p2).imp ?_⟩
    rintro w H3 ⟨y, S3, m3, _, l3, c3, r3, p3⟩
    split at p3
    · rename_i i n _ _
      split at p3
      · rename_i ds hx
        split at p3
        · rename_i j hj
          have r2' := r2.mono l3
          simp only [Rep] at r2'
          obtain ⟨hi, rfl⟩ := r2'
          obtain ⟨vs, z, rs⟩ := c3.ob _ _ hx
          have l4 := Le.write (o := .lst (vs.set j v)) c3 l3.sub hi
          have rv := ((r1.mono l2).mono l3).mono l4
          refine ⟨m3.mu i, vs, n, j, rfl, r3.int_eq, l3.sub _ _ z, by rw [← rs.length]; exact hj, ?_⟩
          exact p3 _ _ (.nx σ) l4 (Cor.write c3 l3.sub hi ⟨_, upd_same, Reps.setR rv j (rs.mono l4)⟩) (((er.mono l1).mono l2).mono l3 |>.mono l4)
        · exact p3.elim
      · exact p3.elim
    · exact p3.elim)⟩
/-- o.append(e), o.extend(e), o a list of the store -/
def sApp (o e : ME) : MS := fun en S => (o en S).bind fun x S1 => match x with
  | .ref i => match S1[i]? with
    | some (.lst _) => (e en S1).bind fun d S2 => match S2[i]? with
      | some (.lst ds) => if ds.length < sizeLine then .ok (.nx en) (S2.set i (.lst (ds ++ [d]))) else .bad
      | _ => .bad
    | _ => .bad
  | _ => .bad
def sExt (o e : ME) : MS := fun en S => (o en S).bind fun x S1 => match x with
  | .ref i => match S1[i]? with
    | some (.lst _) => (e en S1).bind fun d S2 => match S2[i]?, d with
      | some (.lst ds), .lst es => if ds.length + es.length ≤ sizeLine then .ok (.nx en) (S2.set i (.lst (ds ++ es))) else .bad
      | _, _ => .bad
    | _ => .bad
  | _ => .bad
section
variable {X : Cx} {B : Bas} {W : WX} {o e : Expr} {apos cpos pos : Pos} {mo me : ME}
theorem ds_app (hK : B.K = X.K := by rfl) (ho : PE X o (tE B W mo)) (he : PE X e (tE B W me))
    (hbase : attributeBase o "append" X.env (eval o X.env) = eval o X.env := by rfl)
    (hfew : ((backTo cpos (starEach [e] X.env)).all (fun x => !x.1) && (backToKw cpos (keywordEach [] X.env)).all (fun x => x.1.isSome)
      && decide ([e].length + ([] : List Keyword).length + (if ([] : List Keyword).isEmpty then 0 else 1) < 30)) = true := by rfl)
    (hline : (apos.endLine == cpos.line) = true := by rfl) (hs : starEach [e] X.env = (false, eval e X.env) :: starEach [] X.env := by rfl) (hplain : (backTo cpos (starEach [] X.env)).any (·.1) = false := by rfl)
    (hsw : swapsWith (.Call (.Attribute o "append" apos) [e] [] cpos) none pos.line X.env = pure false := by rfl) :
    PS X (.Expr (.Call (.Attribute o "append" apos) [e] [] cpos) pos) (tS B W (sApp mo me)) :=
  PS.cut (ps_expr (pe_bm PySem.F.plainAttrs_list PySem.F.slot_list_append PySem.F.type_list_append mt_append ho (da_cons he da_nil hs) hbase hfew hline hs hplain) hsw) fun D σ H ⟨m, S, en, s, c, er, p⟩ => ⟨m, S, en, s, c, er, (Post.bind p).imp (by
    rintro v H1 ⟨x, S1, m1, _, l1, c1, r1, p1⟩
    split at p1
    · rename_i i _
      split at p1
      · rename_i ds0 h0
        have r1' := r1
        simp only [Rep] at r1'
        obtain ⟨hi, rfl⟩ := r1'
        obtain ⟨vs0, z0, _⟩ := c1.ob _ _ h0
        refine ⟨.inl ⟨rfl, vs0, .inl (.inl (l1.sub _ _ z0))⟩, m1, S1, en, l1.sub, c1, er.mono l1, ?_⟩
        have p1' : Post B (RFl B) (at' W σ) m1 H1 (qOf D) ((aCons me aNil en S1).bind fun ds S2 => match ds with | [d] => (match S2[i]? with | some (.lst ds) => if ds.length < sizeLine then Res.ok (Fl.nx en) (S2.set i (.lst (ds ++ [d]))) else .bad | _ => .bad) | _ => .bad) := by
          have : ((aCons me aNil en S1).bind fun ds S2 => match ds with | [d] => (match S2[i]? with | some (.lst ds) => if ds.length < sizeLine then Res.ok (Fl.nx en) (S2.set i (.lst (ds ++ [d]))) else .bad | _ => .bad) | _ => .bad) =
              (me en S1).bind fun d S2 => match S2[i]? with | some (.lst ds) => if ds.length < sizeLine then Res.ok (Fl.nx en) (S2.set i (.lst (ds ++ [d]))) else .bad | _ => .bad := by
            unfold aCons aNil
            cases me en S1 <;> rfl
          rw [this]
          exact p1
        refine (Post.bind p1').imp ?_
        rintro ys H2 ⟨dd, S2, m2, _, l2, c2, r2, p2⟩
        match dd, r2, p2 with
        | [d], r2, p2 =>
          simp only [] at p2
          obtain ⟨w, rfl, rw'⟩ := r2.one
          split at p2
          · rename_i ds hx
            split at p2
            · rename_i hl
              have hi2 : i < m2.n := Nat.lt_of_lt_of_le hi l2.le
              obtain ⟨vs, z, rs⟩ := c2.ob _ _ hx
              have l4 := Le.write (o := .lst (vs ++ [w])) c2 l2.sub hi2
              have emu : m2.mu i = m1.mu i := l2.mu i hi
              refine ⟨m1.mu i, vs, w, rfl, rfl, by rw [← emu]; exact l2.sub _ _ z, by rw [← rs.length]; exact hl, ?_⟩
              rw [← emu]
              exact p2 _ _ (.nx σ) l4 (Cor.write c2 l2.sub hi2 ⟨_, upd_same, (rs.mono l4).append (Reps.cons (rw'.mono l4) Reps.nil)⟩) (((er.mono l1).mono l2).mono l4)
            · exact p2.elim
          · exact p2.elim
        | [], _, p2 => exact p2.elim
        | _ :: _ :: _, _, p2 => exact p2.elim
      · exact p1.elim
    · exact p1.elim)⟩
theorem ds_ext (hK : B.K = X.K := by rfl) (ho : PE X o (tE B W mo)) (he : PE X e (tE B W me))
    (hbase : attributeBase o "extend" X.env (eval o X.env) = eval o X.env := by rfl)
    (hfew : ((backTo cpos (starEach [e] X.env)).all (fun x => !x.1) && (backToKw cpos (keywordEach [] X.env)).all (fun x => x.1.isSome)
      && decide ([e].length + ([] : List Keyword).length + (if ([] : List Keyword).isEmpty then 0 else 1) < 30)) = true := by rfl)
    (hline : (apos.endLine == cpos.line) = true := by rfl) (hs : starEach [e] X.env = (false, eval e X.env) :: starEach [] X.env := by rfl) (hplain : (backTo cpos (starEach [] X.env)).any (·.1) = false := by rfl)
    (hsw : swapsWith (.Call (.Attribute o "extend" apos) [e] [] cpos) none pos.line X.env = pure false := by rfl) :
    PS X (.Expr (.Call (.Attribute o "extend" apos) [e] [] cpos) pos) (tS B W (sExt mo me)) :=
  PS.cut (ps_expr (pe_bm PySem.F.plainAttrs_list PySem.F.slot_list_extend PySem.F.type_list_extend mt_extend ho (da_cons he da_nil hs) hbase hfew hline hs hplain) hsw) fun D σ H ⟨m, S, en, s, c, er, p⟩ => ⟨m, S, en, s, c, er, (Post.bind p).imp (by
    rintro v H1 ⟨x, S1, m1, _, l1, c1, r1, p1⟩
    split at p1
    · rename_i i _
      split at p1
      · rename_i ds0 h0
        have r1' := r1
        simp only [Rep] at r1'
        obtain ⟨hi, rfl⟩ := r1'
        obtain ⟨vs0, z0, _⟩ := c1.ob _ _ h0
        refine ⟨.inl ⟨rfl, vs0, .inl (.inl (l1.sub _ _ z0))⟩, m1, S1, en, l1.sub, c1, er.mono l1, ?_⟩
        have p1' : Post B (RFl B) (at' W σ) m1 H1 (qOf D) ((aCons me aNil en S1).bind fun ds S2 => match ds with | [d] => (match S2[i]?, d with | some (.lst ds), .lst es => if ds.length + es.length ≤ sizeLine then Res.ok (Fl.nx en) (S2.set i (.lst (ds ++ es))) else .bad | _, _ => .bad) | _ => .bad) := by
          have : ((aCons me aNil en S1).bind fun ds S2 => match ds with | [d] => (match S2[i]?, d with | some (.lst ds), .lst es => if ds.length + es.length ≤ sizeLine then Res.ok (Fl.nx en) (S2.set i (.lst (ds ++ es))) else .bad | _, _ => .bad) | _ => .bad) =
              (me en S1).bind fun d S2 => match S2[i]?, d with | some (.lst ds), .lst es => if ds.length + es.length ≤ sizeLine then Res.ok (Fl.nx en) (S2.set i (.lst (ds ++ es))) else .bad | _, _ => .bad := by
            unfold aCons aNil
            cases me en S1 <;> rfl
          rw [this]
          exact p1
        refine (Post.bind p1').imp ?_
        rintro ys H2 ⟨dd, S2, m2, _, l2, c2, r2, p2⟩
        match dd, r2, p2 with
        | [d], r2, p2 =>
          simp only [] at p2
          obtain ⟨w, rfl, rw'⟩ := r2.one
          cases hx : S2[i]? with
          | none => rw [hx] at p2; exact p2.elim
          | some ob =>
            cases ob with
            | lst ds =>
              cases d with
              | lst es =>
                rw [hx] at p2
                simp only [] at p2
                split at p2
                · rename_i hl
                  have hi2 : i < m2.n := Nat.lt_of_lt_of_le hi l2.le
                  obtain ⟨vs, z, rs⟩ := c2.ob _ _ hx
                  simp only [Rep] at rw'
                  obtain ⟨b, us, rfl, hb, ru⟩ := rw'
                  have l4 := Le.write (o := .lst (vs ++ us)) c2 l2.sub hi2
                  have emu : m2.mu i = m1.mu i := l2.mu i hi
                  refine ⟨m1.mu i, b, vs, us, rfl, rfl, by rw [← emu]; exact l2.sub _ _ z, l2.sub _ _ hb.1, by rw [← rs.length, ← ru.length]; exact hl, ?_⟩
                  rw [← emu]
                  exact p2 _ _ (.nx σ) l4 (Cor.write c2 l2.sub hi2 ⟨_, upd_same, (rs.mono l4).append (ru.mono l4)⟩) (((er.mono l1).mono l2).mono l4)
                · exact p2.elim
              | _ => rw [hx] at p2; exact p2.elim
            | _ => rw [hx] at p2; exact p2.elim
        | [], _, p2 => exact p2.elim
        | _ :: _ :: _, _, p2 => exact p2.elim
      · exact p1.elim
    · exact p1.elim)⟩
end
end G
end
section
set_option Elab.async false
set_option linter.all false
set_option maxRecDepth 100000
set_option maxHeartbeats 2000000
/-! G11: repr; the law's own call, whose guards are known -/
namespace G
open PySem L2
def rRepr (K : PySem.W.Frag) : List V → Hp → VK → Prop := fun xs H Q => ∃ x p, xs = [x] ∧ Dp K H x p ∧ SeqAt.shaped p = true ∧ p.showable = true ∧ p.shown.length ≤ sizeLine ∧ Q (.str p.shown) H
theorem call_reprD {X : Cx} (hg : X.A.guards = some []) (hu : X.A.units + 66 < cLine) : CallR X (.builtin "repr") (rRepr X.K) := by
  intro pins s σ H xs us Q I r h
  obtain ⟨x, p, rfl, hp, sp, sh, hl, q⟩ := h
  obtain ⟨u, rfl, ru⟩ := vals1 r
  obtain ⟨as, rd⟩ := Dp.reads I p x u hp ru
  have hd := SeqAt.depth_of_shaped sp
  cases hp with
  | non =>
    cases (show u = Value.none from ru)
    exact PySem.P.repr_of_none ⟨.str _, H, I.tok _, ⟨_, rfl⟩, by simpa [PyData.shown] using q⟩
  | bl b =>
    cases (show u = Value.bool b from ru)
    exact PySem.P.repr_of_bool ⟨.str _, H, I.tok _, ⟨_, rfl⟩, by cases b <;> simpa [PyData.shown] using q⟩
  | int i =>
    obtain ⟨t, rfl⟩ := ru
    have hi : i.natAbs.log2 < 1920 := by simpa [PyData.showable] using sh
    exact PySem.P.repr_of_int hi ⟨.str _, H, I.tok _, ⟨_, rfl⟩, by simpa [PyData.shown] using q⟩
  | str z =>
    obtain ⟨t, rfl⟩ := ru
    exact PySem.P.repr_of_str ⟨.str _, H, I.tok _, ⟨_, rfl⟩, by simpa [PyData.shown] using q⟩ (by simpa [PyData.shown] using hl)
  | lst hs ha =>
    cases ru
    exact repr_of_reads' rd sh (PyData.noDict_hsm (PyData.hasDict_of_canLay _ (SeqAt.canLay_of_shaped sp))) hg (by omega) (fun _ _ e => e) (fun h' u tk hk => ⟨.str _, H, I.kept hk, ⟨_, rfl⟩, q⟩) hl
  | tup hs ha =>
    cases ru
    exact repr_of_reads' rd sh (PyData.noDict_hsm (PyData.hasDict_of_canLay _ (SeqAt.canLay_of_shaped sp))) hg (by omega) (fun _ _ e => e) (fun h' u tk hk => ⟨.str _, H, I.kept hk, ⟨_, rfl⟩, q⟩) hl
def reprOk (p : PyData) : Prop := SeqAt.shaped p = true ∧ p.showable = true ∧ p.shown.length ≤ sizeLine
instance (p : PyData) : Decidable (reprOk p) := by unfold reprOk; exact inferInstance
def dRepr (S : Sto) : List D → Option D
  | [x] => match pdv S x with
    | some p => if reprOk p then some (.str p.shown) else none
    | none => none
  | _ => none
theorem opn_repr {B : Bas} : OpN B (rRepr B.K) dRepr := fun m S H xs ds d s c r e Q q => by
  unfold dRepr at e
  split at e
  · rename_i x
    obtain ⟨v, rfl, rv⟩ := r.one
    split at e
    · rename_i p hp
      split at e
      · rename_i ok
        cases e
        exact ⟨v, p, rfl, rv.dpv s c hp, ok.1, ok.2.1, ok.2.2, q_val s c q (rp_str m)⟩
      · cases e
    · cases e
  · cases e
/-! ### a def that is called where no repr runs -/
structure FnG (P : Program) (w : World) (K : PySem.W.Frag) (mg : Str → Option Value) (base : Heap) (CX : CXT) (k : Nat) (f : Addr) (fd : FuncData) (ps : List Str) (sp : Sp) : Prop where
  len : ∀ vs H Q E, sp vs H Q E → vs.length = ps.length
  run : ∀ (A : Around) (outer : List Env) (s : Shared) (H : Hp) (args : Args) (us : List Value) (vs : List V) (Q : VK) (E : XK), A.guards = some [] → Room k A → Env0 P w K mg base A outer s H → BindsTo s fd args (ps.zip us) → Vals vs us → sp vs H Q E →
    codeAny (model P w) A (.call (.ref f) args) (CR CX outer P w H s Q E) s
theorem guards_deeper {A : Around} {env : Env} (h : A.guards = some []) : (A.deeper env).guards = some [] := h
theorem fnG_ok {P : Program} {w : World} {K : PySem.W.Frag} {mg : Str → Option Value} {base : Heap} {B : Bas} {x qual : Str} {st : Stmt} {f : Addr} {fd : FuncData} {N ps : List Str} {k n : Nat} {ms : MS} (F : Fun K x qual st f fd) (S : FnScope N ps (defScope st)) (hn : n = ps.length)
    (hbody : ∀ (cdv : Value) (A : Around) (outer : List Env) (s : Shared) (H : Hp) (E : XK), (A.deeper (PyProof.Rows.envOfC qual (defScope st) s.heap.objs.size f cdv)).guards = some [] → Room k (A.deeper (PyProof.Rows.envOfC qual (defScope st) s.heap.objs.size f cdv)) →
      PSs (cxOf (L2.CX P w) P w K mg base N qual (defScope st) f cdv A outer s H E) (defBody st) (tS B (WE0 E) ms)) : FnG P w K mg base (L2.CX P w) (k + 1) f fd ps (spF B (fnB n N.length ms)) := by
  obtain ⟨oc, od, kV, doc, pm, an, cdv, ct, osl, rfl, lk, hcd⟩ := F.ex
  refine ⟨spF_len hn, fun A outer s H args us vs Q E hg hr e0 hb r hsp => ?_⟩
  have KX : K.In s.heap := e0.mod.kin.keeps fun b o e => (e0.bs b o e).1
  have lim : s.heap.NoLimit := e0.mod.nolimit.keeps fun b o e => (e0.bs b o e).1
  have hkind : ∀ y ∈ ps.zip us, (defScope st).names.lookup y.1 = some .local ∨ ((defScope st).names.lookup y.1 = some .cell ∧ ((cellsFrom (s.heap.objs.size + 1) (defScope st).names []).lookup y.1).isSome = true) := fun y hy =>
    (S.par y.1 (List.of_mem_zip (show (y.1, y.2) ∈ ps.zip us from hy)).1).imp id fun q => ⟨q, PySem.W.cellsFrom_some _ _ _ (.inl q)⟩
  refine codeAny_call_function hr.depth (KX _ _ lk) rfl S.co S.gen rfl (PySem.W.codeRec_of KX hcd) (hb _ _ _ _ (wpAny_newFunctionEnv_cells S.kind hkind fun env he s1 x => ?_))
  subst he
  refine ⟨lim.keeps x.toInCall.keep, codeAny_func ?_⟩
  have I := inv_start (CX := L2.CX P w) (N := N) (E := E) S hr.hd e0 (spF_len hn _ _ _ _ hsp) r x
  refine wpAny_mono ((hbody cdv A outer s H E hg (hr.deeper _)).run [] s1 _ H _ I (fn_body hsp)) (fun fl s' hs => ?_) fun e s' hs => hs
  cases fl with
  | ret u =>
    obtain ⟨v, σ', H', J, rv, q⟩ := hs
    exact ⟨v, H', J.os, J.bare, J.base, J.hok, rv, q⟩
  | next =>
    obtain ⟨σ', H', J, q⟩ := hs
    exact ⟨.non, H', J.os, J.bare, J.base, J.hok, rfl, q⟩
  | brk =>
    obtain ⟨_, _, _, q⟩ := hs
    exact q.elim
  | cont =>
    obtain ⟨_, _, _, q⟩ := hs
    exact q.elim
/-! ### the law -/
theorem lawG_call {P : Program} {w : World} {K : PySem.W.Frag} {mg mb : Str → Option Value} {CX : CXT} {k : Nat} {fa a : Addr} {fd : FuncData} {x : Str} {sp : Sp} {s1 : Shared} {vs : List Value} {ns : List Int}
    (KX : K.In s1.heap) (hns : s1.heap.Ns mainGlobals mg) (hb : s1.heap.Ns builtinsNs mb) (hbb : ∀ x : Str, x ≠ "__name__" → mb x = bootBuiltins x) (hlim : s1.heap.NoLimit) (hg : s1.gens = #[])
    (ha : s1.heap.get? a = some { cls := .type "list", data := .seq vs.toArray }) (hi : PyProof.Rows.IntsAre vs ns) (hl : ns.length ≤ sizeLine) (hr : Room k callerA)
    (F : ∀ base : Heap, K.In base → base.Ns mainGlobals mg → FnG P w K mg base CX k fa fd [x] sp) (hbind : ∀ (s : Shared) (u : Value), BindsTo s fd ⟨[u], []⟩ [(x, u)])
    (hsp : ∀ H : Hp, L2.Only H → SqL K H a (ns.map V.int) → sp [.ref a] H (fun v _ => v = .bl true) fun _ _ _ => False)
    (hCX : ∀ H e s', CX [] H s1 (fun _ _ _ => False) e s' → False) :
    codeAny (model P w) callerA (.call (.ref fa) ⟨[.ref a], []⟩) (fun r s' => r = .ok (.ret (.bool true)) ∧ OldK s1.heap s'.heap ∧ s'.os = s1.os ∧ PyProof.Rows.AllBare s'.gens) s1 := by
  have rv := vals_ints hi
  have lenV := hi.length
  -- H: nothing, or the script alone
  suffices core : ∀ H : Hp, L2.Only H → SqL K H a (ns.map V.int) → HOk P w H s1.heap → (∀ b u, H b = some u → b = a ∧ K.lookup a = none) →
      codeAny (model P w) callerA (.call (.ref fa) ⟨[.ref a], []⟩) (fun r s' => r = .ok (.ret (.bool true)) ∧ OldK s1.heap s'.heap ∧ s'.os = s1.os ∧ PyProof.Rows.AllBare s'.gens) s1 by
    by_cases hk : ∃ o, K.lookup a = some o
    · obtain ⟨o, hk⟩ := hk
      have e := KX a o hk
      rw [ha] at e
      cases e
      exact core (fun _ => none) (fun _ => .inl rfl) (.inr ⟨_, vs.toArray, _, hk, rfl, rfl, rfl, by rw [List.size_toArray, lenV]; exact hl, by simpa using rv⟩) (fun b u z => nomatch z) (fun b u z => nomatch z)
    · have hkn : K.lookup a = none := by
        cases e : K.lookup a with
        | none => rfl
        | some o => exact absurd ⟨o, e⟩ hk
      have at_a : upd (fun _ => none) a (.frz { cls := .type "list", data := .seq vs.toArray } (.lst (ns.map V.int))) a = some (.frz { cls := .type "list", data := .seq vs.toArray } (.lst (ns.map V.int))) := upd_same
      refine core (upd (fun _ => none) a (.frz { cls := .type "list", data := .seq vs.toArray } (.lst (ns.map V.int)))) (fun b => ?_) (.inl (.inr ⟨_, at_a⟩)) (fun b u z => ?_) fun b u z => ⟨?_, hkn⟩
      · by_cases e : b = a
        · exact .inr ⟨_, _, by rw [e]; exact at_a⟩
        · exact .inl (upd_ne e)
      · by_cases e : b = a
        · subst e
          rw [at_a] at z
          cases z
          exact ⟨ha, by rw [List.length_map]; exact hl, vs, _, rv, ha⟩
        · rw [upd_ne e] at z; cases z
      · by_cases e : b = a
        · exact e
        · rw [upd_ne e] at z; cases z
  intro H hO hS hok hA
  have nodict : ∀ {b : Addr} {o : Obj} {es : Array DictEntry} {ep : Nat}, s1.heap.get? b = some o → o.data = .dict es ep → H b = none := fun {b o es ep} e d => by
    cases q : H b with
    | none => rfl
    | some u =>
      rw [(hA b u q).1, ha] at e
      cases e
      cases d
  have nsK : ∀ {b : Addr} {mm : Str → Option Value}, s1.heap.Ns b mm → (hidT s1.heap H).Ns b mm := fun {b mm} ⟨o, es, ep, e, d, r⟩ => ⟨o, es, ep, hidT_get e (nodict e d), d, r⟩
  have hKb : K.In (hidT s1.heap H) := fun b o e => hidT_get (KX b o e) (by
    cases q : H b with
    | none => rfl
    | some u =>
      obtain ⟨z, zn⟩ := hA b u q
      rw [z, zn] at e
      cases e)
  have e0 : Env0 P w K mg (hidT s1.heap H) callerA [] s1 H :=
    ⟨rfl, ⟨hKb, nsK hns, ⟨mb, nsK hb, hbb⟩, let ⟨mc, h1, h2⟩ := hlim; ⟨mc, nsK h1, h2⟩⟩, fun b o e => of_hidT e, Nat.le_of_eq (hidT_size _ _), trivial, fun b z => absurd (show b ∈ ([] : List Addr) from z) (by simp), hok, .of_eq hg⟩
  refine codeAny_mono ((F _ hKb (nsK hns)).run callerA [] s1 H ⟨[.ref a], []⟩ [.ref a] [.ref a] _ _ rfl hr e0 (hbind s1 (.ref a)) (.cons rfl .nil) (hsp H hO hS)) fun r s' h => ?_
  match r, h with
  | .error e, h => exact (hCX H e s' h).elim
  | .ok (.ret u), h =>
    obtain ⟨v, H', os, bare, un, hok', r', q⟩ := h
    have q' : v = .bl true := q
    subst q'
    obtain rfl : u = Value.bool true := r'
    refine ⟨rfl, OldK.of_keep fun b o e => ?_, os, bare⟩
    cases q : H b with
    | none => exact un.keep b o e q (fun z => absurd (show b ∈ ([] : List Addr) from z) (by simp)) (by simp)
    | some u =>
      rcases hO b with z | ⟨ob, xs, z⟩
      · rw [q] at z; cases z
      · obtain ⟨e1, _⟩ := hok b _ z
        obtain ⟨e2, _⟩ := hok' b _ (un.frzs b ob _ z)
        rw [e] at e1
        cases e1
        exact e2
theorem walkG {l : PySem.W.OpenLaw} {n k : Nat} {q : Program} {loose : List Str} {XP : (Str → Option Value) → Heap → Prop} {YP : World → Heap → Prop} {d : DefRec} {CX : World → CXT} {x : Str}
    (hn : l.most = some n) (hn2 : n ≤ sizeLine) (hdf : d.params.defaults = []) (hr : Room k callerA)
    (F : ∀ (w : World) (mg : Str → Option Value) (fa : Addr) (h : Heap), YP w h → h.Ns mainGlobals mg → mg d.name = some (.ref fa) →
      ∃ (K : PySem.W.Frag) (fd : FuncData) (sp : Sp), K.In h ∧ (∀ (s : Shared) (u : Value), BindsTo s fd ⟨[u], []⟩ [(x, u)]) ∧
        (∀ (H : Hp) (a : Addr) (ns : List Int), ns.length ≤ n → L2.Only H → SqL K H a (ns.map V.int) → sp [.ref a] H (fun v _ => v = .bl true) fun _ _ _ => False) ∧
        ∀ base : Heap, K.In base → base.Ns mainGlobals mg → FnG l.prog w K mg base (CX w) k fa fd [x] sp)
    (hCX : ∀ (w : World) (H : Hp) (s : Shared) (e : Value) (s' : Shared), CX w [] H s (fun _ _ _ => False) e s' → False) :
    PySem.W.WalkO q loose XP YP l.row.toRowW d [] (fun f vs => PySem.call f vs) := by
  refine Att.attach_call hn hdf fun w s0 s1 mg mb fa o pm cd doc a vs ns G Y ho hd hcd hmg hobj hints hlen hg => ?_
  obtain ⟨K, fd, sp, KX, hb, hsp, hF⟩ := F w mg fa _ Y G.T.g hmg
  exact lawG_call KX G.T.g G.T.b G.T.builtins G.T.nolimit hg hobj hints (Nat.le_trans hlen hn2) hr hF hb (fun H hO hS => hsp H a ns hlen hO hS) fun H e s' => hCX w H s1 e s'
/-- the law's promise, from what its function is worth at every script -/
theorem law_sp {B : Bas} {F : Fn} {H : Hp} {a : Addr} {ns : List Int} (hn : F.n = 1) (hO : L2.Only H) (hS : SqL B.K H a (ns.map V.int)) (h : ∃ S, F.run [.scr (ns.map .int)] [] = .ok (.bl true) S) : spF B F [.ref a] H (fun v _ => v = .bl true) fun _ _ _ => False := by
  obtain ⟨S, h⟩ := h
  have ri : ∀ (m : Mp) (l : List Int), Reps B m (l.map .int) (l.map V.int) := fun m l => by
    induction l with
    | nil => exact Reps.nil
    | cons i r ih => exact Reps.cons (rp_int m) ih
  refine ⟨⟨fun _ => 0, 0, H⟩, [], [.scr (ns.map .int)], fun _ _ e => e, ⟨rfl, fun i o e => by simp at e, fun i j hi => absurd hi (Nat.not_lt_zero _)⟩, Reps.cons ?_ Reps.nil, hn.symm, ?_⟩
  · simp only [Rep]
    refine ⟨a, ns.map V.int, rfl, ?_, ri _ ns⟩
    rcases hS with hS | hS
    · exact .inl ⟨hS, fun i hi => absurd hi (Nat.not_lt_zero _)⟩
    · exact .inr (.inr hS)
  · rw [h]
    exact fun m' H' v _ _ r => r.bl_eq
end G
end
section
set_option Elab.async false
set_option linter.all false
set_option maxRecDepth 100000
set_option maxHeartbeats 2000000
/-! G12: the words that the printed derivations use -/
namespace G
open PySem L2
section
variable {B : Bas}
theorem op2_sub : Op2 B (rI0 fun i j => .int (i - j)) dSub := op2_I0
theorem op2_div : Op2 B (rI CDiv fun i j => .int (i / j)) dDiv := op2_I
theorem op2_mod : Op2 B (rI (fun _ j => 0 < j) fun i j => .int (i % j)) dMod := op2_I
theorem op2_pow : Op2 B (rI CPow fun i j => .int (i ^ j.toNat)) dPow := op2_I
theorem op2_shl : Op2 B (rI CPow fun i j => .int (i * 2 ^ j.toNat)) dShl := op2_I
theorem op2_and : Op2 B (rI0 fun i j => .int (Builtin.bitAnd i j)) dAnd := op2_I0
theorem op2_or : Op2 B (rI0 fun i j => .int (Builtin.bitOr i j)) dOr := op2_I0
theorem op2_le0 : Op2 B (rI0 fun i j => .bl (decide (i ≤ j))) dLe0 := op2_B0
theorem op2_gt0 : Op2 B (rI0 fun i j => .bl (decide (j < i))) dGt0 := op2_B0
theorem op2_ge0 : Op2 B (rI0 fun i j => .bl (decide (j ≤ i))) dGe0 := op2_B0
end
theorem hu64 {A : Around} {k : Nat} (hr : Room k A) : A.units + 64 < cLine := by have := hr.un; omega
theorem hu65 {A : Around} {k : Nat} (hr : Room k A) : A.units + 65 < cLine := by have := hr.un; omega
theorem hu66 {A : Around} {k : Nat} (hr : Room k A) : A.units + 66 < cLine := by have := hr.un; omega
/-- a def that may be called by its name -/
def Cal (P : Program) (w : World) (K : PySem.W.Frag) (mg : Str → Option Value) (base : Heap) (B : Bas) (x : Str) (k : Nat) (F : Fn) : Prop :=
  ∃ (f : Addr) (fd : FuncData) (ps : List Str), FnOk P w K mg base (L2.CX P w) k f fd ps (spF B F) ∧ mg x = some (.ref f) ∧ PySem.W.keepIn K (.ref f) = true ∧ Binds K fd ps []
section
variable {X : Cx} {B : Bas} {W : WX} {e : Expr} {es : List Expr} {pos p : Pos} {mr : MA} {x : Str}
theorem de_fn {k j : Nat} {F : Fn} (c : Cal X.prog X.w X.K X.mg X.base B x k F) (hr : Room j X.A) (hk : k ≤ j) (tk : Takes X W) (ha : PA X (e :: es) (tA B W mr)) (hg : Gl X x := by rfl) (hdb : (x == ("__debug__" : Str)) = false := by decide)
    (he : starEach (e :: es) X.env = (false, eval e X.env) :: starEach es X.env := by rfl) (hpl : (backTo pos (starEach es X.env)).any (·.1) = false := by rfl) : PE X (.Call (.Name x p) (e :: es) [] pos) (tE B W (mCall F mr)) := by
  obtain ⟨f, fd, ps, h1, h2, h3, h4⟩ := c
  exact de_call h1 (hr.mono hk) tk h2 h3 h4 ha hg hdb he hpl
theorem de_tup {k : Nat} (ha : PA X es (tA B W mr)) : PE X (.Tuple es k pos) (tE B W (mTup mr)) := PE.cut (pe_tup ha) tTup_of
theorem de_lst (ha : PA X es (tA B W mr)) : PE X (.List es pos) (tE B W (mLst mr)) := PE.cut (pe_lst ha) tLst_of
theorem de_new (ha : PA X es (tA B W mr)) : PE X (.List es pos) (tE B W (mNew mr)) := PE.cut (pe_lst ha) tNew_of
theorem de_gint {i : Int} (h : ∃ t, X.mg x = some (.int i t)) (hg : Gl X x := by rfl) (hd : (x == ("__debug__" : Str)) = false := by decide) : PE X (.Name x pos) (tE B W (mC (.int i))) := by
  obtain ⟨t, h⟩ := h
  exact de_c (pe_glob hg h (v := .int i) ⟨t, rfl⟩ hd) rp_int
theorem de_gstr {z : Str} (h : ∃ t, X.mg x = some (.str z t)) (hg : Gl X x := by rfl) (hd : (x == ("__debug__" : Str)) = false := by decide) : PE X (.Name x pos) (tE B W (mC (.str z))) := by
  obtain ⟨t, h⟩ := h
  exact de_c (pe_glob hg h (v := .str z) ⟨t, rfl⟩ hd) rp_str
end
theorem toFun {K : PySem.W.Frag} {x qual : Str} {st : Stmt} {f : Addr} {fd : FuncData} (F : FunD K x qual (defArgs st) (defBody st) (defScope st) [] [] f fd) : Fun K x qual st f fd := by
  obtain ⟨oc, od, dV, kV, doc, pm, an, cdv, ct, osl, e, lk, hcd, hD, _⟩ := F.ex
  rcases hD with ⟨_, rfl⟩ | ⟨z, _⟩
  · exact ⟨⟨oc, od, kV, doc, pm, an, cdv, ct, osl, e, lk, hcd⟩, F.kp⟩
  · exact absurd rfl z
theorem noCX {P : Program} {w : World} {H : Hp} {s : Shared} {e : Value} {s' : Shared} (h : L2.CX P w [] H s (fun _ _ _ => False) e s') : False := by
  obtain ⟨_, _, _, _, _, _, _, _, _, _, _, _, z⟩ := h
  exact z
end G
end
section
set_option Elab.async false
set_option linter.all false
set_option maxRecDepth 100000
set_option maxHeartbeats 2000000
/-! G13: the combinators' values, step by step (for simp only): no lambda is ever opened ahead of its turn -/
namespace G
open PySem L2
def optR (o : Option D) (S : Sto) : Res D := match o with
  | some d => .ok d S
  | none => .bad
@[simp] theorem optR_some (d : D) (S : Sto) : optR (some d) S = .ok d S := rfl
@[simp] theorem optR_none (S : Sto) : optR none S = .bad := rfl
def varR (o : Option (Option D)) (S : Sto) : Res D := match o with
  | some (some d) => .ok d S
  | _ => .bad
@[simp] theorem varR_some (d : D) (S : Sto) : varR (some (some d)) S = .ok d S := rfl
@[simp] theorem mVar_ap (i : Nat) (en : En) (S : Sto) : mVar i en S = varR en[i]? S := rfl
@[simp] theorem mC_ap (d : D) (en : En) (S : Sto) : mC d en S = .ok d S := rfl
def opK2 (g : Sto → D → D → Option D) (x : D) (y : D) (S : Sto) : Res D := optR (g S x y) S
def opK1 (g : Sto → D → D → Option D) (b : ME) (en : En) (x : D) (S : Sto) : Res D := (b en S).bind (opK2 g x)
theorem mOp_ap (g : Sto → D → D → Option D) (a b : ME) (en : En) (S : Sto) : mOp g a b en S = (a en S).bind (opK1 g b en) := rfl
theorem opK1_ap (g : Sto → D → D → Option D) (b : ME) (en : En) (x : D) (S : Sto) : opK1 g b en x S = (b en S).bind (opK2 g x) := rfl
theorem opK2_ap (g : Sto → D → D → Option D) (x y : D) (S : Sto) : opK2 g x y S = optR (g S x y) S := rfl
def unK (g : Sto → D → Option D) (x : D) (S : Sto) : Res D := optR (g S x) S
theorem mUn_ap (g : Sto → D → Option D) (a : ME) (en : En) (S : Sto) : mUn g a en S = (a en S).bind (unK g) := rfl
theorem unK_ap (g : Sto → D → Option D) (x : D) (S : Sto) : unK g x S = optR (g S x) S := rfl
def testK (x : D) (S : Sto) : Res Bool := match x with
  | .bl k => .ok k S
  | _ => .bad
theorem mTest_ap (a : ME) (en : En) (S : Sto) : mTest a en S = (a en S).bind testK := rfl
theorem testK_bl (k : Bool) (S : Sto) : testK (.bl k) S = .ok k S := rfl
def andK (b : MT) (en : En) (k : Bool) (S : Sto) : Res Bool := match k with
  | true => b en S
  | false => .ok false S
theorem mAnd_ap (a b : MT) (en : En) (S : Sto) : mAnd a b en S = (a en S).bind (andK b en) := rfl
theorem andK_t (b : MT) (en : En) (S : Sto) : andK b en true S = b en S := rfl
theorem andK_f (b : MT) (en : En) (S : Sto) : andK b en false S = .ok false S := rfl
def orK (b : MT) (en : En) (k : Bool) (S : Sto) : Res Bool := match k with
  | true => .ok true S
  | false => b en S
theorem mOr_ap (a b : MT) (en : En) (S : Sto) : mOr a b en S = (a en S).bind (orK b en) := rfl
theorem orK_t (b : MT) (en : En) (S : Sto) : orK b en true S = .ok true S := rfl
theorem orK_f (b : MT) (en : En) (S : Sto) : orK b en false S = b en S := rfl
def notK (k : Bool) (S : Sto) : Res Bool := .ok (!k) S
theorem mNot_ap (a : MT) (en : En) (S : Sto) : mNot a en S = (a en S).bind notK := rfl
theorem notK_ap (k : Bool) (S : Sto) : notK k S = .ok (!k) S := rfl
def ifK (a b : ME) (en : En) (k : Bool) (S : Sto) : Res D := match k with
  | true => a en S
  | false => b en S
theorem mIf_ap (t : MT) (a b : ME) (en : En) (S : Sto) : mIf t a b en S = (t en S).bind (ifK a b en) := rfl
theorem ifK_t (a b : ME) (en : En) (S : Sto) : ifK a b en true S = a en S := rfl
theorem ifK_f (a b : ME) (en : En) (S : Sto) : ifK a b en false S = b en S := rfl
def andVK (b : ME) (en : En) (x : D) (S : Sto) : Res D := match x with
  | .bl true => b en S
  | .bl false => .ok (.bl false) S
  | _ => .bad
theorem mAndV_ap (a b : ME) (en : En) (S : Sto) : mAndV a b en S = (a en S).bind (andVK b en) := rfl
theorem andVK_t (b : ME) (en : En) (S : Sto) : andVK b en (.bl true) S = b en S := rfl
theorem andVK_f (b : ME) (en : En) (S : Sto) : andVK b en (.bl false) S = .ok (.bl false) S := rfl
def orVK (b : ME) (en : En) (x : D) (S : Sto) : Res D := match x with
  | .bl true => .ok (.bl true) S
  | .bl false => b en S
  | _ => .bad
theorem mOrV_ap (a b : ME) (en : En) (S : Sto) : mOrV a b en S = (a en S).bind (orVK b en) := rfl
theorem orVK_t (b : ME) (en : En) (S : Sto) : orVK b en (.bl true) S = .ok (.bl true) S := rfl
theorem orVK_f (b : ME) (en : En) (S : Sto) : orVK b en (.bl false) S = b en S := rfl
def notVK (x : D) (S : Sto) : Res D := match x with
  | .bl k => .ok (.bl (!k)) S
  | _ => .bad
theorem mNotV_ap (a : ME) (en : En) (S : Sto) : mNotV a en S = (a en S).bind notVK := rfl
theorem notVK_bl (k : Bool) (S : Sto) : notVK (.bl k) S = .ok (.bl (!k)) S := rfl
theorem aNil_ap (en : En) (S : Sto) : aNil en S = .ok [] S := rfl
def consK2 (x : D) (xs : List D) (S : Sto) : Res (List D) := .ok (x :: xs) S
def consK1 (r : MA) (en : En) (x : D) (S : Sto) : Res (List D) := (r en S).bind (consK2 x)
theorem aCons_ap (a : ME) (r : MA) (en : En) (S : Sto) : aCons a r en S = (a en S).bind (consK1 r en) := rfl
theorem consK1_ap (r : MA) (en : En) (x : D) (S : Sto) : consK1 r en x S = (r en S).bind (consK2 x) := rfl
theorem consK2_ap (x : D) (xs : List D) (S : Sto) : consK2 x xs S = .ok (x :: xs) S := rfl
theorem sz_small {n : Nat} (h : n ≤ 1000000) : n ≤ sizeLine := Nat.le_trans h (by decide)
def tupK (xs : List D) (S : Sto) : Res D := if xs.length ≤ sizeLine then .ok (.tup xs) S else .bad
def lstK (xs : List D) (S : Sto) : Res D := if xs.length ≤ sizeLine then .ok (.lst xs) S else .bad
def newK (xs : List D) (S : Sto) : Res D := if xs.length ≤ sizeLine then .ok (.ref S.length) (S ++ [.lst xs]) else .bad
theorem mTup_ap (r : MA) (en : En) (S : Sto) : mTup r en S = (r en S).bind tupK := rfl
theorem mLst_ap (r : MA) (en : En) (S : Sto) : mLst r en S = (r en S).bind lstK := rfl
theorem mNew_ap (r : MA) (en : En) (S : Sto) : mNew r en S = (r en S).bind newK := rfl
theorem tupK_ok {xs : List D} {S : Sto} (h : xs.length ≤ 1000000) : tupK xs S = .ok (.tup xs) S := if_pos (sz_small h)
theorem lstK_ok {xs : List D} {S : Sto} (h : xs.length ≤ 1000000) : lstK xs S = .ok (.lst xs) S := if_pos (sz_small h)
theorem newK_ok {xs : List D} {S : Sto} (h : xs.length ≤ 1000000) : newK xs S = .ok (.ref S.length) (S ++ [.lst xs]) := if_pos (sz_small h)
def cbK (g : Sto → List D → Option D) (xs : List D) (S : Sto) : Res D := optR (g S xs) S
theorem mCB_ap (g : Sto → List D → Option D) (r : MA) (en : En) (S : Sto) : mCB g r en S = (r en S).bind (cbK g) := rfl
theorem cbK_ap (g : Sto → List D → Option D) (xs : List D) (S : Sto) : cbK g xs S = optR (g S xs) S := rfl
def callK (F : Fn) (ds : List D) (S : Sto) : Res D := if ds.length = F.n then F.run ds S else .bad
theorem mCall_ap (F : Fn) (r : MA) (en : En) (S : Sto) : mCall F r en S = (r en S).bind (callK F) := rfl
theorem callK_ok {F : Fn} {ds : List D} {S : Sto} (h : ds.length = F.n) : callK F ds S = F.run ds S := if_pos h
/-! statements -/
theorem sNil_ap (en : En) (S : Sto) : sNil en S = .ok (.nx en) S := rfl
def seqK (b : MS) (f : Fl) (S : Sto) : Res Fl := match f with
  | .nx en1 => b en1 S
  | .rt d => .ok (.rt d) S
  | .bk e => .ok (.bk e) S
  | .ct e => .ok (.ct e) S
theorem sSeq_ap (a b : MS) (en : En) (S : Sto) : sSeq a b en S = (a en S).bind (seqK b) := rfl
theorem seqK_nx (b : MS) (en : En) (S : Sto) : seqK b (.nx en) S = b en S := rfl
theorem seqK_rt (b : MS) (d : D) (S : Sto) : seqK b (.rt d) S = .ok (.rt d) S := rfl
theorem seqK_bk (b : MS) (d : En) (S : Sto) : seqK b (.bk d) S = .ok (.bk d) S := rfl
theorem seqK_ct (b : MS) (d : En) (S : Sto) : seqK b (.ct d) S = .ok (.ct d) S := rfl
def ifSK (a b : MS) (en : En) (k : Bool) (S : Sto) : Res Fl := match k with
  | true => a en S
  | false => b en S
theorem sIf_ap (t : MT) (a b : MS) (en : En) (S : Sto) : sIf t a b en S = (t en S).bind (ifSK a b en) := rfl
theorem ifSK_t (a b : MS) (en : En) (S : Sto) : ifSK a b en true S = a en S := rfl
theorem ifSK_f (a b : MS) (en : En) (S : Sto) : ifSK a b en false S = b en S := rfl
def retK (d : D) (S : Sto) : Res Fl := .ok (.rt d) S
theorem sRet_ap (e : ME) (en : En) (S : Sto) : sRet e en S = (e en S).bind retK := rfl
theorem retK_ap (d : D) (S : Sto) : retK d S = .ok (.rt d) S := rfl
theorem sRetN_ap (en : En) (S : Sto) : sRetN en S = .ok (.rt .non) S := rfl
def dropK (en : En) (_ : D) (S : Sto) : Res Fl := .ok (.nx en) S
theorem sDrop_ap (e : ME) (en : En) (S : Sto) : sDrop e en S = (e en S).bind (dropK en) := rfl
theorem dropK_ap (en : En) (d : D) (S : Sto) : dropK en d S = .ok (.nx en) S := rfl
def enR (o : Option En) (S : Sto) : Res Fl := match o with
  | some en => .ok (.nx en) S
  | none => .bad
theorem enR_some (en : En) (S : Sto) : enR (some en) S = .ok (.nx en) S := rfl
def asgK (g : MG) (en : En) (d : D) (S : Sto) : Res Fl := enR (g d en) S
theorem sAsg_ap (e : ME) (g : MG) (en : En) (S : Sto) : sAsg e g en S = (e en S).bind (asgK g en) := rfl
theorem asgK_ap (g : MG) (en : En) (d : D) (S : Sto) : asgK g en d S = enR (g d en) S := rfl
theorem gN_ap (i : Nat) (d : D) (en : En) : gN i d en = some (en.set i (some d)) := rfl
theorem gsNil_ap (en : En) : gsNil [] en = some en := rfl
theorem gsCons_ap (g : MG) (r : MGs) (d : D) (ds : List D) (en : En) : gsCons g r (d :: ds) en = (g d en).bind (r ds) := rfl
theorem gT_ap (n : Nat) (g : MGs) (ds : List D) (en : En) : gT n g (.tup ds) en = if ds.length = n then g ds en else none := rfl
def parK (i j : Nat) (en : En) (ds : List D) (S : Sto) : Res Fl := match ds with
  | [x, y] => .ok (.nx ((en.set i (some x)).set j (some y))) S
  | _ => .bad
theorem sPar_ap (i j : Nat) (r : MA) (en : En) (S : Sto) : sPar i j r en S = (r en S).bind (parK i j en) := rfl
theorem parK_ap (i j : Nat) (en : En) (x y : D) (S : Sto) : parK i j en [x, y] S = .ok (.nx ((en.set i (some x)).set j (some y))) S := rfl
theorem sBk_ap (en : En) (S : Sto) : sBk en S = .ok (.bk en) S := rfl
theorem sCt_ap (en : En) (S : Sto) : sCt en S = .ok (.ct en) S := rfl
/-! loops -/
noncomputable def forK (g : MG) (b : MS) (en : En) (its : Its) (S : Sto) : Res Fl := loop g b its.P its.ds en S
theorem sFor_ap (i : MI) (g : MG) (b : MS) (en : En) (S : Sto) : sFor i g b en S = (i en S).bind (forK g b en) := rfl
theorem forK_ap (g : MG) (b : MS) (en : En) (ds : List D) (P : Sto → Prop) (S : Sto) : forK g b en ⟨ds, P⟩ S = loop g b P ds en S := rfl
def seqIK (d : D) (S : Sto) : Res Its := match seqL S d, seqT d with
  | some ds, _ => .ok ⟨ds, fun S => seqL S d = some ds⟩ S
  | none, some ds => .ok ⟨ds, fun _ => True⟩ S
  | none, none => .bad
theorem iSeq_ap (e : ME) (en : En) (S : Sto) : iSeq e en S = (e en S).bind seqIK := rfl
theorem seqIK_lst (ds : List D) (S : Sto) : seqIK (.lst ds) S = .ok ⟨ds, fun _ => True⟩ S := by
  unfold seqIK
  simp only [seqL]
theorem seqIK_scr (ds : List D) (S : Sto) : seqIK (.scr ds) S = .ok ⟨ds, fun _ => True⟩ S := by
  unfold seqIK
  simp only [seqL]
theorem seqIK_tup (ds : List D) (S : Sto) : seqIK (.tup ds) S = .ok ⟨ds, fun _ => True⟩ S := rfl
theorem seqIK_ktp (ds : List D) (S : Sto) : seqIK (.ktp ds) S = .ok ⟨ds, fun _ => True⟩ S := rfl
open Classical in
noncomputable def rg1K (ds : List D) (S : Sto) : Res Its := match ds with
  | [.int j] => if rgOk j then .ok ⟨rangeD 0 j.toNat, fun _ => True⟩ S else .bad
  | _ => .bad
theorem iRg1_ap (r : MA) (en : En) (S : Sto) : iRg1 r en S = (r en S).bind rg1K := rfl
theorem rg1K_ok {j : Int} {S : Sto} (h : -(2 ^ 62) ≤ j ∧ j < 2 ^ 62) : rg1K [.int j] S = .ok ⟨rangeD 0 j.toNat, fun _ => True⟩ S := if_pos h
open Classical in
noncomputable def rg2K (ds : List D) (S : Sto) : Res Its := match ds with
  | [.int i, .int j] => if rgOk i ∧ rgOk j then .ok ⟨rangeD i (j - i).toNat, fun _ => True⟩ S else .bad
  | _ => .bad
theorem iRg2_ap (r : MA) (en : En) (S : Sto) : iRg2 r en S = (r en S).bind rg2K := rfl
theorem rg2K_ok {i j : Int} {S : Sto} (h : (-(2 ^ 62) ≤ i ∧ i < 2 ^ 62) ∧ -(2 ^ 62) ≤ j ∧ j < 2 ^ 62) : rg2K [.int i, .int j] S = .ok ⟨rangeD i (j - i).toNat, fun _ => True⟩ S := if_pos h
noncomputable def turnK (g : MG) (b : MS) (P : Sto → Prop) (ds : List D) (f : Fl) (S : Sto) : Res Fl := match f with
  | .nx en2 => loop g b P ds en2 S
  | .ct en2 => loop g b P ds en2 S
  | .bk en2 => .ok (.nx en2) S
  | .rt d => .ok (.rt d) S
theorem turnK_nx (g : MG) (b : MS) (P : Sto → Prop) (ds : List D) (en : En) (S : Sto) : turnK g b P ds (.nx en) S = loop g b P ds en S := rfl
theorem turnK_ct (g : MG) (b : MS) (P : Sto → Prop) (ds : List D) (en : En) (S : Sto) : turnK g b P ds (.ct en) S = loop g b P ds en S := rfl
theorem turnK_bk (g : MG) (b : MS) (P : Sto → Prop) (ds : List D) (en : En) (S : Sto) : turnK g b P ds (.bk en) S = .ok (.nx en) S := rfl
theorem turnK_rt (g : MG) (b : MS) (P : Sto → Prop) (ds : List D) (d : D) (S : Sto) : turnK g b P ds (.rt d) S = .ok (.rt d) S := rfl
noncomputable def stepR (g : MG) (b : MS) (P : Sto → Prop) (ds : List D) (o : Option En) (S : Sto) : Res Fl := match o with
  | none => .bad
  | some en => (b en S).bind (turnK g b P ds)
theorem stepR_some (g : MG) (b : MS) (P : Sto → Prop) (ds : List D) (en : En) (S : Sto) : stepR g b P ds (some en) S = (b en S).bind (turnK g b P ds) := rfl
theorem loop_nil (g : MG) (b : MS) (en : En) (S : Sto) : loop g b (fun _ => True) [] en S = .ok (.nx en) S := if_pos trivial
theorem loop_cons (g : MG) (b : MS) (d : D) (ds : List D) (en : En) (S : Sto) : loop g b (fun _ => True) (d :: ds) en S = stepR g b (fun _ => True) ds (g d en) S := by
  rw [loop, if_pos trivial]
  rfl
/-! a def's value -/
def endK (f : Fl) (S : Sto) : Res D := match f with
  | .nx _ => .ok .non S
  | .rt d => .ok d S
  | _ => .bad
theorem fnB_run (n N : Nat) (b : MS) (ds : List D) (S : Sto) : (fnB n N b).run ds S = (b (startE N ds) S).bind endK := rfl
theorem endK_nx (en : En) (S : Sto) : endK (.nx en) S = .ok .non S := rfl
theorem endK_rt (d : D) (S : Sto) : endK (.rt d) S = .ok d S := rfl
theorem dropF_run (F : Fn) (ds : List D) (S : Sto) : (dropF F).run ds S = (F.run ds S).drop S := rfl
theorem fnB_n (n N : Nat) (b : MS) : (fnB n N b).n = n := rfl
theorem dropF_n (F : Fn) : (dropF F).n = F.n := rfl
/-! what must hold of a result -/
def Wp {α : Type} (r : Res α) (Q : α → Sto → Prop) : Prop := match r with
  | .ok a S => Q a S
  | _ => False
theorem Wp_ok {α : Type} (a : α) (S : Sto) (Q : α → Sto → Prop) : Wp (.ok a S) Q = Q a S := rfl
theorem Wp_bind {α β : Type} (r : Res α) (k : α → Sto → Res β) (Q : β → Sto → Prop) : Wp (r.bind k) Q = Wp r (fun a S => Wp (k a S) Q) := by cases r <;> rfl
theorem Wp.mono {α : Type} {r : Res α} {Q Q' : α → Sto → Prop} (h : Wp r Q) (f : ∀ a S, Q a S → Q' a S) : Wp r Q' := by
  cases r with
  | ok a S => exact f a S h
  | ex c ns vs S => exact h.elim
  | bad => exact h.elim
theorem Wp.of {α : Type} {r : Res α} {a : α} {S : Sto} {Q : α → Sto → Prop} (h : r = .ok a S) (q : Q a S) : Wp r Q := by rw [h]; exact q
theorem Wp.ok_of {α : Type} {r : Res α} {Q : α → Sto → Prop} (h : Wp r Q) : ∃ a S, r = .ok a S ∧ Q a S := by
  cases r with
  | ok a S => exact ⟨a, S, rfl, h⟩
  | ex c ns vs S => exact h.elim
  | bad => exact h.elim
open Classical in
theorem Wp_drop {r : Res D} {S : Sto} {Q : D → Sto → Prop} : Wp (r.drop S) Q = Wp r (fun d S' => (Cl S S' ∧ d.bel S.length) ∧ Q d (S'.take S.length)) := by
  cases r with
  | ok d S' =>
    simp only [Res.drop, Wp]
    by_cases h : Cl S S' ∧ d.bel S.length
    · rw [if_pos h]
      simp [h]
    · rw [if_neg h]
      simp only [h, false_and]
  | ex c ns vs S' =>
    simp only [Res.drop, Wp]
    split
    · rename_i h
      split at h <;> cases h
    · rfl
  | bad => rfl
theorem Cl.set {S : Sto} {i : Nat} {b : Ob} (hb : b.bel S.length) : Cl S (S.set i b) := ⟨by simp, fun j hj => by
  by_cases h : i = j
  · subst h
    exact .inr ⟨b, List.getElem?_set_self hj, hb⟩
  · exact .inl (List.getElem?_set_ne h)⟩
theorem Cl.refl (S : Sto) : Cl S S := ⟨Nat.le_refl _, fun _ _ => .inl rfl⟩
theorem take_set (S : Sto) (i : Nat) (b : Ob) : (S.set i b).take S.length = S.set i b := List.take_of_length_le (by simp)
/-- a for loop by its invariant -/
theorem Wp_loop {g : MG} {b : MS} {ds : List D} {en : En} {S : Sto} {Q : Fl → Sto → Prop} (I : Nat → En → Sto → Prop) (h0 : I 0 en S)
    (turn : ∀ (i : Nat) (d : D) (en : En) (S : Sto), ds[i]? = some d → I i en S → ∃ en1, g d en = some en1 ∧ Wp (b en1 S) fun f S1 => match f with
      | .nx en2 => I (i + 1) en2 S1
      | .ct en2 => I (i + 1) en2 S1
      | .bk en2 => Q (.nx en2) S1
      | .rt d => Q (.rt d) S1)
    (done : ∀ en S, I ds.length en S → Q (.nx en) S) : Wp (loop g b (fun _ => True) ds en S) Q := by
  have key : ∀ (n i : Nat) (en : En) (S : Sto), ds.length - i = n → i ≤ ds.length → I i en S → Wp (loop g b (fun _ => True) (ds.drop i) en S) Q := by
    intro n
    induction n with
    | zero =>
      intro i en S hn hi h
      have e : i = ds.length := by omega
      subst e
      rw [List.drop_length, loop_nil]
      exact done en S h
    | succ n ih =>
      intro i en S hn hi h
      have hi' : i < ds.length := by omega
      rw [List.drop_eq_getElem_cons hi', loop_cons]
      obtain ⟨en1, e1, w⟩ := turn i ds[i] en S (List.getElem?_eq_getElem hi') h
      rw [e1, stepR_some, Wp_bind]
      refine w.mono fun f S1 q => ?_
      cases f with
      | nx en2 => exact ih (i + 1) en2 S1 (by omega) hi' q
      | ct en2 => exact ih (i + 1) en2 S1 (by omega) hi' q
      | bk en2 => exact q
      | rt d => exact q
  exact key _ 0 en S rfl (Nat.zero_le _) h0
/-- a while loop by its invariant and its measure -/
theorem Wp_whil {t : MT} {b : MS} {Q : Fl → Sto → Prop} (I : En → Sto → Prop) (μ : En → Sto → Nat)
    (turn : ∀ en S, I en S → Wp (t en S) fun k S1 => match k with
      | false => Q (.nx en) S1
      | true => Wp (b en S1) fun f S2 => match f with
        | .nx en2 => I en2 S2 ∧ μ en2 S2 < μ en S
        | .ct en2 => I en2 S2 ∧ μ en2 S2 < μ en S
        | .bk en2 => Q (.nx en2) S2
        | .rt d => Q (.rt d) S2) :
    ∀ (n : Nat) (en : En) (S : Sto), I en S → μ en S < n → Wp (whil t b n en S) Q := by
  intro n
  induction n with
  | zero => intro en S _ h; exact absurd h (Nat.not_lt_zero _)
  | succ n ih =>
    intro en S h hm
    rw [whil, Wp_bind]
    refine (turn en S h).mono fun k S1 q => ?_
    cases k with
    | false => exact q
    | true =>
      simp only [] at q ⊢
      rw [Wp_bind]
      refine q.mono fun f S2 r => ?_
      cases f with
      | nx en2 => exact ih en2 S2 r.1 (by omega)
      | ct en2 => exact ih en2 S2 r.1 (by omega)
      | bk en2 => exact r
      | rt d => exact r
theorem sWhile_ap (n : Nat) (t : MT) (b : MS) (en : En) (S : Sto) : sWhile n t b en S = whil t b n en S := rfl
/-! comprehensions -/
noncomputable def itK (g : MG) (t : MT) (e : ME) (en : En) (its : Its) (S : Sto) : Res (List D) := comp g t e its.P en its.ds [] S
theorem cItems_ap (i : MI) (g : MG) (t : MT) (e : ME) (vs : List Nat) (en : En) (S : Sto) : cItems i g t e vs en S = (i en S).bind (itK g t e (wipeE en vs)) := rfl
theorem itK_ap (g : MG) (t : MT) (e : ME) (en : En) (ds : List D) (P : Sto → Prop) (S : Sto) : itK g t e en ⟨ds, P⟩ S = comp g t e P en ds [] S := rfl
def lcK (ds : List D) (S : Sto) : Res D := .ok (.lst ds) S
def lcNK (ds : List D) (S : Sto) : Res D := .ok (.ref S.length) (S ++ [.lst ds])
theorem mLc_ap (i : MI) (g : MG) (t : MT) (e : ME) (vs : List Nat) (en : En) (S : Sto) : mLc i g t e vs en S = (cItems i g t e vs en S).bind lcK := rfl
theorem mLcN_ap (i : MI) (g : MG) (t : MT) (e : ME) (vs : List Nat) (en : En) (S : Sto) : mLcN i g t e vs en S = (cItems i g t e vs en S).bind lcNK := rfl
theorem lcK_ap (ds : List D) (S : Sto) : lcK ds S = .ok (.lst ds) S := rfl
theorem lcNK_ap (ds : List D) (S : Sto) : lcNK ds S = .ok (.ref S.length) (S ++ [.lst ds]) := rfl
theorem tYesM_ap (en : En) (S : Sto) : tYesM en S = .ok true S := rfl
/-- a comprehension that leaves the store alone: filter and map -/
theorem comp_pure {g : MG} {t : MT} {e : ME} {en : En} {S : Sto} {p : D → Bool} {f : D → D} : ∀ (ds acc : List D),
    (∀ d ∈ ds, ∃ en1, g d en = some en1 ∧ t en1 S = .ok (p d) S ∧ (p d = true → e en1 S = .ok (f d) S)) → acc.length + ds.length ≤ 1000000 →
    comp g t e (fun _ => True) en ds acc S = .ok (acc ++ (ds.filter p).map f) S
  | [], acc, _, _ => by rw [comp, if_pos trivial]; simp
  | d :: ds, acc, h, hl => by
    obtain ⟨en1, h1, h2, h3⟩ := h d (by simp)
    rw [comp, if_pos trivial, h1]
    simp only [h2, Res.noex, Res.bind_ok]
    simp only [List.length_cons] at hl
    cases hp : p d with
    | false =>
      simp only [hp]
      rw [comp_pure ds acc (fun x hx => h x (by simp [hx])) (by omega), List.filter_cons_of_neg (by simp [hp])]
    | true =>
      simp only [hp, h3 hp, Res.bind_ok]
      rw [if_pos (show acc.length < sizeLine from Nat.lt_of_lt_of_le (by omega : acc.length < 1000000) (by decide)), comp_pure ds (acc ++ [f d]) (fun x hx => h x (by simp [hx])) (by simp; omega), List.filter_cons_of_pos hp]
      simp
end G
end
section
set_option Elab.async false
set_option linter.all false
set_option maxRecDepth 100000
set_option maxHeartbeats 2000000
/-! G14: the operators' values by their operands' kinds -/
namespace G
open PySem L2
theorem dAdd_int (S : Sto) (i j : Int) : dAdd S (.int i) (.int j) = some (.int (i + j)) := rfl
theorem dAdd_str (S : Sto) (x y : Str) : dAdd S (.str x) (.str y) = if x.length + y.length ≤ sizeLine then some (.str (x ++ y)) else none := rfl
theorem dAdd_lst (S : Sto) (x y : List D) : dAdd S (.lst x) (.lst y) = if x.length + y.length ≤ sizeLine then some (.lst (x ++ y)) else none := rfl
theorem dAdd_tup (S : Sto) (x y : List D) : dAdd S (.tup x) (.tup y) = if x.length + y.length ≤ sizeLine then some (.tup (x ++ y)) else none := rfl
theorem dSub_int (S : Sto) (i j : Int) : dSub S (.int i) (.int j) = some (.int (i - j)) := rfl
theorem dMul_int (S : Sto) (i j : Int) : dMul S (.int i) (.int j) = if CMul i j then some (.int (i * j)) else none := rfl
theorem dMul_l {S : Sto} {i j : Int} (h : -(2 ^ 64) < i ∧ i < 2 ^ 64) : dMul S (.int i) (.int j) = some (.int (i * j)) := if_pos (.inl h)
theorem dMul_r {S : Sto} {i j : Int} (h : -(2 ^ 64) < j ∧ j < 2 ^ 64) : dMul S (.int i) (.int j) = some (.int (i * j)) := if_pos (.inr h)
theorem dDiv_int {S : Sto} {i j : Int} (h : 0 < j ∧ j < 1073741824) : dDiv S (.int i) (.int j) = some (.int (i / j)) := if_pos h
theorem dMod_int {S : Sto} {i j : Int} (h : 0 < j) : dMod S (.int i) (.int j) = some (.int (i % j)) := if_pos h
theorem dPow_int {S : Sto} {i j : Int} (h : CPow i j) : dPow S (.int i) (.int j) = some (.int (i ^ j.toNat)) := if_pos h
theorem dShl_int {S : Sto} {i j : Int} (h : CPow i j) : dShl S (.int i) (.int j) = some (.int (i * 2 ^ j.toNat)) := if_pos h
theorem dAnd_int (S : Sto) (i j : Int) : dAnd S (.int i) (.int j) = some (.int (Builtin.bitAnd i j)) := rfl
theorem dOr_int (S : Sto) (i j : Int) : dOr S (.int i) (.int j) = some (.int (Builtin.bitOr i j)) := rfl
theorem dLe0_int (S : Sto) (i j : Int) : dLe0 S (.int i) (.int j) = some (.bl (decide (i ≤ j))) := rfl
theorem dGt0_int (S : Sto) (i j : Int) : dGt0 S (.int i) (.int j) = some (.bl (decide (j < i))) := rfl
theorem dGe0_int (S : Sto) (i j : Int) : dGe0 S (.int i) (.int j) = some (.bl (decide (j ≤ i))) := rfl
theorem sh_int (i : Int) : SeqAt.shaped (.int i) = true := by simp [SeqAt.shaped, PyData.canLay0, PyData.depth]
theorem sh_str (x : Str) : SeqAt.shaped (.str x) = PyData.strOk x := by simp [SeqAt.shaped, PyData.canLay0, PyData.depth]
theorem sh_none : SeqAt.shaped .none = true := by simp [SeqAt.shaped, PyData.canLay0, PyData.depth]
theorem sh_bool (b : Bool) : SeqAt.shaped (.bool b) = true := by simp [SeqAt.shaped, PyData.canLay0, PyData.depth]
theorem pdv_int (S : Sto) (i : Int) : pdv S (.int i) = some (.int i) := by simp [pdv, seqL, pd]
theorem pdv_str (S : Sto) (i : Str) : pdv S (.str i) = some (.str i) := by simp [pdv, seqL, pd]
theorem pdv_bl (S : Sto) (i : Bool) : pdv S (.bl i) = some (.bool i) := by simp [pdv, seqL, pd]
theorem pdv_non (S : Sto) : pdv S .non = some .none := by simp [pdv, seqL, pd]
theorem pdv_tup (S : Sto) (ds : List D) : pdv S (.tup ds) = (pds ds).map .tuple := by simp [pdv, seqL, pd]
theorem pdv_lst (S : Sto) (ds : List D) : pdv S (.lst ds) = (pds ds).map .list := by simp [pdv, seqL]
theorem dLt_int (S : Sto) (i j : Int) : dLt S (.int i) (.int j) = some (.bl (decide (i < j))) := by
  simp only [dLt, pdv_int, sh_int, and_self, if_true, pLt, Option.map_some]
theorem dEq_int (S : Sto) (i j : Int) : dEq S (.int i) (.int j) = some (.bl (decide (i = j))) := by
  simp only [dEq, dEqB, pdv_int, sh_int, and_self, if_true, PyData.eqv, Option.map_some]
  rfl
theorem dNe_int (S : Sto) (i j : Int) : dNe S (.int i) (.int j) = some (.bl (!decide (i = j))) := by
  simp only [dNe, dEqB, pdv_int, sh_int, and_self, if_true, PyData.eqv, Option.map_some]
  rfl
theorem dEq_str (S : Sto) (i j : Str) : dEq S (.str i) (.str j) = some (.bl (decide (i = j))) := rfl
theorem dNe_str (S : Sto) (i j : Str) : dNe S (.str i) (.str j) = some (.bl (!decide (i = j))) := rfl
theorem dNe_same {S : Sto} {x : Str} : dNe S (.str x) (.str x) = some (.bl false) := by rw [dNe_str]; simp
theorem dIs_non (S : Sto) (x : D) : dIs S x .non = some (.bl (isNon x)) := rfl
theorem dIsNot_non (S : Sto) (x : D) : dIsNot S x .non = some (.bl (!isNon x)) := rfl
theorem dNeg_int (S : Sto) (i : Int) : dNeg S (.int i) = some (.int (-i)) := rfl
theorem dIdx_tup (S : Sto) (ds : List D) (i : Int) : dIdx S (.tup ds) (.int i) = atI ds i := rfl
theorem dIdx_lst (S : Sto) (ds : List D) (i : Int) : dIdx S (.lst ds) (.int i) = atI ds i := rfl
theorem dIdx_scr (S : Sto) (ds : List D) (i : Int) : dIdx S (.scr ds) (.int i) = atI ds i := rfl
def idxO (o : Option Ob) (i : Int) : Option D := match o with
  | some (.lst ds) => atI ds i
  | _ => none
theorem dIdx_ref (S : Sto) (k : Nat) (i : Int) : dIdx S (.ref k) (.int i) = idxO S[k]? i := by
  simp only [dIdx, seqL, seqT, idxO]
  cases S[k]? with
  | none => rfl
  | some o => cases o <;> rfl
theorem idxO_lst (ds : List D) (i : Int) : idxO (some (.lst ds)) i = atI ds i := rfl
theorem atI_0 {α : Type} (x : α) (xs : List α) : atI (x :: xs) 0 = some x := by
  unfold atI ixN
  rw [if_pos (by omega), if_pos (by simp only [List.length_cons]; omega)]
  rfl
theorem atI_1 {α : Type} (x y : α) (xs : List α) : atI (x :: y :: xs) 1 = some y := by
  unfold atI ixN
  rw [if_pos (by omega), if_pos (by simp only [List.length_cons]; omega)]
  rfl
theorem atI_2 {α : Type} (x y z : α) (xs : List α) : atI (x :: y :: z :: xs) 2 = some z := by
  unfold atI ixN
  rw [if_pos (by omega), if_pos (by simp only [List.length_cons]; omega)]
  rfl
theorem atI_3 {α : Type} (x y z w : α) (xs : List α) : atI (x :: y :: z :: w :: xs) 3 = some w := by
  unfold atI ixN
  rw [if_pos (by omega), if_pos (by simp only [List.length_cons]; omega)]
  rfl
theorem atI_4 {α : Type} (x y z w u : α) (xs : List α) : atI (x :: y :: z :: w :: u :: xs) 4 = some u := by
  unfold atI ixN
  rw [if_pos (by omega), if_pos (by simp only [List.length_cons]; omega)]
  rfl
theorem atI_at {α : Type} {xs : List α} {i : Int} {x : α} (h : 0 ≤ i) (e : xs[i.toNat]? = some x) : atI xs i = some x := by
  have hl := (List.getElem?_eq_some_iff.mp e).1
  unfold atI ixN
  rw [if_pos h, if_pos (by omega)]
  exact e
theorem dLen_str {S : Sto} {z : Str} (h : z.length ≤ sizeLine) : dLen S [.str z] = some (.int z.length) := if_pos h
theorem dLen_lst (S : Sto) (ds : List D) : dLen S [.lst ds] = some (.int ds.length) := rfl
theorem dLen_scr (S : Sto) (ds : List D) : dLen S [.scr ds] = some (.int ds.length) := rfl
theorem dLen_tup (S : Sto) (ds : List D) : dLen S [.tup ds] = some (.int ds.length) := rfl
theorem dInt_int (S : Sto) (i : Int) : dInt S [.int i] = some (.int i) := rfl
theorem dInt_bl (S : Sto) (k : Bool) : dInt S [.bl k] = some (.int (if k then 1 else 0)) := rfl
theorem dAbs_int (S : Sto) (i : Int) : dAbs S [.int i] = some (.int (if i < 0 then -i else i)) := rfl
theorem dStr_int {S : Sto} {i : Int} (h : i.natAbs.log2 < 1920) : dStr S [.int i] = some (.str (toString i)) := if_pos h
theorem dStr_str (S : Sto) (x : Str) : dStr S [.str x] = some (.str x) := rfl
theorem dTuple_lst (S : Sto) (ds : List D) : dTuple S [.lst ds] = some (.tup ds) := rfl
theorem dTuple_tup (S : Sto) (ds : List D) : dTuple S [.tup ds] = some (.tup ds) := rfl
theorem dList_tup (S : Sto) (ds : List D) : dList S [.tup ds] = some (.lst ds) := rfl
theorem dList_lst (S : Sto) (ds : List D) : dList S [.lst ds] = some (.lst ds) := rfl
theorem dAll_lst (S : Sto) (ds : List D) : dAll S [.lst ds] = (bls ds).map fun bs => .bl (bs.all id) := rfl
theorem dAny_lst (S : Sto) (ds : List D) : dAny S [.lst ds] = (bls ds).map fun bs => .bl (bs.any id) := rfl
theorem dFmt_str {S : Sto} {y : Str} (h : y.length ≤ sizeLine) : dFmt S (.str y) = some (.str y) := if_pos h
theorem dFmt_int {S : Sto} {i : Int} (h : i.natAbs.log2 < 1920) : dFmt S (.int i) = some (.str (toString i)) := if_pos h
theorem dSplit_str {S : Sto} {a b : Str} (h : (b.length == 0) = false ∧ a.length + 2 ≤ sizeLine) : dSplit S (.str a) [.str b] = some (.lst ((Txt.split a b).map .str)) := if_pos h
def bmsK1 (g : Sto → D → List D → Option D) (r : MA) (en : En) (x : D) (S : Sto) : Res D := match x with
  | .str z => (r en S).bind fun xs S2 => optR (g S2 (.str z) xs) S2
  | _ => .bad
def bmsK2 (g : Sto → D → List D → Option D) (z : Str) (xs : List D) (S : Sto) : Res D := optR (g S (.str z) xs) S
theorem mBMs_ap (g : Sto → D → List D → Option D) (o : ME) (r : MA) (en : En) (S : Sto) : mBMs g o r en S = (o en S).bind (bmsK1 g r en) := rfl
theorem bmsK1_str (g : Sto → D → List D → Option D) (r : MA) (en : En) (z : Str) (S : Sto) : bmsK1 g r en (.str z) S = (r en S).bind (bmsK2 g z) := rfl
theorem bmsK2_ap (g : Sto → D → List D → Option D) (z : Str) (xs : List D) (S : Sto) : bmsK2 g z xs S = optR (g S (.str z) xs) S := rfl
/-! slices -/
theorem oNone_ap (en : En) (S : Sto) : oNone en S = .ok none S := rfl
def oSomeK (d : D) (S : Sto) : Res (Option Int) := match d with
  | .int i => .ok (some i) S
  | _ => .bad
theorem oSome_ap (e : ME) (en : En) (S : Sto) : oSome e en S = (e en S).bind oSomeK := rfl
theorem oSomeK_int (i : Int) (S : Sto) : oSomeK (.int i) S = .ok (some i) S := rfl
def slK3 (x : D) (lo hi : Option Int) (S : Sto) : Res D := optR (dSl S x lo hi) S
def slK2 (h : MO) (en : En) (x : D) (lo : Option Int) (S : Sto) : Res D := (h en S).bind (slK3 x lo)
def slK1 (l h : MO) (en : En) (x : D) (S : Sto) : Res D := (l en S).bind (slK2 h en x)
theorem mSl_ap (a : ME) (l h : MO) (en : En) (S : Sto) : mSl a l h en S = (a en S).bind (slK1 l h en) := rfl
theorem slK1_ap (l h : MO) (en : En) (x : D) (S : Sto) : slK1 l h en x S = (l en S).bind (slK2 h en x) := rfl
theorem slK2_ap (h : MO) (en : En) (x : D) (lo : Option Int) (S : Sto) : slK2 h en x lo S = (h en S).bind (slK3 x lo) := rfl
theorem slK3_ap (x : D) (lo hi : Option Int) (S : Sto) : slK3 x lo hi S = optR (dSl S x lo hi) S := rfl
theorem dSl_lst (S : Sto) (ds : List D) (lo hi : Option Int) : dSl S (.lst ds) lo hi = some (.lst (cutD ds lo hi)) := rfl
theorem dSl_scr (S : Sto) (ds : List D) (lo hi : Option Int) : dSl S (.scr ds) lo hi = some (.lst (cutD ds lo hi)) := rfl
theorem dSl_tup (S : Sto) (ds : List D) (lo hi : Option Int) : dSl S (.tup ds) lo hi = some (.tup (cutD ds lo hi)) := rfl
/-! stores -/
def ixK3 (d : D) (x : D) (en : En) (y : D) (S : Sto) : Res Fl := match x, y with
  | .ref i, .int n => match S[i]? with
    | some (.lst ds) => match ixN ds.length n with
      | some j => .ok (.nx en) (S.set i (.lst (ds.set j d)))
      | none => .bad
    | _ => .bad
  | _, _ => .bad
def ixK2 (k : ME) (en : En) (d : D) (x : D) (S : Sto) : Res Fl := (k en S).bind (ixK3 d x en)
def ixK1 (o k : ME) (en : En) (d : D) (S : Sto) : Res Fl := (o en S).bind (ixK2 k en d)
theorem sIx_ap (o k e : ME) (en : En) (S : Sto) : sIx o k e en S = (e en S).bind (ixK1 o k en) := rfl
theorem ixK1_ap (o k : ME) (en : En) (d : D) (S : Sto) : ixK1 o k en d S = (o en S).bind (ixK2 k en d) := rfl
theorem ixK2_ap (k : ME) (en : En) (d x : D) (S : Sto) : ixK2 k en d x S = (k en S).bind (ixK3 d x en) := rfl
def ixO2 (o : Option Nat) (ds : List D) (d : D) (i : Nat) (en : En) (S : Sto) : Res Fl := match o with
  | some j => .ok (.nx en) (S.set i (.lst (ds.set j d)))
  | none => .bad
def ixO (o : Option Ob) (d : D) (i : Nat) (en : En) (n : Int) (S : Sto) : Res Fl := match o with
  | some (.lst ds) => ixO2 (ixN ds.length n) ds d i en S
  | _ => .bad
theorem ixK3_ref (d : D) (i : Nat) (en : En) (n : Int) (S : Sto) : ixK3 d (.ref i) en (.int n) S = ixO S[i]? d i en n S := by
  simp only [ixK3, ixO]
  cases S[i]? with
  | none => rfl
  | some o => cases o <;> rfl
theorem ixO_lst (ds : List D) (d : D) (i : Nat) (en : En) (n : Int) (S : Sto) : ixO (some (.lst ds)) d i en n S = ixO2 (ixN ds.length n) ds d i en S := rfl
theorem ixO2_some (j : Nat) (ds : List D) (d : D) (i : Nat) (en : En) (S : Sto) : ixO2 (some j) ds d i en S = .ok (.nx en) (S.set i (.lst (ds.set j d))) := rfl
theorem ixN_0 (n : Nat) : ixN (n + 1) 0 = some 0 := by unfold ixN; rw [if_pos (by omega), if_pos (by omega)]; rfl
theorem ixN_1 (n : Nat) : ixN (n + 1 + 1) 1 = some 1 := by unfold ixN; rw [if_pos (by omega), if_pos (by omega)]; rfl
theorem ixN_2 (n : Nat) : ixN (n + 1 + 1 + 1) 2 = some 2 := by unfold ixN; rw [if_pos (by omega), if_pos (by omega)]; rfl
def appK2 (i : Nat) (en : En) (d : D) (S : Sto) : Res Fl := match S[i]? with
  | some (.lst ds) => if ds.length < sizeLine then .ok (.nx en) (S.set i (.lst (ds ++ [d]))) else .bad
  | _ => .bad
def appK1 (e : ME) (en : En) (x : D) (S : Sto) : Res Fl := match x with
  | .ref i => match S[i]? with
    | some (.lst _) => (e en S).bind (appK2 i en)
    | _ => .bad
  | _ => .bad
theorem sApp_ap (o e : ME) (en : En) (S : Sto) : sApp o e en S = (o en S).bind (appK1 e en) := rfl
def appO1 (o : Option Ob) (e : ME) (en : En) (i : Nat) (S : Sto) : Res Fl := match o with
  | some (.lst _) => (e en S).bind (appK2 i en)
  | _ => .bad
theorem appK1_ref (e : ME) (en : En) (i : Nat) (S : Sto) : appK1 e en (.ref i) S = appO1 S[i]? e en i S := by
  simp only [appK1, appO1]
theorem appO1_lst (ds : List D) (e : ME) (en : En) (i : Nat) (S : Sto) : appO1 (some (.lst ds)) e en i S = (e en S).bind (appK2 i en) := rfl
def appO2 (o : Option Ob) (en : En) (i : Nat) (d : D) (S : Sto) : Res Fl := match o with
  | some (.lst ds) => if ds.length < sizeLine then .ok (.nx en) (S.set i (.lst (ds ++ [d]))) else .bad
  | _ => .bad
theorem appK2_ap (i : Nat) (en : En) (d : D) (S : Sto) : appK2 i en d S = appO2 S[i]? en i d S := by
  simp only [appK2, appO2]
theorem appO2_lst {ds : List D} {en : En} {i : Nat} {d : D} {S : Sto} (hl : ds.length < 1000000) : appO2 (some (.lst ds)) en i d S = .ok (.nx en) (S.set i (.lst (ds ++ [d]))) := if_pos (Nat.lt_of_lt_of_le hl (by decide))
def extK2 (i : Nat) (en : En) (d : D) (S : Sto) : Res Fl := match S[i]?, d with
  | some (.lst ds), .lst es => if ds.length + es.length ≤ sizeLine then .ok (.nx en) (S.set i (.lst (ds ++ es))) else .bad
  | _, _ => .bad
def extK1 (e : ME) (en : En) (x : D) (S : Sto) : Res Fl := match x with
  | .ref i => match S[i]? with
    | some (.lst _) => (e en S).bind (extK2 i en)
    | _ => .bad
  | _ => .bad
theorem sExt_ap (o e : ME) (en : En) (S : Sto) : sExt o e en S = (o en S).bind (extK1 e en) := rfl
def extO1 (o : Option Ob) (e : ME) (en : En) (i : Nat) (S : Sto) : Res Fl := match o with
  | some (.lst _) => (e en S).bind (extK2 i en)
  | _ => .bad
theorem extK1_ref (e : ME) (en : En) (i : Nat) (S : Sto) : extK1 e en (.ref i) S = extO1 S[i]? e en i S := by
  simp only [extK1, extO1]
theorem extO1_lst (ds : List D) (e : ME) (en : En) (i : Nat) (S : Sto) : extO1 (some (.lst ds)) e en i S = (e en S).bind (extK2 i en) := rfl
def extO2 (o : Option Ob) (en : En) (i : Nat) (es : List D) (S : Sto) : Res Fl := match o with
  | some (.lst ds) => if ds.length + es.length ≤ sizeLine then .ok (.nx en) (S.set i (.lst (ds ++ es))) else .bad
  | _ => .bad
theorem extK2_ap (i : Nat) (en : En) (es : List D) (S : Sto) : extK2 i en (.lst es) S = extO2 S[i]? en i es S := by
  simp only [extK2, extO2]
  cases S[i]? with
  | none => rfl
  | some o => cases o <;> rfl
theorem extO2_lst {ds es : List D} {en : En} {i : Nat} {S : Sto} (hl : ds.length + es.length ≤ 1000000) : extO2 (some (.lst ds)) en i es S = .ok (.nx en) (S.set i (.lst (ds ++ es))) := if_pos (sz_small hl)
/-! f-strings -/
def fsK (ms : List ME) (acc : Str) (en : En) (d : D) (S : Sto) : Res D := match d with
  | .str y => if (acc ++ y).length ≤ sizeLine then fsAll ms (acc ++ y) en S else .bad
  | _ => .bad
theorem mFs_ap (ms : List ME) (en : En) (S : Sto) : mFs ms en S = fsAll ms Str.empty en S := rfl
theorem fsAll_nil (acc : Str) (en : En) (S : Sto) : fsAll [] acc en S = .ok (.str acc) S := rfl
theorem fsAll_cons (m : ME) (ms : List ME) (acc : Str) (en : En) (S : Sto) : fsAll (m :: ms) acc en S = (m en S).bind (fsK ms acc en) := rfl
theorem fsK_str {ms : List ME} {acc : Str} {en : En} {y : Str} {S : Sto} (h : (acc ++ y).length ≤ sizeLine) : fsK ms acc en (.str y) S = fsAll ms (acc ++ y) en S := if_pos h
end G
end
section
set_option Elab.async false
set_option linter.all false
set_option maxRecDepth 100000
set_option maxHeartbeats 2000000
/-! G15: texts as lists of code points; what repr takes; comprehensions step by step -/
namespace G
open PySem L2
def tx (l : List Nat) : Str := ⟨l.toArray⟩
theorem tx_len (l : List Nat) : (tx l).length = l.length := by simp [tx, Str.length]
theorem tx_app (a b : List Nat) : tx a ++ tx b = tx (a ++ b) := by
  show Str.append _ _ = _
  simp [tx, Str.append]
theorem tx_inj {a b : List Nat} : (tx a = tx b) = (a = b) := by simp [tx]
theorem tx_emp : Str.empty = tx [] := rfl
theorem tx_cps (l : List Nat) : (tx l).cps.toList = l := by simp [tx]
theorem tx_of (x : Str) : x = tx x.cps.toList := by cases x; simp [tx]
theorem tx_one (c : Nat) : (⟨#[c]⟩ : Str) = tx [c] := rfl
/-- the words between a sign -/
def spl (c : Nat) : List Nat → List (List Nat)
  | [] => [[]]
  | x :: l => if x = c then [] :: spl c l else match spl c l with
    | [] => [[x]]
    | w :: r => (x :: w) :: r
def glu (c : Nat) : List (List Nat) → List Nat
  | [] => []
  | [w] => w
  | w :: r => w ++ c :: glu c r
theorem glu_cons (c : Nat) (w v : List Nat) (r : List (List Nat)) : glu c (w :: v :: r) = w ++ c :: glu c (v :: r) := rfl
theorem spl_ne (c : Nat) (l : List Nat) : spl c l ≠ [] := by
  cases l with
  | nil => simp [spl]
  | cons x l =>
    rw [spl]
    split
    · simp
    · split <;> simp
def hdc (x : Nat) : List (List Nat) → List (List Nat)
  | [] => [[x]]
  | w :: r => (x :: w) :: r
theorem hdc_cons (x : Nat) (w : List Nat) (r : List (List Nat)) : hdc x (w :: r) = (x :: w) :: r := rfl
theorem spl_nil (c : Nat) : spl c [] = [[]] := rfl
theorem spl_cons (c x : Nat) (l : List Nat) : spl c (x :: l) = if x = c then [] :: spl c l else hdc x (spl c l) := by
  rw [spl]
  congr 1
theorem spl_free (c : Nat) (w : List Nat) (h : c ∉ w) : spl c w = [w] := by
  induction w with
  | nil => rfl
  | cons x w ih =>
    rw [spl, if_neg (by intro e; exact h (by simp [e])), ih (by intro e; exact h (by simp [e]))]
theorem spl_app (c : Nat) (w l : List Nat) (h : c ∉ w) : spl c (w ++ c :: l) = w :: spl c l := by
  induction w with
  | nil => simp [spl]
  | cons x w ih =>
    rw [List.cons_append, spl, if_neg (by intro e; exact h (by simp [e])), ih (by intro e; exact h (by simp [e]))]
theorem spl_glu (c : Nat) : ∀ (ws : List (List Nat)), ws ≠ [] → (∀ w ∈ ws, c ∉ w) → spl c (glu c ws) = ws
  | [], h, _ => absurd rfl h
  | [w], _, h => spl_free c w (h w (by simp))
  | w :: v :: r, _, h => by
    rw [glu_cons, spl_app c w _ (h w (by simp)), spl_glu c (v :: r) (by simp) fun u hu => h u (by simp [hu])]
theorem join_tx (z : List Nat) : ∀ ws : List (List Nat), Str.join (tx z) (ws.map tx) = tx ((ws.intersperse z).flatten)
  | [] => rfl
  | [w] => by simp [Str.join]
  | w :: v :: r => by
    show tx w ++ tx z ++ Str.join (tx z) ((v :: r).map tx) = _
    rw [join_tx z (v :: r), tx_app, tx_app]
    simp [List.intersperse]
theorem glu_flat (c : Nat) : ∀ ws : List (List Nat), (ws.intersperse [c]).flatten = glu c ws
  | [] => rfl
  | [w] => by simp [glu]
  | w :: v :: r => by
    rw [glu_cons, ← glu_flat c (v :: r)]
    simp [List.intersperse]
theorem split_tx (l : List Nat) (c : Nat) : Txt.split (tx l) (tx [c]) = (spl c l).map tx := by
  have h1 := StrLaws.join_split (tx l) (tx [c])
  have h2 : ∀ p ∈ Txt.split (tx l) (tx [c]), c ∉ p.cps.toList := StrLaws.split_free (tx l) c
  have hp : 1 ≤ (Txt.split (tx l) (tx [c])).length := PyProof.Rows.split_pos _ _
  generalize Txt.split (tx l) (tx [c]) = ps at h1 h2 hp
  have e : ps = (ps.map fun p => p.cps.toList).map tx := by
    rw [List.map_map]
    conv => lhs; rw [← List.map_id ps]
    exact List.map_congr_left fun p _ => tx_of p
  rw [e, join_tx, glu_flat, tx_inj] at h1
  rw [e, ← h1, spl_glu]
  · intro h
    simp at h
    subst h
    simp at hp
  · intro w hw
    obtain ⟨p, hp1, rfl⟩ := List.mem_map.mp hw
    exact h2 p hp1
theorem replace_tx (l : List Nat) (c : Nat) (z : List Nat) : Txt.replace (tx l) (tx [c]) (tx z) = tx (((spl c l).intersperse z).flatten) := by
  rw [← join_tx, ← split_tx]
  exact StrLaws.replace_one (tx l) (tx z) c
/-! numbers below ten -/
theorem tos10 {i : Int} (h0 : 0 ≤ i) (h : i < 10) : Str.ofString (toString i) = tx [48 + i.toNat] := by
  obtain ⟨n, rfl⟩ := Int.eq_ofNat_of_zero_le h0
  match n, h with
  | 0, _ => decide +kernel
  | 1, _ => decide +kernel
  | 2, _ => decide +kernel
  | 3, _ => decide +kernel
  | 4, _ => decide +kernel
  | 5, _ => decide +kernel
  | 6, _ => decide +kernel
  | 7, _ => decide +kernel
  | 8, _ => decide +kernel
  | 9, _ => decide +kernel
  | n + 10, h => exact absurd h (by simp; omega)
theorem log10 {i : Int} (h0 : 0 ≤ i) (h : i < 10) : i.natAbs.log2 < 1920 := by
  have h1 : i.natAbs < 2 ^ 1920 := Nat.lt_of_lt_of_le (by omega : i.natAbs < 10) (Nat.le_trans (by decide : 10 ≤ 2 ^ 4) (Nat.pow_le_pow_right (by decide) (by decide)))
  by_cases h2 : i.natAbs = 0
  · rw [h2]; decide
  · exact (Nat.log2_lt h2).mpr h1
theorem dStr10 {S : Sto} {i : Int} (h0 : 0 ≤ i) (h : i < 10) : dStr S [.int i] = some (.str (tx [48 + i.toNat])) := by
  rw [dStr_int (log10 h0 h), tos10 h0 h]
theorem dFmt10 {S : Sto} {i : Int} (h0 : 0 ≤ i) (h : i < 10) : dFmt S (.int i) = some (.str (tx [48 + i.toNat])) := by
  rw [dFmt_int (log10 h0 h), tos10 h0 h]
theorem intText10 {n : Nat} (h : n < 10) : PySem.intText? (tx [48 + n]) = some (n : Int) := by
  match n, h with
  | 0, _ => decide +kernel
  | 1, _ => decide +kernel
  | 2, _ => decide +kernel
  | 3, _ => decide +kernel
  | 4, _ => decide +kernel
  | 5, _ => decide +kernel
  | 6, _ => decide +kernel
  | 7, _ => decide +kernel
  | 8, _ => decide +kernel
  | 9, _ => decide +kernel
  | n + 10, h => exact absurd h (by omega)
theorem dInt10 {S : Sto} {i : Int} (h0 : 0 ≤ i) (h : i < 10) : dInt S [.str (tx [48 + i.toNat])] = some (.int i) := by
  show (if (tx [48 + i.toNat]).length ≤ 640 then (PySem.intText? (tx [48 + i.toNat])).map D.int else none) = _
  rw [if_pos (by simp [tx_len]), intText10 (by omega), Option.map_some]
  congr 2
  omega
/-! texts' values -/
theorem dAdd_tx {S : Sto} {x y : List Nat} (h : x.length + y.length ≤ 1000000) : dAdd S (.str (tx x)) (.str (tx y)) = some (.str (tx (x ++ y))) := by
  rw [dAdd_str, tx_len, tx_len, if_pos (Nat.le_trans h (by decide)), tx_app]
theorem dSplit_tx {S : Sto} {x : List Nat} {c : Nat} (h : x.length ≤ 1000000) : dSplit S (.str (tx x)) [.str (tx [c])] = some (.lst ((spl c x).map fun w => .str (tx w))) := by
  rw [dSplit_str ⟨rfl, by rw [tx_len]; exact Nat.le_trans (Nat.add_le_add_right h 2) (by decide)⟩, split_tx, List.map_map]
  rfl
theorem dFmt_tx {S : Sto} {x : List Nat} (h : x.length ≤ 1000000) : dFmt S (.str (tx x)) = some (.str (tx x)) := dFmt_str (by rw [tx_len]; exact Nat.le_trans h (by decide))
theorem dLen_tx {S : Sto} {x : List Nat} (h : x.length ≤ 1000000) : dLen S [.str (tx x)] = some (.int x.length) := by
  rw [dLen_str (by rw [tx_len]; exact Nat.le_trans h (by decide)), tx_len]
theorem fsK_tx {ms : List ME} {acc y : List Nat} {en : En} {S : Sto} (h : acc.length + y.length ≤ 1000000) : fsK ms (tx acc) en (.str (tx y)) S = fsAll ms (tx (acc ++ y)) en S := by
  rw [fsK_str (by rw [tx_app, tx_len, List.length_append]; exact Nat.le_trans h (by decide)), tx_app]
theorem dIn_tx1 {S : Sto} {c : Nat} {z : List Nat} : dIn S (.str (tx [c])) (.str (tx z)) = some (.bl (decide (c ∈ z))) := by
  show (dInB S (.str (tx [c])) (.str (tx z))).map D.bl = _
  have : dInB S (.str (tx [c])) (.str (tx z)) = (sign1 (tx [c])).map fun c => decide (c ∈ (tx z).cps.toList) := rfl
  rw [this, tx_cps]
  rfl
theorem dRepl_tx {S : Sto} {x z : List Nat} {c : Nat} (h : x.length + (x.length + 1) * z.length ≤ 16777216) : dRepl (tx [c]) (tx z) S (.str (tx x)) = some (.str (tx (((spl c x).intersperse z).flatten))) := by
  show (if (tx x).length + ((tx x).length + 1) * (tx z).length ≤ 16777216 then some (D.str (Txt.replace (tx x) (tx [c]) (tx z))) else none) = _
  rw [tx_len, tx_len, if_pos h, replace_tx]
theorem dEq_tx (S : Sto) (a b : List Nat) : dEq S (.str (tx a)) (.str (tx b)) = some (.bl (decide (a = b))) := by
  rw [dEq_str]
  simp only [tx_inj]
theorem dNe_tx (S : Sto) (a b : List Nat) : dNe S (.str (tx a)) (.str (tx b)) = some (.bl (!decide (a = b))) := by
  rw [dNe_str]
  simp only [tx_inj]
/-- the sign of a digit -/
def dg (i : Int) : Nat := 48 + i.toNat
theorem dg_fold (i : Int) : 48 + i.toNat = dg i := rfl
theorem dg46 (i : Int) : (dg i = 46) = False := eq_false (by unfold dg; omega)
theorem dg32 (i : Int) : (dg i = 32) = False := eq_false (by unfold dg; omega)
theorem dg_in {i : Int} (h0 : 0 ≤ i) (h : i < 10) : (dg i ∈ [48, 49, 50, 51, 52, 53, 54, 55, 56, 57]) = True := eq_true (by
  simp only [List.mem_cons, List.not_mem_nil, or_false, dg]
  omega)
theorem dInt_dg {S : Sto} {i : Int} (h0 : 0 ≤ i) (h : i < 10) : dInt S [.str (tx [dg i])] = some (.int i) := dInt10 h0 h
theorem dg_lt {i : Int} (h0 : 0 ≤ i) (h : i < 10) : dg i < 1114112 := by unfold dg; omega
theorem nc0 : ((0 : Nat) : Int) = 0 := Int.le_antisymm (Int.le_refl _) (Int.le_refl _)
theorem nc1 : ((1 : Nat) : Int) = 1 := Int.le_antisymm (Int.le_refl _) (Int.le_refl _)
theorem nc2 : ((2 : Nat) : Int) = 2 := Int.le_antisymm (Int.le_refl _) (Int.le_refl _)
theorem nc3 : ((3 : Nat) : Int) = 3 := Int.le_antisymm (Int.le_refl _) (Int.le_refl _)
theorem nc4 : ((4 : Nat) : Int) = 4 := Int.le_antisymm (Int.le_refl _) (Int.le_refl _)
theorem nc5 : ((5 : Nat) : Int) = 5 := Int.le_antisymm (Int.le_refl _) (Int.le_refl _)
theorem nc6 : ((6 : Nat) : Int) = 6 := Int.le_antisymm (Int.le_refl _) (Int.le_refl _)
theorem nc7 : ((7 : Nat) : Int) = 7 := Int.le_antisymm (Int.le_refl _) (Int.le_refl _)
theorem nc8 : ((8 : Nat) : Int) = 8 := Int.le_antisymm (Int.le_refl _) (Int.le_refl _)
theorem nc9 : ((9 : Nat) : Int) = 9 := Int.le_antisymm (Int.le_refl _) (Int.le_refl _)
/-! below -/
theorem bel_non (n : Nat) : D.bel n .non = True := by simp only [D.bel]
theorem bel_bl (n : Nat) (b : Bool) : D.bel n (.bl b) = True := by simp only [D.bel]
theorem bel_int (n : Nat) (i : Int) : D.bel n (.int i) = True := by simp only [D.bel]
theorem bel_str (n : Nat) (x : Str) : D.bel n (.str x) = True := by simp only [D.bel]
theorem bel_tup (n : Nat) (ds : List D) : D.bel n (.tup ds) = D.bels n ds := by simp only [D.bel]
theorem bel_lst (n : Nat) (ds : List D) : D.bel n (.lst ds) = D.bels n ds := by simp only [D.bel]
theorem bel_scr (n : Nat) (ds : List D) : D.bel n (.scr ds) = D.bels n ds := by simp only [D.bel]
theorem bel_ref (n i : Nat) : D.bel n (.ref i) = (i < n) := by simp only [D.bel]
theorem bels_nil (n : Nat) : D.bels n [] = True := by simp only [D.bels]
theorem bels_cons (n : Nat) (d : D) (r : List D) : D.bels n (d :: r) = (D.bel n d ∧ D.bels n r) := by simp only [D.bels]
/-! repr -/
theorem reprOk_of {p : PyData} (h1 : p.canLay0 = true) (h2 : p.depth ≤ 64) (h3 : p.weight ≤ 1000000) (h4 : p.intsShort 13 = true) (h5 : p.showable = true) : reprOk p := by
  refine ⟨?_, h5, ?_⟩
  · simp [SeqAt.shaped, h1, h2]
  · have := PyData.shown_le 13 (by decide) p (PyData.leavesShort_of_canLay0 13 p h1 h4)
    exact Nat.le_trans this (Nat.le_trans (show (13 + 2) * p.weight + 13 ≤ 15 * 1000000 + 13 by omega) (by decide))
mutual
def smD : D → Bool
  | .non => true
  | .bl _ => true
  | .int i => decide (-999999999999 ≤ i) && decide (i ≤ 999999999999)
  | .str x => PyData.strOk x
  | .tup ds => smDs ds
  | .ktp ds => smDs ds
  | .lst ds => smDs ds
  | .scr ds => smDs ds
  | _ => false
def smDs : List D → Bool
  | [] => true
  | d :: r => smD d && smDs r
end
mutual
def wD : D → Nat
  | .int _ => 64
  | .str x => x.length
  | .tup ds => wDs ds
  | .ktp ds => wDs ds
  | .lst ds => wDs ds
  | .scr ds => wDs ds
  | _ => 0
def wDs : List D → Nat
  | [] => 0
  | d :: r => wD d + 1 + wDs r
end
mutual
def dpD : D → Nat
  | .tup ds => dpDs ds + 1
  | .ktp ds => dpDs ds + 1
  | .lst ds => dpDs ds + 1
  | .scr ds => dpDs ds + 1
  | _ => 0
def dpDs : List D → Nat
  | [] => 0
  | d :: r => max (dpD d) (dpDs r)
end
def Smp (d : D) (p : PyData) : Prop := pd d = some p ∧ p.canLay0 = true ∧ p.depth ≤ dpD d ∧ p.weight ≤ wD d ∧ p.intsShort 13 = true ∧ p.showable = true
def Smps (ds : List D) (ps : List PyData) : Prop := pds ds = some ps ∧ PyData.canLayAll0 ps = true ∧ PyData.depthAll ps ≤ dpDs ds ∧ PyData.weightAll ps ≤ wDs ds ∧ PyData.intsShortAll 13 ps = true ∧ PyData.showableAll ps = true
theorem int_log {i : Int} (h1 : -999999999999 ≤ i) (h2 : i ≤ 999999999999) : i.natAbs.log2 < 63 := by
  by_cases h : i.natAbs = 0
  · rw [h]; decide
  · exact (Nat.log2_lt h).mpr (Nat.lt_of_lt_of_le (by omega : i.natAbs < 1000000000000) (by decide))
mutual
theorem smp_of : ∀ d : D, smD d = true → ∃ p, Smp d p
  | .non, _ => ⟨.none, by simp [Smp, pd, PyData.canLay0, PyData.depth, PyData.weight, PyData.intsShort, PyData.showable]⟩
  | .bl b, _ => ⟨.bool b, by simp [Smp, pd, PyData.canLay0, PyData.depth, PyData.weight, PyData.intsShort, PyData.showable]⟩
  | .int i, h => ⟨.int i, by
    simp only [smD, Bool.and_eq_true, decide_eq_true_eq] at h
    have h1 := PySem.PyData.shown_int_le2 h.1 h.2
    have h2 := int_log h.1 h.2
    refine ⟨by simp only [pd], by simp only [PyData.canLay0], by simp only [PyData.depth]; exact Nat.zero_le _, ?_, by simp only [PyData.intsShort]; exact decide_eq_true h1, by simp only [PyData.showable]; exact decide_eq_true (by omega)⟩
    simp only [PyData.weight, wD]
    split <;> omega⟩
  | .str x, h => ⟨.str x, by
    simp only [smD] at h
    exact ⟨by simp only [pd], by simp only [PyData.canLay0]; exact h, by simp only [PyData.depth]; exact Nat.zero_le _, by simp only [PyData.weight, wD]; exact Nat.le_refl _, by simp only [PyData.intsShort], by simp only [PyData.showable]⟩⟩
  | .tup ds, h => by
    simp only [smD] at h
    obtain ⟨ps, a, b, c, d, e, f⟩ := smps_of ds h
    exact ⟨.tuple ps, by simp only [pd, a, Option.map_some], by simp only [PyData.canLay0]; exact b, by simp only [PyData.depth, dpD]; omega, by simp only [PyData.weight, wD]; exact d, by simp only [PyData.intsShort]; exact e, by simp only [PyData.showable]; exact f⟩
  | .ktp ds, h => by
    simp only [smD] at h
    obtain ⟨ps, a, b, c, d, e, f⟩ := smps_of ds h
    exact ⟨.tuple ps, by simp only [pd, a, Option.map_some], by simp only [PyData.canLay0]; exact b, by simp only [PyData.depth, dpD]; omega, by simp only [PyData.weight, wD]; exact d, by simp only [PyData.intsShort]; exact e, by simp only [PyData.showable]; exact f⟩
  | .lst ds, h => by
    simp only [smD] at h
    obtain ⟨ps, a, b, c, d, e, f⟩ := smps_of ds h
    exact ⟨.list ps, by simp only [pd, a, Option.map_some], by simp only [PyData.canLay0]; exact b, by simp only [PyData.depth, dpD]; omega, by simp only [PyData.weight, wD]; exact d, by simp only [PyData.intsShort]; exact e, by simp only [PyData.showable]; exact f⟩
  | .scr ds, h => by
    simp only [smD] at h
    obtain ⟨ps, a, b, c, d, e, f⟩ := smps_of ds h
    exact ⟨.list ps, by simp only [pd, a, Option.map_some], by simp only [PyData.canLay0]; exact b, by simp only [PyData.depth, dpD]; omega, by simp only [PyData.weight, wD]; exact d, by simp only [PyData.intsShort]; exact e, by simp only [PyData.showable]; exact f⟩
  | .dic _ _, h => by simp [smD] at h
  | .ins _ _ _, h => by simp [smD] at h
  | .ref _, h => by simp [smD] at h
  | .fn _, h => by simp [smD] at h
  | .ty _, h => by simp [smD] at h
  | .cl _, h => by simp [smD] at h
theorem smps_of : ∀ ds : List D, smDs ds = true → ∃ ps, Smps ds ps
  | [], _ => ⟨[], by simp [Smps, pds, PyData.canLayAll0, PyData.depthAll, PyData.weightAll, PyData.intsShortAll, PyData.showableAll]⟩
  | d :: r, h => by
    simp only [smDs, Bool.and_eq_true] at h
    obtain ⟨p, a, b, c, d', e, f⟩ := smp_of d h.1
    obtain ⟨ps, a2, b2, c2, d2, e2, f2⟩ := smps_of r h.2
    exact ⟨p :: ps, by simp only [pds, a, a2], by simp only [PyData.canLayAll0, b, b2]; rfl, by simp only [PyData.depthAll, dpDs]; omega, by simp only [PyData.weightAll, wDs]; omega, by simp only [PyData.intsShortAll, e, e2]; rfl, by simp only [PyData.showableAll, f, f2]; rfl⟩
end
theorem pdv_sm {S : Sto} : ∀ {d : D}, smD d = true → pdv S d = pd d
  | .non, _ => by simp [pdv, seqL]
  | .bl b, _ => by simp [pdv, seqL]
  | .int i, _ => by simp [pdv, seqL]
  | .str i, _ => by simp [pdv, seqL]
  | .tup i, _ => by simp [pdv, seqL]
  | .ktp i, _ => by simp [pdv, seqL]
  | .lst i, _ => by simp [pdv, seqL, pd]
  | .scr i, _ => by simp [pdv, seqL, pd]
  | .dic _ _, h => by simp [smD] at h
  | .ins _ _ _, h => by simp [smD] at h
  | .ref _, h => by simp [smD] at h
  | .fn _, h => by simp [smD] at h
  | .ty _, h => by simp [smD] at h
  | .cl _, h => by simp [smD] at h
def plainK : D → Bool := fun _ => true
theorem repr_sm {d : D} (h : smD d = true) (hd : dpD d ≤ 64) (hw : wD d ≤ 1000000) (hp : plainK d = true) : ∃ z, ∀ S, dRepr S [d] = some (.str z) := by
  obtain ⟨p, a, b, c, e, f, g⟩ := smp_of d h
  refine ⟨p.shown, fun S => ?_⟩
  have hr : reprOk p := reprOk_of b (by omega) (by omega) f g
  have hv : pdv S d = some p := (pdv_sm h).trans a
  unfold dRepr
  simp only [hv]
  exact if_pos hr
/-! comprehensions, step by step -/
noncomputable def cK2 (g : MG) (t : MT) (e : ME) (en : En) (ds acc : List D) (x : D) (S : Sto) : Res (List D) := if acc.length < sizeLine then comp g t e (fun _ => True) en ds (acc ++ [x]) S else .bad
noncomputable def cK1 (g : MG) (t : MT) (e : ME) (en en1 : En) (ds acc : List D) (k : Bool) (S : Sto) : Res (List D) := match k with
  | false => comp g t e (fun _ => True) en ds acc S
  | true => (e en1 S).noex.bind (cK2 g t e en ds acc)
noncomputable def cK0 (g : MG) (t : MT) (e : ME) (en : En) (ds acc : List D) (o : Option En) (S : Sto) : Res (List D) := match o with
  | none => .bad
  | some en1 => (t en1 S).noex.bind (cK1 g t e en en1 ds acc)
theorem comp_nil_ap (g : MG) (t : MT) (e : ME) (en : En) (acc : List D) (S : Sto) : comp g t e (fun _ => True) en [] acc S = .ok acc S := by rw [comp, if_pos trivial]
theorem comp_cons_ap (g : MG) (t : MT) (e : ME) (en : En) (d : D) (ds acc : List D) (S : Sto) : comp g t e (fun _ => True) en (d :: ds) acc S = cK0 g t e en ds acc (g d en) S := by
  rw [comp, if_pos trivial]
  rfl
theorem cK0_some (g : MG) (t : MT) (e : ME) (en en1 : En) (ds acc : List D) (S : Sto) : cK0 g t e en ds acc (some en1) S = (t en1 S).noex.bind (cK1 g t e en en1 ds acc) := rfl
theorem cK1_f (g : MG) (t : MT) (e : ME) (en en1 : En) (ds acc : List D) (S : Sto) : cK1 g t e en en1 ds acc false S = comp g t e (fun _ => True) en ds acc S := rfl
theorem cK1_t (g : MG) (t : MT) (e : ME) (en en1 : En) (ds acc : List D) (S : Sto) : cK1 g t e en en1 ds acc true S = (e en1 S).noex.bind (cK2 g t e en ds acc) := rfl
theorem cK2_ap {g : MG} {t : MT} {e : ME} {en : En} {ds acc : List D} {x : D} {S : Sto} (h : acc.length < 1000000) : cK2 g t e en ds acc x S = comp g t e (fun _ => True) en ds (acc ++ [x]) S := if_pos (Nat.lt_of_lt_of_le h (by decide))
theorem noex_ok {α : Type} (a : α) (S : Sto) : (Res.ok a S).noex = .ok a S := rfl
end G
end
section
set_option Elab.async false
set_option linter.all false
set_option maxRecDepth 100000
set_option maxHeartbeats 2000000
/-! G16: pairs of numbers (roles) under ==, min, max -/
namespace G
open PySem L2
abbrev t2 (a b : Int) : D := .tup [.int a, .int b]
theorem sh_t2 (a b : Int) : SeqAt.shaped (.tuple [.int a, .int b]) = true := by simp [SeqAt.shaped, PyData.canLay0, PyData.canLayAll0, PyData.depth, PyData.depthAll]
theorem pdv_t2 (S : Sto) (a b : Int) : pdv S (.tup [.int a, .int b]) = some (.tuple [.int a, .int b]) := by simp [pdv_tup, pds, pd]
theorem eqv_t2 (a b c d : Int) : PyData.eqv (.tuple [.int a, .int b]) (.tuple [.int c, .int d]) = decide (a = c ∧ b = d) := by
  simp only [PyData.eqv, PyData.eqvAll, Bool.and_true]
  by_cases h1 : a = c <;> by_cases h2 : b = d <;> simp [h1, h2]
theorem dEq_t2 (S : Sto) (a b c d : Int) : dEq S (.tup [.int a, .int b]) (.tup [.int c, .int d]) = some (.bl (decide (a = c ∧ b = d))) := by
  show (match pdv S (.tup [.int a, .int b]), pdv S (.tup [.int c, .int d]) with
    | some p, some q => if SeqAt.shaped p = true ∧ SeqAt.shaped q = true then some (PyData.eqv p q) else none
    | _, _ => none).map D.bl = _
  rw [pdv_t2, pdv_t2]
  simp only [sh_t2, and_self, if_true, eqv_t2, Option.map_some]
theorem dNe_t2 (S : Sto) (a b c d : Int) : dNe S (.tup [.int a, .int b]) (.tup [.int c, .int d]) = some (.bl (!decide (a = c ∧ b = d))) := by
  show (match pdv S (.tup [.int a, .int b]), pdv S (.tup [.int c, .int d]) with
    | some p, some q => if SeqAt.shaped p = true ∧ SeqAt.shaped q = true then some (PyData.eqv p q) else none
    | _, _ => none).map (fun b => D.bl (!b)) = _
  rw [pdv_t2, pdv_t2]
  simp only [sh_t2, and_self, if_true, eqv_t2, Option.map_some]
theorem alike_t2 (a b c d : Int) : PySem.W.AlikeAll [.tuple [.int a, .int b], .tuple [.int c, .int d]] := by
  simp [PySem.W.AlikeAll, PySem.W.alike, PySem.W.alikeAll]
/-- a pair before another -/
def ltP (a b c d : Int) : Bool := PySem.W.dataLt (.tuple [.int a, .int b]) (.tuple [.int c, .int d])
theorem dMin2_t2 (S : Sto) (a b c d : Int) : dMin2 S [.tup [.int a, .int b], .tup [.int c, .int d]] = some (.tup [.int (if ltP c d a b = true then c else a), .int (if ltP c d a b = true then d else b)]) := by
  unfold dMin2
  simp only [pdv_t2, sh_t2, alike_t2, and_self, if_true, true_and]
  unfold ltP
  split <;> simp
theorem dMax2_t2 (S : Sto) (a b c d : Int) : dMax2 S [.tup [.int a, .int b], .tup [.int c, .int d]] = some (.tup [.int (if ltP a b c d = true then c else a), .int (if ltP a b c d = true then d else b)]) := by
  unfold dMax2
  simp only [pdv_t2, sh_t2, alike_t2, and_self, if_true, true_and]
  unfold ltP
  split <;> simp
theorem ltP_eq (a b c d : Int) : ltP a b c d = decide (a < c ∨ (a = c ∧ b < d)) := by
  have e1 : ∀ x y : Int, PyProof.Rows.itemLt (.inl x) (.inl y) = decide (x < y) := fun _ _ => rfl
  unfold ltP PySem.W.dataLt
  simp only [PySem.W.keyToks, PySem.W.keyToksAll, List.cons_append, List.nil_append, PyProof.Rows.lex_cons, e1]
  simp [PyProof.Rows.lexLt, e1]
  by_cases h1 : a < c
  · simp [h1]
  · by_cases h2 : a = c
    · subst h2
      by_cases h3 : b < d <;> simp [h3]
    · have h4 : c < a := by omega
      simp [h1, h2, h4]
end G
end
section
set_option Elab.async false
set_option linter.all false
set_option maxRecDepth 100000
set_option maxHeartbeats 2000000
/-! S0: tables of sets with up to 512 slots -/
namespace G
open PySem L2 PyProof.Rows
/-- the masks of sets below 307 items -/
def MkG (m : Nat) : Prop := m = 7 ∨ m = 31 ∨ m = 127 ∨ m = 511
theorem MkG.cases {m : Nat} (h : MkG m) : MaskOk m ∨ m = 511 := by
  rcases h with e | e | e | e
  · exact .inl (.inl e)
  · exact .inl (.inr (.inl e))
  · exact .inl (.inr (.inr e))
  · exact .inr e
theorem MkG.odd {m : Nat} (h : MkG m) : m % 2 = 1 := by rcases h with e | e | e | e <;> omega
def bmp : List Nat → Nat
  | [] => 0
  | x :: l => bmp l ||| 2 ^ x
theorem bmp_mem : ∀ (l : List Nat) (j : Nat), (bmp l).testBit j = true → j ∈ l
  | [], j, h => by simp [bmp] at h
  | x :: l, j, h => by
    rw [bmp, Nat.testBit_or, Bool.or_eq_true] at h
    rcases h with h | h
    · exact List.mem_cons_of_mem _ (bmp_mem l j h)
    · rw [Nat.testBit_two_pow] at h
      have e : x = j := by simpa using h
      rw [e]
      exact List.mem_cons_self
theorem all511 : bmp ((List.range 512).map (lcgN 511)) = 2 ^ 512 - 1 := by decide +kernel
theorem rnd511 : lcgN 511 512 = 0 := by decide +kernel
theorem again511 : ∀ k, lcgN 511 (512 + k) = lcgN 511 k
  | 0 => rnd511
  | k + 1 => congrArg (fun z => (z * 5 + 1) % 512) (again511 k)
theorem from511 {j : Nat} (h : j ≤ 511) : ∃ b, b ≤ 511 ∧ lcgN 511 b = j := by
  have t : (bmp ((List.range 512).map (lcgN 511))).testBit j = true := by
    rw [all511, Nat.testBit_two_pow_sub_one]
    exact decide_eq_true (by omega)
  obtain ⟨b, hb, e⟩ := List.mem_map.mp (bmp_mem _ _ t)
  exact ⟨b, Nat.le_of_lt_succ (List.mem_range.mp hb), e⟩
theorem MkG.all {m : Nat} (h : MkG m) {i j : Nat} (hi : i ≤ m) (hj : j ≤ m) : ∃ k, k ≤ m ∧ lcgI m i k = j := by
  rcases h.cases with o | rfl
  · exact lcgI_all o hi hj
  obtain ⟨x, hx, rfl⟩ := from511 hi
  obtain ⟨y, hy, rfl⟩ := from511 hj
  by_cases c : x ≤ y
  · exact ⟨y - x, by omega, by rw [lcgN_add]; congr 1; omega⟩
  · exact ⟨512 + y - x, by omega, by rw [lcgN_add, show x + (512 + y - x) = 512 + y by omega, again511]⟩
/-- each slot begins a run -/
theorem MkG.run {m : Nat} (hm : MkG m) (h : Int) {j : Nat} (hj : j ≤ m) : ∃ n, n ≤ m + 12 ∧ runI m (SetTable.bits h) n = j := by
  obtain ⟨k, a, b⟩ := hm.all (runI_le m (SetTable.bits h) 12) hj
  exact ⟨12 + k, by omega, (runI_tail (bits_lt h) k).trans b⟩
theorem MkG.met {m : Nat} (hm : MkG m) (h : Int) {j : Nat} (hj : j ≤ m) : ∃ k, k < 10 * SetTable.turns m ∧ way m h k = j := by
  obtain ⟨n, a, b⟩ := hm.run h hj
  obtain ⟨k, c, d⟩ := run_nth m (SetTable.bits h) n
  exact ⟨k, by unfold SetTable.turns; omega, (congrArg SetTable.Probe.j d).trans b⟩
theorem way_in (m : Nat) (h : Int) (k : Nat) : way m h k ≤ m := by
  have lo : SetTable.bits h % (m + 1) ≤ m := by
    exact Nat.le_of_lt_succ (Nat.mod_lt (SetTable.bits h) (Nat.succ_pos m))
  obtain ⟨r1, r2, _⟩ := runEnd_bd lo
  have st : (runAt m (SetTable.bits h % (m + 1)) (SetTable.bits h)).j + (runAt m (SetTable.bits h % (m + 1)) (SetTable.bits h)).more ≤ m := by
    unfold runAt
    dsimp only
    omega
  exact Nat.le_trans (Nat.le_add_right _ _) (nth_in k _ st)
/-- a table in which each hash's slot is found -/
structure TabG (t : SetTable) (hs : List Int) : Prop where
  ris : Ris t.place.toList
  dm : t.dummies = #[]
  sz : t.place.size = hs.length
  mok : MkG t.mask
  bd : ∀ x ∈ t.place.toList, x ≤ t.mask
  reach : ∀ (i : Nat) h j, hs[i]? = some h → t.place.toList[i]? = some j → ∃ k, (∀ c, c < k → way t.mask h c ∈ t.place.toList) ∧ way t.mask h k = j
section
variable {t : SetTable} {hs : List Int}
theorem TabG.first (T : TabG t hs) (few : hs.length ≤ t.mask) (h : Int) :
    ∃ K, K < 10 * SetTable.turns t.mask ∧ way t.mask h K ∉ t.place.toList ∧ ∀ k, k < K → way t.mask h k ∈ t.place.toList := by
  have sh : t.place.toList.length < t.mask + 1 := by
    have := T.sz
    rw [Array.length_toList]
    omega
  obtain ⟨j, j1, j2⟩ := st_missing _ _ sh
  obtain ⟨k, k1, k2⟩ := T.mok.met h (j := j) (by omega)
  have k3 : ¬ way t.mask h k ∈ t.place.toList := by rw [k2]; exact j2
  obtain ⟨K, a, b, c⟩ := st_least (p := fun k => ¬ way t.mask h k ∈ t.place.toList) k k3
  exact ⟨K, by omega, b, fun q hq => Classical.byContradiction fun z => c q hq z⟩
theorem TabG.before (T : TabG t hs) {h : Int} {K i j : Nat} (free : way t.mask h K ∉ t.place.toList) (hi : hs[i]? = some h) (hj : t.place.toList[i]? = some j) : ∃ k, k < K ∧ way t.mask h k = j := by
  obtain ⟨k, a, b⟩ := T.reach i h j hi hj
  refine ⟨k, Classical.byContradiction fun z => ?_, b⟩
  by_cases e : K = k
  · subst e
    rw [b] at free
    exact free (List.mem_of_getElem? hj)
  · exact free (a K (by omega))
theorem TabG.put (T : TabG t hs) {h : Int} {K : Nat} (free : way t.mask h K ∉ t.place.toList) (taken : ∀ k, k < K → way t.mask h k ∈ t.place.toList) :
    (t.put (way t.mask h K)).2 = SetTable.below t.place (way t.mask h K) ∧
    SetTable.below t.place (way t.mask h K) ≤ hs.length ∧
    TabG (t.put (way t.mask h K)).1 (hs.take (SetTable.below t.place (way t.mask h K)) ++ h :: hs.drop (SetTable.below t.place (way t.mask h K))) ∧
    (t.put (way t.mask h K)).1.mask = t.mask ∧
    (t.put (way t.mask h K)).1.led = t.led ∧ (t.put (way t.mask h K)).1.plain = t.plain ∧
    (t.put (way t.mask h K)).1.moves = t.moves ∧ (t.put (way t.mask h K)).1.finger = t.finger ∧
    (t.put (way t.mask h K)).1.fill = hs.length + 1 := by
  have hin := way_in t.mask h K
  generalize hw : way t.mask h K = j at free hin ⊢
  have cut := (below_cut T.ris j).1
  have L1 : t.place.toList.length = hs.length := by rw [Array.length_toList, T.sz]
  have b1 : SetTable.below t.place j ≤ hs.length := by rw [← T.sz]; exact cut
  have b2 : SetTable.below t.place j ≤ t.place.toList.length := by rw [L1]; exact b1
  have P := put_place t j
  have no : t.place[SetTable.below t.place j]? ≠ some j := fun e => by
    rw [← Array.getElem?_toList] at e
    exact free (List.mem_of_getElem? e)
  have sz : (t.put j).1.place.size = hs.length + 1 := by rw [← Array.length_toList, P, len_ins _ b2, L1]
  have stay : ∀ x, x ∈ t.place.toList → x ∈ (t.put j).1.place.toList := fun x hx => by rw [P]; exact mem_ins.2 (.inr hx)
  have old : ∀ {i : Nat} {h' j'}, hs[i]? = some h' → t.place.toList[i]? = some j' → ∃ k, (∀ c, c < k → way t.mask h' c ∈ (t.put j).1.place.toList) ∧ way t.mask h' k = j' := fun p q => by
    obtain ⟨k, a, b⟩ := T.reach _ _ _ p q
    exact ⟨k, fun c hc => stay _ (a c hc), b⟩
  refine ⟨rfl, b1, ⟨ris_insert T.ris no, put_dm T.dm j, ?_, T.mok, ?_, ?_⟩, rfl, rfl, rfl, rfl, rfl, ?_⟩
  · rw [sz, len_ins _ b1]
  · intro x hx
    rw [P] at hx
    rcases mem_ins.1 hx with e | e
    · rw [e]; exact hin
    · exact T.bd x e
  · intro i h' j' p q
    rw [P, tins_get _ b2] at q
    rw [tins_get hs b1] at p
    by_cases c1 : i < SetTable.below t.place j
    · simp only [c1, if_true] at p q
      exact old p q
    · by_cases c2 : i = SetTable.below t.place j
      · simp only [c1, c2, Nat.lt_irrefl, if_false, if_true, Option.some.injEq] at p q
        subst p
        subst q
        exact ⟨K, fun c hc => stay _ (taken c hc), hw⟩
      · simp only [c1, c2, if_false] at p q
        exact old p q
  · unfold SetTable.fill
    rw [sz, put_dm T.dm j]
    rfl
end
/-- a free slot is found where the way first meets one -/
theorem MkG.free {m : Nat} (hm : MkG m) (ow : Array (Option Nat)) (h : Int) {j : Nat} (hj : j ≤ m) (hf : oAt ow j = none) :
    ∃ K, SetTable.layClean.free m ow (SetTable.turns m) (SetTable.bits h % (m + 1)) (SetTable.bits h) = some (way m h K) ∧ oAt ow (way m h K) = none ∧ ∀ k, k < K → oAt ow (way m h k) ≠ none := by
  obtain ⟨n, n1, n2⟩ := hm.run h hj
  have at_n : way m h (off m (SetTable.bits h % (m + 1)) (SetTable.bits h) n) = j := by
    have z := nth_off m n (SetTable.bits h % (m + 1)) (SetTable.bits h)
    rw [itL_run] at z
    exact (congrArg SetTable.Probe.j z).trans n2
  have fr : oAt ow (way m h (off m (SetTable.bits h % (m + 1)) (SetTable.bits h) n)) = none := by rw [at_n]; exact hf
  obtain ⟨K, a, b, c⟩ := st_least (p := fun k => oAt ow (way m h k) = none) _ fr
  refine ⟨K, free_spec m ow _ n _ _ K (by unfold SetTable.turns; omega) a (fun k hk => ?_) (by show (oAt ow (way m h K)).isNone = true; rw [b]; rfl), b, c⟩
  show (oAt ow (way m h k)).isNone = false
  cases z : oAt ow (way m h k)
  · exact absurd z (c k hk)
  · rfl
theorem own_step {m : Nat} (hm : MkG m) {done : List Int} {ow : Array (Option Nat)} (W : Own m done ow) (few : done.length ≤ m) (h : Int) :
    ∃ j, SetTable.layClean.free m ow (SetTable.turns m) (SetTable.bits h % (m + 1)) (SetTable.bits h) = some j ∧ Own m (done ++ [h]) (ow.setIfInBounds j (some done.length)) := by
  obtain ⟨ps, pl, pin⟩ := W.ps
  obtain ⟨z, z1, z2⟩ := st_missing ps (m + 1) (by omega)
  have fz : oAt ow z = none := Classical.byContradiction fun e => z2 (pin z (by omega) e)
  obtain ⟨K, e1, e2, e3⟩ := hm.free ow h (j := z) (by omega) fz
  have le := way_in m h K
  generalize hw : way m h K = j at e1 e2 le
  have self : oAt (ow.setIfInBounds j (some done.length)) j = some done.length := oAt_set_self _ (by rw [W.sz]; omega)
  have up : ∀ i, oAt ow i ≠ none → oAt (ow.setIfInBounds j (some done.length)) i ≠ none := fun i hi => by
    by_cases c : i = j
    · rw [c, self]; simp
    · rwa [oAt_set_ne _ c]
  refine ⟨j, e1, ?_, ?_, ?_, ?_⟩
  · rw [Array.size_setIfInBounds, W.sz]
  · intro i k hi e
    by_cases c : i = j
    · rw [c, self] at e
      injection e with e
      subst e
      exact ⟨h, K, by simp, by rw [c]; exact hw, fun q hq => up _ (e3 q hq)⟩
    · rw [oAt_set_ne _ c] at e
      obtain ⟨h', K', a1, a2, a3⟩ := W.at_ i k hi e
      have lk := (List.getElem?_eq_some_iff.mp a1).1
      exact ⟨h', K', by rw [List.getElem?_append_left lk]; exact a1, a2, fun q hq => up _ (a3 q hq)⟩
  · intro k hk
    by_cases c : k < done.length
    · obtain ⟨i, i1, i2⟩ := W.all k c
      have ne : i ≠ j := fun q => by rw [q, e2] at i2; cases i2
      exact ⟨i, i1, by rw [oAt_set_ne _ ne]; exact i2⟩
    · have : k = done.length := by simp at hk; omega
      subst this
      exact ⟨j, le, self⟩
  · refine ⟨j :: ps, by simp [pl], fun i hi e => ?_⟩
    by_cases c : i = j
    · rw [c]; exact List.mem_cons_self
    · rw [oAt_set_ne _ c] at e
      exact List.mem_cons_of_mem _ (pin i hi e)
theorem own_fold {m : Nat} (hm : MkG m) : ∀ (xs done : List Int) (ow : Array (Option Nat)), Own m done ow → done.length + xs.length ≤ m →
    ∃ ow', xs.foldl (stepF m) (some (ow, done.length)) = some (ow', done.length + xs.length) ∧ Own m (done ++ xs) ow' := by
  intro xs
  induction xs with
  | nil => exact fun done ow W _ => ⟨ow, rfl, by rwa [List.append_nil]⟩
  | cons x xs ih =>
    intro done ow W few
    simp only [List.length_cons] at few
    obtain ⟨j, e, W1⟩ := own_step hm W (by omega) x
    obtain ⟨ow', f, W2⟩ := ih (done ++ [x]) _ W1 (by simp; omega)
    refine ⟨ow', ?_, by rw [List.append_assoc] at W2; exact W2⟩
    rw [List.foldl_cons, stepF_some e]
    rw [List.length_append, List.length_singleton] at f
    rw [f, List.length_cons, Nat.add_assoc, Nat.add_comm 1]
/-- all laid anew -/
theorem relaid_g (t : SetTable) {hs : Array Int} {wanted M : Nat} (hw : SetTable.sizeAbove wanted - 1 = M) (hM : MkG M) (few : hs.size ≤ M) :
    ∃ t' ord, t.relaid hs wanted = some (t', ord) ∧ ord.toList.Perm (List.range hs.size) ∧ TabG t' (ord.toList.map fun i => hs.getD i 0) ∧ t'.mask = M ∧ t'.led = t.led ∧ t'.plain = t.plain ∧ t'.dummies = #[] := by
  obtain ⟨ow, f, W⟩ := own_fold hM hs.toList [] _ (Own.init M) (by simpa using few)
  rw [List.nil_append] at W
  have lc : SetTable.layClean M hs = some ow := by
    rw [layClean_eq]
    exact congrArg (Option.map Prod.fst) f
  have rl : t.relaid hs wanted = some (tabOf t M ow, ((liveOf M ow).map (·.2)).toArray) := by
    rw [relaid_eq, hw, lc]
    rfl
  obtain ⟨r1, r2⟩ : Ris ((liveOf M ow).map (·.1)) ∧ ∀ x ∈ (liveOf M ow).map (·.1), x ∈ List.range (M + 1) := ris_live (fun j => ow.getD j none) (List.range (M + 1)) List.pairwise_lt_range
  have inl : ∀ {j k}, (j, k) ∈ liveOf M ow ↔ j ≤ M ∧ oAt ow j = some k := mem_live W.sz
  have every : ∀ k, k < hs.size → k ∈ (liveOf M ow).map (·.2) := fun k hk => by
    obtain ⟨j, a, b⟩ := W.all k (by rw [Array.length_toList]; exact hk)
    exact List.mem_map.mpr ⟨(j, k), inl.2 ⟨a, b⟩, rfl⟩
  have ln : ((liveOf M ow).map (·.2)).length = hs.size := by
    obtain ⟨ps, p1, p2⟩ := W.ps
    have up := nat_nodup_len _ ps (r1.imp fun {a b} h => Nat.ne_of_lt h) fun x hx => by
      obtain ⟨⟨y, k⟩, hq, rfl⟩ := List.mem_map.mp hx
      obtain ⟨a, b⟩ := inl.1 hq
      exact p2 y a (by rw [b]; simp)
    have dn := nat_nodup_len (List.range hs.size) _ List.nodup_range fun k hk => every k (List.mem_range.mp hk)
    simp only [List.length_map, List.length_range, Array.length_toList] at *
    omega
  refine ⟨_, _, rl, perm_range hs.size _ ln every, ⟨r1, rfl, ?_, hM, ?_, ?_⟩, rfl, rfl, rfl, rfl⟩
  · show (((liveOf M ow).map (·.1)).toArray).size = _
    simp
  · intro x hx
    have := List.mem_range.mp (r2 x hx)
    exact Nat.le_of_lt_succ this
  · intro i h j p q
    have q' : ((liveOf M ow).map (·.1))[i]? = some j := q
    have p' : (((liveOf M ow).map (·.2)).map fun i => hs.getD i 0)[i]? = some h := p
    rw [List.getElem?_map] at q' p'
    rw [List.getElem?_map] at p'
    obtain ⟨⟨y, k⟩, e, rfl⟩ := Option.map_eq_some_iff.mp q'
    rw [e] at p'
    have p2 : hs.getD k 0 = h := Option.some.inj p'
    obtain ⟨b1, b2⟩ := inl.1 (List.mem_of_getElem? e)
    obtain ⟨h0, K, a1, a2, a3⟩ := W.at_ y k b1 b2
    have e0 : h0 = h := by
      rw [← p2, Array.getD_eq_getD_getElem?, ← Array.getElem?_toList, a1]
      rfl
    subst e0
    refine ⟨K, fun c hc => ?_, a2⟩
    show way M h0 c ∈ (liveOf M ow).map (·.1)
    obtain ⟨k2, z⟩ := Option.ne_none_iff_exists'.mp (a3 c hc)
    exact List.mem_map.mpr ⟨(way M h0 c, k2), inl.2 ⟨way_in M h0 c, z⟩, rfl⟩
theorem size_308 : SetTable.sizeAbove (SetTable.grown 77) = 512 := by decide +kernel
end G
end
section
set_option Elab.async false
set_option linter.all false
set_option maxRecDepth 100000
set_option maxHeartbeats 2000000
/-! S1: sets of nested keys (tuples of numbers, texts and such tuples): the questions that the model asks of one key -/
namespace G
open PySem L2 PyProof.Rows
abbrev NK := NestedKey
/-- the tuple at a is the key k -/
def KeyAt (h : Heap) (k : NK) (a : Addr) : Prop := NestedIs h k (.ref a) ∧ k.depth ≤ 8
section
variable {P : Program} {w : World} {E : Value → Shared → Prop}
/-- no item of a key is of a class statement -/
theorem ofA_key (s : Shared) (A : Around) : ∀ (n : Nat) (k : NK) (v : Value) (Q : Bool → Shared → Prop), NestedIs s.heap k v → k.depth ≤ n → Q false s → wpAny (model P w) A (ofAClassStatement n v) Q E s := by
  intro n
  induction n with
  | zero =>
    intro k v Q x hn q
    cases x with
    | tup _ _ _ _ => simp only [NestedKey.depth] at hn; omega
    | _ => exact wpAny_pure q
  | succ n ih =>
    intro k v Q x hn q
    cases x with
    | @tup a o vs m ks hg hc hd hk =>
      simp only [NestedKey.depth] at hn
      have hT : s.TypeIs (.ref a) "tuple" := ⟨o, hg, hc⟩
      unfold ofAClassStatement
      refine wpAny_bind (wpAny_typeOf hT ?_)
      dsimp only
      simp only [show (("tuple" : String) == "tuple") = true from by decide, if_true, Bool.not_true, Bool.false_eq_true, if_false]
      try refine wpAny_bind (wpAny_pure ?_)
      try simp only [Bool.not_true, Bool.false_eq_true, if_false]
      refine wpAny_bind (m := seqItems? (.ref a)) (wpAny_seqItems hg hd ?_)
      dsimp only
      refine wpAny_bind ?_
      show wpAny _ _ (forIn vs _ _) _ _ s
      rw [← Array.forIn_toList]
      refine wpAny_forIn_list _ (fun l r z => r.1 = none ∧ z = s ∧ ∃ ks', NestedAll s.heap ks' l ∧ NestedKey.depthAll ks' ≤ n) _ ?_ ?_ _ _ ⟨rfl, rfl, ks, hk, by omega⟩
      · rintro v l r z ⟨hr, rfl, ks', hl, hn'⟩
        cases hl with
        | @cons k1 _ ks1 _ h1 h2 =>
          simp only [NestedKey.depthAll] at hn'
          refine wpAny_bind (ih k1 v _ h1 (by omega) ?_)
          simp only [Bool.false_eq_true, if_false]
          exact wpAny_pure ⟨rfl, rfl, ks1, h2, by omega⟩
      · rintro ⟨r1, r2⟩ z ⟨hr, rfl, _⟩
        obtain rfl : r1 = none := hr
        exact wpAny_pure q
    | _ => exact wpAny_pure q
/-- whether a key's hash goes by value alone: either answer will do -/
theorem hashBy_key (s : Shared) (A : Around) : ∀ (n : Nat) (k : NK) (v : Value) (Q : Bool → Shared → Prop), NestedIs s.heap k v → (∀ b, Q b s) → wpAny (model P w) A (hashByValue n v) Q E s := by
  intro n
  induction n with
  | zero =>
    intro k v Q x q
    cases x <;> exact wpAny_pure (q _)
  | succ n ih =>
    intro k v Q x q
    cases x with
    | @tup a o vs m ks hg hc hd hk =>
      have hT : s.TypeIs (.ref a) "tuple" := ⟨o, hg, hc⟩
      unfold hashByValue
      refine wpAny_bind (wpAny_specialOf hT F.slot_tuple_hash.lookup ?_)
      refine wpAny_bind (m := seqItems? (.ref a)) (wpAny_seqItems hg hd ?_)
      refine wpAny_bind ?_
      show wpAny _ _ (forIn vs _ _) _ _ s
      rw [← Array.forIn_toList]
      refine wpAny_forIn_list _ (fun l r z => r.1 = none ∧ z = s ∧ ∃ ks', NestedAll s.heap ks' l) _ ?_ ?_ _ _ ⟨rfl, rfl, ks, hk⟩
      · rintro v l r z ⟨hr, rfl, ks', hl⟩
        cases hl with
        | @cons k1 _ ks1 _ h1 h2 =>
          refine wpAny_bind (ih k1 v _ h1 fun b => ?_)
          cases b
          · simp only [Bool.not_false, if_true]
            exact wpAny_pure (wpAny_pure (q _))
          · simp only [Bool.not_true, Bool.false_eq_true, if_false]
            exact wpAny_pure ⟨rfl, rfl, ks1, h2⟩
      · rintro ⟨r1, r2⟩ z ⟨hr, rfl, _⟩
        obtain rfl : r1 = none := hr
        exact wpAny_pure (q _)
    | _ => exact wpAny_pure (q _)
theorem KeyAt.quiet {s : Shared} {A : Around} {k : NK} {a : Addr} {Q : Bool → Shared → Prop} (x : KeyAt s.heap k a) (q : Q true s) : wpAny (model P w) A (eqIsQuiet 8 (.ref a)) Q E s := quiet_key k _ 8 s x.1 x.2 A E Q q
theorem KeyAt.equal {s : Shared} {A : Around} {k l : NK} {a b : Addr} {Q : Bool → Shared → Prop} (hu : A.units + 8 < cLine) (x : KeyAt s.heap k a) (y : KeyAt s.heap l b) (q : Q (decide (k = l)) s) : wpAny (model P w) A (eqBool (.ref a) (.ref b)) Q E s :=
  (nestedKind P w).eqBool hu x y q
theorem KeyAt.inj {h : Heap} {k l : NK} {a : Addr} (x : KeyAt h k a) (y : KeyAt h l a) : k = l := NestedIs.inj _ _ _ x.1 y.1
theorem KeyAt.move {h h' : Heap} {k : NK} {a : Addr} (f : ∀ b o vs n, h.get? b = some o → o.data = .seq vs n → h'.get? b = some o) (x : KeyAt h k a) : KeyAt h' k a := ⟨NestedIs.at f k _ x.1, x.2⟩
theorem KeyAt.keep {h h' : Heap} {k : NK} {a : Addr} (x : KeyAt h k a) (f : ∀ b o, h.get? b = some o → h'.get? b = some o) : KeyAt h' k a := x.move fun b o _ _ e _ => f b o e
/-- a set laid anew is no key -/
theorem KeyAt.beside {h h' : Heap} {k : NK} {a c : Addr} {o : Obj} {es : Array (Int × Value)} {ep : Nat} {t : SetTable} (x : KeyAt h k a) (ho : h.get? c = some o) (hd : o.data = .set es ep t) (hs : Heap.SameBut c h h') : KeyAt h' k a :=
  x.move fun b ob vs n hb hv => (hs.2 b fun e => by
    subst e
    rw [ho] at hb
    cases hb
    rw [hd] at hv
    cases hv).trans hb
/-- a search among keys shows nothing -/
theorem seen_keys {s : Shared} {A : Around} {k : NK} {a : Addr} {Q : Bool → Shared → Prop} (x : KeyAt s.heap k a) {ys : List Value} (hy : ∀ y ∈ ys, ∃ l c, y = Value.ref c ∧ KeyAt s.heap l c) (q : Q false s) :
    wpAny (model P w) A (searchCouldBeSeen (.ref a) ys) Q E s := by
  unfold searchCouldBeSeen
  refine wpAny_bind (wpAny_forIn_list _ (fun l r z => r.1 = none ∧ z = s ∧ ∀ y ∈ l, ∃ l c, y = Value.ref c ∧ KeyAt s.heap l c) _ ?_ ?_ _ _ ⟨rfl, rfl, hy⟩)
  · rintro v l r z ⟨hr, rfl, hall⟩
    have tl : ∀ y ∈ l, ∃ l c, y = Value.ref c ∧ KeyAt z.heap l c := fun y hy => hall y (List.mem_cons_of_mem _ hy)
    obtain ⟨kl, c, rfl, hc⟩ := hall v List.mem_cons_self
    dsimp only
    by_cases same : (a == c || (carriedByValue (.ref a) && carriedByValue (.ref c))) = true
    · exact wp_if_pos same (wpAny_pure ⟨rfl, rfl, tl⟩)
    · refine wp_if_neg same (wpAny_bind (x.quiet ?_))
      simp only [Bool.not_true, Bool.false_eq_true, if_false]
      refine wpAny_bind (hc.quiet ?_)
      simp only [Bool.not_true, Bool.false_eq_true, if_false]
      refine wpAny_bind (ofA_key z A 8 k _ _ x.1 x.2 ?_)
      simp only [Bool.false_eq_true, if_false]
      refine wpAny_bind (ofA_key z A 8 kl _ _ hc.1 hc.2 ?_)
      simp only [Bool.false_eq_true, if_false]
      exact wpAny_pure ⟨rfl, rfl, tl⟩
  · rintro ⟨r1, r2⟩ z ⟨hr, rfl, _⟩
    obtain rfl : r1 = none := hr
    exact wpAny_pure q
end
end G
end
section
set_option Elab.async false
set_option linter.all false
set_option maxRecDepth 100000
set_option maxHeartbeats 2000000
/-! S2: a set of nested keys: the search and the adding -/
namespace G
open PySem L2 PyProof.Rows
section
variable {P : Program} {w : World} {A : Around} {E : Value → Shared → Prop} {s : Shared}
abbrev Ks := List (Addr × NK)
def ents (w : World) (L : Ks) : List (Int × Value) := L.map fun p => (p.2.hash w, Value.ref p.1)
abbrev hsh (w : World) (L : Ks) : List Int := L.map fun p => p.2.hash w
/-- the set at a holds just the keys L, laid so -/
structure SetK (w : World) (h : Heap) (a : Addr) (L : Ks) (es : Array (Int × Value)) (ep : Nat) (t : SetTable) : Prop where
  at_ : ∃ o, h.get? a = some o ∧ o.ExactSet ∧ o.data = .set es ep t
  ent : es.toList = ents w L
  tab : TabG t (hsh w L)
  once : (L.map (·.2)).Nodup
  keys : ∀ p ∈ L, KeyAt h p.2 p.1
  led : w.params.followText "set-order" = true ∨ t.led = true
  room : L.length * 5 < t.mask * 3
variable {a : Addr} {L : Ks} {es : Array (Int × Value)} {ep : Nat} {t : SetTable}
theorem ents_len {es : Array (Int × Value)} {L : Ks} (h : es.toList = ents w L) : es.size = L.length := by
  have := congrArg List.length h
  simpa [ents] using this
theorem ents_at {es : Array (Int × Value)} {L : Ks} (h : es.toList = ents w L) {i : Nat} {p : Addr × NK} (e : L[i]? = some p) : es[i]? = some (p.2.hash w, Value.ref p.1) := by
  rw [← Array.getElem?_toList, h, ents, List.getElem?_map, e, Option.map_some]
theorem fits_of (T : TabG t (hsh w L)) (h1 : es.size = L.length) (h2 : L.length ≤ t.mask) : t.fits es.size = true := by
  have h3 := T.sz
  rw [List.length_map] at h3
  unfold SetTable.fits SetTable.fill
  rw [T.dm, Bool.and_eq_true, beq_iff_eq, decide_eq_true_eq]
  exact ⟨by omega, by show t.place.size + 0 ≤ t.mask; omega⟩
theorem SetK.fits (R : SetK w s.heap a L es ep t) : t.fits es.size = true := by
  have h := R.room
  exact fits_of R.tab (ents_len R.ent) (by omega)
abbrev wy (t : SetTable) (h : Int) : Nat → SetTable.Probe := nth t.mask (runAt t.mask (SetTable.bits h % (t.mask + 1)) (SetTable.bits h))
theorem wy_dummy (t : SetTable) (h : Int) (n : Nat) : (wy t h n).dummy = none := by
  have key : ∀ (m n : Nat) (p : SetTable.Probe), p.dummy = none → (nth m p n).dummy = none := by
    intro m n
    induction n with
    | zero => exact fun _ e => e
    | succ n ih => exact fun p e => ih (adv m p) (by unfold adv; split <;> exact e)
  exact key _ n _ rfl
/-- one turn of the search, at the c-th place of the way -/
theorem turn_at (R : SetK w s.heap a L es ep t) {x : Addr} {k : NK} (hx : KeyAt s.heap k x) (hu : A.units + 8 < cLine) {K : Nat} (hf : K < 10 * SetTable.turns t.mask)
    (free : way t.mask (k.hash w) K ∉ t.place.toList) (taken : ∀ c, c < K → way t.mask (k.hash w) c ∈ t.place.toList) {Q : SetFound → Shared → Prop}
    (yes : k ∈ L.map (·.2) → Q (.there none) s) (no : k ∉ L.map (·.2) → Q (.free (way t.mask (k.hash w) K) false) s) :
    ∀ (f c : Nat) (from_ : Option SetTable.Probe), from_.getD (t.probeStart (k.hash w)) = wy t (k.hash w) c → c ≤ K → K < c + f →
      (∀ (i : Nat) (p : Addr × NK), L[i]? = some p → p.2 = k → ∃ c', c ≤ c' ∧ c' < K ∧ t.place.toList[i]? = some (way t.mask (k.hash w) c')) →
      wpAny (model P w) A (setSearchFrom a (.ref x) (k.hash w) true f from_) Q E s := by
  obtain ⟨o, ho, hex, hd⟩ := R.at_
  have fit := R.fits
  have odd : ¬ t.gaveWay = true := by
    unfold SetTable.gaveWay
    rw [R.tab.mok.odd]
    decide
  have at' : ∀ (i : Nat) p, L[i]? = some p → (es[i]?.map (·.1)).getD 0 = p.2.hash w := fun i p e => by rw [ents_at R.ent e]; rfl
  intro f
  induction f with
  | zero => intro c from_ _ h1 h2; omega
  | succ f ih =>
    intro c from_ st hc hK still
    have shift : ∀ q, nth t.mask (wy t (k.hash w) c) q = wy t (k.hash w) (c + q) := fun q => (nth_add t.mask c _ q).symm
    have shj : ∀ q, (nth t.mask (wy t (k.hash w) c) q).j = way t.mask (k.hash w) (c + q) := fun q => congrArg SetTable.Probe.j (shift q)
    rw [setSearchFrom_succ]
    refine wpAny_bind (wpAny_setState_of ho hd fit ?_)
    dsimp only
    refine wp_if_neg odd ?_
    try refine wpAny_bind (wpAny_pure ?_)
    rcases go_spec t R.tab.ris R.tab.dm (fun i => (es[i]?.map (·.1)).getD 0) (k.hash w) (10 * SetTable.turns t.mask) (K - c) (wy t (k.hash w) c) (wy_dummy t _ c) (by omega)
      (fun q hq => by rw [shj]; exact taken _ (by omega)) (by rw [shj, show c + (K - c) = K by omega]; exact free) with ⟨q, i, hq, hi, hh, past, met⟩ | ⟨past, met⟩
    · rw [shj] at hi
      have probe : t.probe (fun i => (es[i]?.map (·.1)).getD 0) (k.hash w) (from_.getD (t.probeStart (k.hash w))) = some (.candidate (way t.mask (k.hash w) (c + q)) i (wy t (k.hash w) (c + (q + 1)))) := by
        rw [st, ← shj, ← shift]
        exact met
      rw [probe]
      dsimp only
      have il : i < L.length := by
        have h1 := (List.getElem?_eq_some_iff.mp hi).1
        have h2 := R.tab.sz
        rw [List.length_map] at h2
        simp only [Array.length_toList] at h1
        omega
      obtain ⟨p, hp⟩ : ∃ p, L[i]? = some p := ⟨_, List.getElem?_eq_getElem il⟩
      have pm : p ∈ L := List.mem_of_getElem? hp
      have live : t.slot (way t.mask (k.hash w) (c + q)) = .live i := slot_live R.tab.ris hi
      have go : wpAny (model P w) A (searchRest a (.ref x) (k.hash w) true f es t (way t.mask (k.hash w) (c + q)) i (wy t (k.hash w) (c + (q + 1)))) Q E s := by
        unfold searchRest
        rw [ents_at R.ent hp]
        dsimp only
        refine wpAny_bind (wpAny_holding ((R.keys p pm).equal hu hx (wpAny_bind (wpAny_setState_of ho hd fit ?_))))
        dsimp only
        by_cases e : p.2 = k
        · exact wp_if_pos (by simp [e]) (wpAny_pure (yes (List.mem_map.mpr ⟨p, pm, e⟩)))
        · refine wp_if_neg (by simp [e]) ?_
          try refine wpAny_bind (wpAny_pure ?_)
          rw [sameMem]
          dsimp only
          simp only [if_true, live, ents_at R.ent hp]
          refine wpAny_bind (wpAny_isSame_ref_self (wpAny_bind (wpAny_pure ?_)))
          simp only [if_true]
          refine wp_if_neg (by simp [e]) (ih (c + (q + 1)) _ rfl (by omega) (by omega) fun i0 p0 h0 k0 => ?_)
          obtain ⟨c', b1, b2, b3⟩ := still i0 p0 h0 k0
          refine ⟨c', ?_, b2, b3⟩
          by_cases lt : c' < c + q
          · exact absurd ((at' i0 p0 h0).trans (by rw [k0])) (past (c' - c) i0 (by omega) (by rw [shj, show c + (c' - c) = c' by omega]; exact b3))
          · by_cases eq : c' = c + q
            · subst eq
              have l2 := slot_live R.tab.ris b3
              rw [live] at l2
              injection l2 with l2
              subst l2
              rw [hp] at h0
              cases h0
              exact absurd k0 e
            · omega
      by_cases hl : t.led = true
      · refine wp_if_neg (by simp [hl]) ?_
        try refine wpAny_bind (wpAny_pure ?_)
        exact go
      · refine wp_if_pos (by simp [hl]) (wpAny_bind (seen_keys hx (fun y hy => ?_) ?_))
        · obtain ⟨e, he, rfl⟩ := List.mem_map.mp hy
          have he2 : e ∈ es.toList := by
            have := (Array.mem_filter.mp (Array.mem_toList_iff.mp he)).1
            exact Array.mem_toList_iff.mpr this
          rw [R.ent] at he2
          obtain ⟨p2, hp2, rfl⟩ := List.mem_map.mp he2
          exact ⟨p2.2, p2.1, rfl, R.keys p2 hp2⟩
        · refine wp_if_neg (by decide) ?_
          try refine wpAny_bind (wpAny_pure ?_)
          exact go
    · have probe : t.probe (fun i => (es[i]?.map (·.1)).getD 0) (k.hash w) (from_.getD (t.probeStart (k.hash w))) = some (.empty (way t.mask (k.hash w) K) none) := by
        have e2 := shj (K - c)
        rw [show c + (K - c) = K by omega] at e2
        rw [st, ← e2]
        exact met
      rw [probe]
      dsimp only
      refine wpAny_pure (no fun hm => ?_)
      obtain ⟨p0, m0, k0⟩ := List.mem_map.mp hm
      obtain ⟨i0, l0, e0⟩ := List.getElem_of_mem m0
      have h0 : L[i0]? = some p0 := by rw [List.getElem?_eq_getElem l0, e0]
      obtain ⟨c', b1, b2, b3⟩ := still i0 p0 h0 k0
      exact past (c' - c) i0 (by omega) (by rw [shj, show c + (c' - c) = c' by omega]; exact b3) ((at' i0 p0 h0).trans (by rw [k0]))
theorem search_key (R : SetK w s.heap a L es ep t) {x : Addr} {k : NK} (hx : KeyAt s.heap k x) (hu : A.units + 8 < cLine) {Q : SetFound → Shared → Prop} (yes : k ∈ L.map (·.2) → Q (.there none) s)
    (no : ∀ K, k ∉ L.map (·.2) → way t.mask (k.hash w) K ∉ t.place.toList → (∀ c, c < K → way t.mask (k.hash w) c ∈ t.place.toList) → Q (.free (way t.mask (k.hash w) K) false) s) :
    wpAny (model P w) A (setSearch a (.ref x) (k.hash w) true) Q E s := by
  have hr := R.room
  obtain ⟨K, k1, k2, k3⟩ := R.tab.first (by rw [List.length_map]; omega) (k.hash w)
  have few : K < 100000 := by
    have : 10 * SetTable.turns t.mask ≤ 5260 := by
      unfold SetTable.turns
      rcases R.tab.mok with e | e | e | e <;> omega
    omega
  unfold setSearch
  refine turn_at R hx hu k1 k2 k3 yes (fun n => no K n k2 k3) 100000 0 none rfl (Nat.zero_le _) (by omega) fun i p hp e => ?_
  have hi : (hsh w L)[i]? = some (k.hash w) := by rw [List.getElem?_map, hp, Option.map_some, e]
  have il : i < t.place.toList.length := by
    have h1 := (List.getElem?_eq_some_iff.mp hp).1
    have h2 := R.tab.sz
    rw [List.length_map] at h2
    rw [Array.length_toList]
    omega
  obtain ⟨c, hc, e2⟩ := R.tab.before k2 hi (List.getElem?_eq_getElem il)
  exact ⟨c, Nat.zero_le _, hc, by rw [List.getElem?_eq_getElem il, e2]⟩
end
end G
end
section
set_option Elab.async false
set_option linter.all false
set_option maxRecDepth 100000
set_option maxHeartbeats 2000000
/-! S3: a set of nested keys: laid anew, added to -/
namespace G
open PySem L2 PyProof.Rows
section
variable {P : Program} {w : World} {A : Around} {E : Value → Shared → Prop} {s : Shared}
theorem pick_ents {L : Ks} {es : Array (Int × Value)} {ord : Array Nat} (he : es.toList = ents w L) (hp : ord.toList.Perm (List.range L.length)) :
    ∃ M : Ks, (ord.filterMap (es[·]?)).toList = ents w M ∧ M.Perm L ∧ hsh w M = ord.toList.map fun i => (es.map (·.1)).getD i 0 := by
  have one : ∀ l : List Nat, (∀ i ∈ l, i < L.length) → l.filterMap (fun i => es[i]?) = ents w (l.filterMap fun i => L[i]?) ∧ hsh w (l.filterMap fun i => L[i]?) = l.map fun i => (es.map (·.1)).getD i 0 := by
    intro l
    induction l with
    | nil => exact fun _ => ⟨rfl, rfl⟩
    | cons i l ih =>
      intro hl
      obtain ⟨h1, h2⟩ := ih fun j hj => hl j (List.mem_cons_of_mem _ hj)
      have li : i < L.length := hl i List.mem_cons_self
      have e0 : L[i]? = some L[i] := List.getElem?_eq_getElem li
      have e1 := ents_at he e0
      constructor
      · rw [List.filterMap_cons_some e1, List.filterMap_cons_some e0, h1]
        rfl
      · rw [List.filterMap_cons_some e0, List.map_cons, ← h2]
        show (L[i]).2.hash w :: _ = _
        congr 1
        simp [Array.getD_eq_getD_getElem?, e1]
  obtain ⟨h1, h2⟩ := one ord.toList fun i hi => List.mem_range.mp (hp.mem_iff.mp hi)
  refine ⟨_, by simpa using h1, ?_, h2⟩
  have all : (List.range L.length).filterMap (fun i => L[i]?) = L := by
    have up : ∀ n, n ≤ L.length → (List.range n).filterMap (fun i => L[i]?) = L.take n := by
      intro n
      induction n with
      | zero => intro _; simp
      | succ n ih =>
        intro hn
        have e0 : L[n]? = some L[n] := List.getElem?_eq_getElem hn
        rw [List.range_succ, List.filterMap_append, ih (by omega), List.take_succ, e0, List.filterMap_cons_some e0]
        rfl
    rw [up _ (Nat.le_refl _), List.take_length]
  have := hp.filterMap fun i => L[i]?
  rwa [all] at this
variable {a : Addr} {L : Ks} {es : Array (Int × Value)} {ep : Nat} {t : SetTable}
theorem relay_key {o : Obj} (ho : s.heap.get? a = some o) (hex : o.ExactSet) (hd : o.data = .set es ep t) (he : es.toList = ents w L) (T : TabG t (hsh w L)) (hm : L.length ≤ t.mask) (once : (L.map (·.2)).Nodup)
    (keys : ∀ p ∈ L, KeyAt s.heap p.2 p.1) (led : w.params.followText "set-order" = true ∨ t.led = true) {wanted M : Nat} (hw : SetTable.sizeAbove wanted - 1 = M) (hM : MkG M) (hz : SetTable.sizeAbove wanted ≤ 512) (hr : L.length * 5 < M * 3)
    {Q : Unit → Shared → Prop} (q : ∀ h' L' es' ep' t', Heap.SameBut a s.heap h' → SetK w h' a L' es' ep' t' → L'.Perm L → Q () { s with heap := h' }) : wpAny (model P w) A (setRelay a wanted) Q E s := by
  have hl := ents_len he
  obtain ⟨t', ord, e, hp, T', em, el, _, ed⟩ := relaid_g t (hs := es.map (·.1)) (wanted := wanted) hw hM (by rw [Array.size_map, hl]; omega)
  rw [Array.size_map, hl] at hp
  obtain ⟨L2, r1, r2, r3⟩ := pick_ents he hp
  have hz2 : (ord.filterMap (es[·]?)).size = es.size := by rw [ents_len r1, r2.length_eq, hl]
  rw [setRelay_eq]
  refine wpAny_bind (wpAny_setState_of ho hd (fits_of T hl hm) ?_)
  dsimp only
  refine wp_if_neg (by rw [sizeLine_eq]; omega) ?_
  try refine wpAny_bind (wpAny_pure ?_)
  rw [e]
  dsimp only
  refine wpAny_bind (wp_if_neg (by rw [hz2]; simp) ?_)
  try refine wpAny_bind (wpAny_pure ?_)
  refine wpAny_pure ?_
  dsimp only
  refine wpAny_storeSet_of ho hd ?_ (by rw [hz2, hl, sizeLine_eq]; rcases hM with e | e | e | e <;> omega)
  have sb : Heap.SameBut a s.heap (s.heap.update a (Obj.putSet (ord.filterMap (es[·]?)) t')) := Heap.SameBut.update ..
  rw [← r3] at T'
  exact q _ L2 _ (ep + 1) t' sb ⟨⟨_, store_at ho hd, ⟨hex.1, hex.2.1, hex.2.2⟩, rfl⟩, r1, T', (r2.map (·.2)).nodup_iff.mpr once, fun p hp => (keys p (r2.mem_iff.mp hp)).beside ho hd sb, by rw [el]; exact led, by rw [r2.length_eq, em]; exact hr⟩ r2
/-- what a set's table may be marked with: nothing that we look at -/
theorem tabOk_plain {t : SetTable} {hs : List Int} (T : TabG t hs) (b : Bool) : TabG { t with plain := b } hs := ⟨T.ris, T.dm, T.sz, T.mok, T.bd, T.reach⟩
theorem ifPlain (t : SetTable) (b : Bool) : ∃ c, (if b = true then t else { t with plain := false }) = { t with plain := c } := by
  cases b
  · exact ⟨false, rfl⟩
  · exact ⟨t.plain, rfl⟩
theorem add_key (R : SetK w s.heap a L es ep t) {x : Addr} {k : NK} (hx : KeyAt s.heap k x) (hu : A.units + 8 < cLine) (few : L.length + 1 < 307) {Q : Bool → Shared → Prop}
    (q : ∀ b h' L' es' ep' t', Heap.SameBut a s.heap h' → SetK w h' a L' es' ep' t' → (k ∈ L.map (·.2) → L' = L) → (k ∉ L.map (·.2) → L'.Perm ((x, k) :: L)) → Q b { s with heap := h' }) :
    wpAny (model P w) A (setAddHashed a (.ref x) (k.hash w)) Q E s := by
  obtain ⟨o, ho, hex, hd⟩ := R.at_
  have fit := R.fits
  have hl := ents_len R.ent
  have hr := R.room
  unfold setAddHashed
  refine wpAny_holding ?_
  rw [show (100000 : Nat) = 99999 + 1 from rfl, setAddHashedIn_succ]
  refine wpAny_bind (wpAny_setState_of ho hd fit ?_)
  dsimp only
  refine wp_if_neg (by simp [byScan, Value.scannable]) ?_
  try refine wpAny_bind (wpAny_pure ?_)
  refine wpAny_bind (search_key R hx hu (fun hm => wpAny_pure (q false s.heap L es ep t (Heap.SameBut.refl a s.heap) R (fun _ => rfl) fun z => absurd hm z)) fun K hm free taken => ?_)
  dsimp only
  refine wpAny_bind (wpAny_setState_of ho hd fit ?_)
  dsimp only
  obtain ⟨q1, q2, q3, q4, q5, q6, q7, q8, q9⟩ := R.tab.put free taken
  generalize hpt : t.put (way t.mask (k.hash w) K) = pt at q1 q3 q4 q5 q6 q7 q8 q9 ⊢
  obtain ⟨t1, pl⟩ := pt
  dsimp only at q1 q3 q4 q5 q6 q7 q8 q9 ⊢
  subst q1
  generalize SetTable.below t.place (way t.mask (k.hash w) K) = pl at q2 q3 ⊢
  have hin : (SetTable.insertAt es pl (k.hash w, Value.ref x)).toList = ents w (L.take pl ++ (x, k) :: L.drop pl) := by
    rw [SetTable.toList_insertAt, R.ent]
    simp [ents, List.map_take, List.map_drop]
  have pm : (L.take pl ++ (x, k) :: L.drop pl).Perm ((x, k) :: L) := by
    have := List.perm_middle (a := (x, k)) (l₁ := L.take pl) (l₂ := L.drop pl)
    rwa [List.take_append_drop] at this
  have T1 : TabG t1 (hsh w (L.take pl ++ (x, k) :: L.drop pl)) := by
    have e : hsh w (L.take pl ++ (x, k) :: L.drop pl) = (hsh w L).take pl ++ k.hash w :: (hsh w L).drop pl := by simp [hsh, List.map_take, List.map_drop]
    rw [e]
    exact q3
  generalize SetTable.insertAt es pl (k.hash w, Value.ref x) = es1 at hin ⊢
  generalize L.take pl ++ (x, k) :: L.drop pl = L1 at pm hin T1
  have hlen : L1.length = L.length + 1 := pm.length_eq
  have once1 : (L1.map (·.2)).Nodup := by
    refine (pm.map (·.2)).nodup_iff.mpr ?_
    rw [List.map_cons]
    exact List.nodup_cons.mpr ⟨hm, R.once⟩
  have hes := ents_len hin
  have rest : ∀ c : Bool, wpAny (model P w) A (do
      storeSet a es1 { t1 with plain := c }
      if !false && ({ t1 with plain := c } : SetTable).tooFull then setRelay a (SetTable.grown (es.size + 1))
      return true) Q E s := by
    intro c
    have T2 := tabOk_plain T1 c
    have led2 : w.params.followText "set-order" = true ∨ ({ t1 with plain := c } : SetTable).led = true := by
      show _ ∨ t1.led = true
      rw [q5]
      exact R.led
    have mk2 : ({ t1 with plain := c } : SetTable).mask = t.mask := q4
    have full : ({ t1 with plain := c } : SetTable).tooFull = decide ((L.length + 1) * 5 ≥ t.mask * 3) := by
      have f1 : ({ t1 with plain := c } : SetTable).fill = L.length + 1 := by
        have := q9
        rw [List.length_map] at this
        exact this
      unfold SetTable.tooFull
      rw [f1, mk2]
    generalize ({ t1 with plain := c } : SetTable) = t2 at T2 led2 mk2 full ⊢
    refine wpAny_bind (wpAny_storeSet_of ho hd ?_ (by rw [hes, hlen, sizeLine_eq]; omega))
    have sb : Heap.SameBut a s.heap (s.heap.update a (Obj.putSet es1 t2)) := Heap.SameBut.update ..
    have ho1 := store_at (es' := es1) (t' := t2) ho hd
    generalize s.heap.update a (Obj.putSet es1 t2) = h1 at sb ho1 ⊢
    have keys1 : ∀ p ∈ L1, KeyAt h1 p.2 p.1 := fun p hp => by
      rcases List.mem_cons.mp (pm.mem_iff.mp hp) with e | hp
      · subst e
        exact hx.beside ho hd sb
      · exact (R.keys p hp).beside ho hd sb
    by_cases hf : (L.length + 1) * 5 ≥ t.mask * 3
    · have small : (t.mask = 7 ∧ L.length = 4) ∨ (t.mask = 31 ∧ L.length = 18) ∨ (t.mask = 127 ∧ L.length = 76) := by
        rcases R.tab.mok with e | e | e | e <;> rw [e] at hf hr
        · exact .inl ⟨e, by omega⟩
        · exact .inr (.inl ⟨e, by omega⟩)
        · exact .inr (.inr ⟨e, by omega⟩)
        · omega
      have go : ∀ M, SetTable.sizeAbove (SetTable.grown (es.size + 1)) - 1 = M → MkG M → SetTable.sizeAbove (SetTable.grown (es.size + 1)) ≤ 512 → (L.length + 1) * 5 < M * 3 →
          wpAny (model P w) A (do
            if !false && t2.tooFull then setRelay a (SetTable.grown (es.size + 1))
            return true) Q E { s with heap := h1 } := fun M g1 g2 g3 g4 => by
        have body : wpAny (model P w) A (setRelay a (SetTable.grown (es.size + 1))) (fun _ s' => wpAny (model P w) A (pure true) Q E s') E { s with heap := h1 } :=
          relay_key (s := { s with heap := h1 }) ho1 ⟨hex.1, hex.2.1, hex.2.2⟩ rfl hin T2 (by rw [hlen, mk2]; rcases small with ⟨e, e2⟩ | ⟨e, e2⟩ | ⟨e, e2⟩ <;> omega) once1 keys1 led2 g1 g2 g3 (by rw [hlen]; exact g4)
            fun h2 L2 es2 ep2 t3 sb2 R2 pm2 => wpAny_pure (q true h2 L2 es2 ep2 t3 (sb.trans sb2) R2 (fun z => absurd z hm) fun _ => pm2.trans pm)
        first
          | (refine wpAny_bind ?_; exact wp_if_pos (by simp [full, hf]) body)
          | exact wp_if_pos (by simp [full, hf]) (wpAny_bind body)
      rcases small with ⟨_, e2⟩ | ⟨_, e2⟩ | ⟨_, e2⟩
      · exact go 31 (by rw [hl, e2, size_20]) (.inr (.inl rfl)) (by rw [hl, e2, size_20]; decide) (by omega)
      · exact go 127 (by rw [hl, e2, size_76]) (.inr (.inr (.inl rfl))) (by rw [hl, e2, size_76]; decide) (by omega)
      · exact go 511 (by rw [hl, e2, size_308]) (.inr (.inr (.inr rfl))) (by rw [hl, e2, size_308]; decide) (by omega)
    · have fin : Q true { s with heap := h1 } := q true h1 L1 es1 (ep + 1) t2 sb ⟨⟨_, ho1, ⟨hex.1, hex.2.1, hex.2.2⟩, rfl⟩, hin, T2, once1, keys1, led2, by rw [hlen, mk2]; omega⟩ (fun z => absurd z hm) fun _ => pm
      first
        | exact wp_if_neg (by simp [full, hf]) (wpAny_pure fin)
        | (refine wpAny_bind ?_; refine wp_if_neg (by simp [full, hf]) ?_; exact wpAny_pure (wpAny_pure fin))
  have mark : ∀ b : Bool, wpAny (model P w) A (do
      storeSet a es1 (if b = true then t1 else { t1 with plain := false })
      if !false && (if b = true then t1 else { t1 with plain := false } : SetTable).tooFull then setRelay a (SetTable.grown (es.size + 1))
      return true) Q E s := fun b => by
    obtain ⟨c, e⟩ := ifPlain t1 b
    rw [e]
    exact rest c
  by_cases hpl : t1.plain = true
  · first
      | exact wpAny_bind (wp_if_pos hpl (hashBy_key s A 8 k _ _ hx.1 fun b => mark b))
      | exact wp_if_pos hpl (wpAny_bind (hashBy_key s A 8 k _ _ hx.1 fun b => mark b))
  · first
      | exact wpAny_bind (wp_if_neg hpl (wpAny_pure (mark true)))
      | exact wp_if_neg hpl (wpAny_bind (wpAny_pure (mark true)))
      | exact wp_if_neg hpl (mark true)
end
end G
end
section
set_option Elab.async false
set_option linter.all false
set_option maxRecDepth 100000
set_option maxHeartbeats 3200000
/-! S4: set(xs), xs a list of nested keys -/
namespace G
open PySem L2 PyProof.Rows
/-- the set L of the keys ks -/
structure SetIs (ks L : Ks) : Prop where
  sub : ∀ p ∈ L, p ∈ ks
  all : ∀ p ∈ ks, p.2 ∈ L.map (·.2)
theorem SetIs.nil : SetIs [] [] := ⟨fun _ h => h, fun _ h => absurd h List.not_mem_nil⟩
theorem SetIs.snoc {ks L L' : Ks} {x : Addr × NK} (g : SetIs ks L) (c1 : x.2 ∈ L.map (·.2) → L' = L) (c2 : x.2 ∉ L.map (·.2) → L'.Perm (x :: L)) : SetIs (ks ++ [x]) L' := by
  by_cases c : x.2 ∈ L.map (·.2)
  · obtain rfl := c1 c
    refine ⟨fun p hp => List.mem_append_left _ (g.sub p hp), fun p hp => ?_⟩
    rcases List.mem_append.mp hp with z | z
    · exact g.all p z
    · rw [List.mem_singleton.mp z]
      exact c
  · have pm := c2 c
    refine ⟨fun p hp => ?_, fun p hp => ?_⟩
    · rcases List.mem_cons.mp (pm.mem_iff.mp hp) with z | z
      · exact List.mem_append_right _ (by simp [z])
      · exact List.mem_append_left _ (g.sub p z)
    · refine (pm.map (·.2)).mem_iff.mpr ?_
      rw [List.map_cons]
      rcases List.mem_append.mp hp with z | z
      · exact List.mem_cons_of_mem _ (g.all p z)
      · rw [List.mem_singleton.mp z]
        exact List.mem_cons_self
theorem nodup_len {α : Type} [DecidableEq α] : ∀ (l m : List α), l.Nodup → (∀ x ∈ l, x ∈ m) → l.length ≤ m.length
  | [], m, _, _ => Nat.zero_le _
  | x :: l, m, h, f => by
    have h1 := List.nodup_cons.mp h
    have hx : x ∈ m := f x List.mem_cons_self
    have := nodup_len l (m.erase x) h1.2 fun y hy => by
      have ne : y ≠ x := fun e => h1.1 (by rw [← e]; exact hy)
      exact (List.mem_erase_of_ne ne).mpr (f y (List.mem_cons_of_mem _ hy))
    rw [List.length_erase_of_mem hx] at this
    have := List.length_pos_of_mem hx
    simp only [List.length_cons]
    omega
theorem SetIs.few {ks L : Ks} (g : SetIs ks L) (once : (L.map (·.2)).Nodup) : L.length ≤ ks.length := by
  have := nodup_len (L.map (·.2)) (ks.map (·.2)) once fun x hx => by
    obtain ⟨p, hp, rfl⟩ := List.mem_map.mp hx
    exact List.mem_map.mpr ⟨p, g.sub p hp, rfl⟩
  simpa using this
abbrev newSet (w : World) : Obj := { cls := .type "set", dict := none, data := .set #[] 0 (.fresh 0 0 (!w.params.followText "set-order")) }
section
variable {P : Program} {w : World} {A : Around} {E : Value → Shared → Prop} {s : Shared}
theorem setK_new {h : Heap} {a : Addr} (ho : h.get? a = some (newSet w)) : SetK w h a [] #[] 0 (.fresh 0 0 (!w.params.followText "set-order")) where
  at_ := ⟨_, ho, ⟨rfl, rfl, rfl⟩, rfl⟩
  ent := rfl
  tab := ⟨List.Pairwise.nil, rfl, rfl, .inl rfl, fun x hx => absurd hx List.not_mem_nil, fun i h j hi => by simp at hi⟩
  once := List.nodup_nil
  keys := fun p hp => absurd hp List.not_mem_nil
  led := by
    cases e : w.params.followText "set-order"
    · exact .inr rfl
    · exact .inl rfl
  room := by
    show 0 * 5 < 7 * 3
    decide
theorem SetK.keep {h h' : Heap} {a : Addr} {L : Ks} {es : Array (Int × Value)} {ep : Nat} {t : SetTable} (R : SetK w h a L es ep t) (ha : ∀ o, h.get? a = some o → h'.get? a = some o) (hk : ∀ p ∈ L, KeyAt h' p.2 p.1) : SetK w h' a L es ep t := by
  obtain ⟨o, ho, r⟩ := R.at_
  exact ⟨⟨o, ha o ho, r⟩, R.ent, R.tab, R.once, hk, R.led, R.room⟩
/-- the loop of set.update over an iterator that gives the keys in turn -/
theorem update_keys {I : Addr} {fp wr : List Addr} {G : Array GenState → Array GenState → Prop} {n : Nat} {Pv : Nat → Value → Prop} {St : Nat → Shared → Prop} {R : Result → Shared → Prop}
    (W : WalksS P w A.in1 I fp wr G n Pv St) (Z : Addr) (hZ : Z ∉ fp) (ks : Ks) (hn : n = ks.length) (few : ks.length < 306) (val : ∀ i v, Pv i v → ∃ p, ks[i]? = some p ∧ v = .ref p.1)
    (h0 : Heap) (hk : ∀ p ∈ ks, KeyAt h0 p.2 p.1) (z0 : h0.get? Z = none) (w0 : ∀ b ∈ wr, h0.get? b = none) (hu : A.in1.units + 8 < cLine) :
    ∀ (m i : Nat) (s : Shared), i + m = n → St i s → (∀ b o, h0.get? b = some o → s.heap.get? b = some o) → (∃ L es ep t, SetK w s.heap Z L es ep t ∧ SetIs (ks.take i) L) →
      (∀ s' L es ep t, Moved (Z :: wr) G s s' → SetK w s'.heap Z L es ep t → SetIs ks L → (∀ b o, h0.get? b = some o → s'.heap.get? b = some o) → R (.ok (.ret .none)) s') →
      codeAny (model P w) A (.builtin "set.update.loop" ⟨[.ref Z, .ref I], []⟩) R s := by
  have zw : Z ∉ wr := fun h => hZ (W.sub _ h)
  have into : ∀ b ∈ wr, b ∈ Z :: wr := fun b hb => List.mem_cons_of_mem _ hb
  have old : ∀ {s s' : Shared}, Moved wr G s s' → (∀ b o, h0.get? b = some o → s.heap.get? b = some o) → ∀ b o, h0.get? b = some o → s'.heap.get? b = some o := fun mv kp b o e =>
    mv.heap b o (fun hb => by rw [w0 b hb] at e; cases e) (kp b o e)
  have sub : ∀ {i : Nat} {L : Ks}, SetIs (ks.take i) L → ∀ p ∈ L, p ∈ ks := fun g p hp => List.mem_of_mem_take (g.sub p hp)
  intro m
  induction m with
  | zero =>
    rintro i s him hst kp ⟨L, es, ep, t, hS, g⟩ fin
    obtain rfl : i = n := him
    refine codeAny_builtin F.entry_set_update_loop ?_
    rw [Around.under_plainId F.plain_set_update_loop _]
    refine wpAny_bind (m := pyNext (.ref I)) (W.done s _ _ hst fun s' mv => ?_)
    have kp' := old mv kp
    refine wpAny_pure (fin s' L es ep t (mv.mono into) (hS.keep (fun o e => mv.heap Z o zw e) fun p hp => (hk p (sub g p hp)).keep kp') ?_ kp')
    rw [hn, List.take_length] at g
    exact g
  | succ m ih =>
    rintro i s him hst kp ⟨L, es, ep, t, hS, g⟩ fin
    have hi : i < n := by omega
    refine codeAny_builtin F.entry_set_update_loop ?_
    rw [Around.under_plainId F.plain_set_update_loop _]
    refine wpAny_bind (m := pyNext (.ref I)) (W.item i s _ _ hi hst fun v s' hv hst' mv => ?_)
    obtain ⟨p, hp, rfl⟩ := val i v hv
    have kp' := old mv kp
    have hS' : SetK w s'.heap Z L es ep t := hS.keep (fun o e => mv.heap Z o zw e) fun q hq => (hk q (sub g q hq)).keep kp'
    have hx : KeyAt s'.heap p.2 p.1 := (hk p (List.mem_of_getElem? hp)).keep kp'
    have l1 : L.length + 1 < 307 := by
      have := g.few hS.once
      rw [List.length_take] at this
      omega
    refine wpAny_bind (m := holding [Value.ref p.1] (setAdd Z (.ref p.1))) (wpAny_holding ?_)
    unfold setAdd
    refine wpAny_holding (wpAny_bind ((nestedKind P w).pyHash hu hx ?_))
    refine add_key (s := { s' with toks := s'.toks + p.2.draws }) hS' hx hu l1 fun b h' L' es' ep' t' sb hS2 c1 c2 => ?_
    have g' : SetIs (ks.take (i + 1)) L' := by
      rw [List.take_succ, hp]
      exact g.snoc c1 c2
    have kp2 : ∀ b o, h0.get? b = some o → h'.get? b = some o := fun b o e => (sb.2 b fun z => by rw [z, z0] at e; cases e).trans (kp' b o e)
    refine wpAny_pure ⟨plainId_quiet F.plain_set_update_loop _, ih (i + 1) _ (by omega) (W.frame _ s' _ _ hst' (Nat.le_add_right _ _) fun b hb o e => ?_) kp2 ⟨L', es', ep', t', hS2, g'⟩ fun s'' L2 es2 ep2 t2 mv2 hS3 g2 kp3 => ?_⟩
    · exact (sb.2 b fun z => hZ (z ▸ hb)).trans e
    · refine fin s'' L2 es2 ep2 t2 (Moved.trans W.gtrans ((mv.mono into).then_heap (Nat.le_add_right _ _) fun b o hb e => ?_) mv2) hS3 g2 kp3
      exact (sb.2 b fun z => hb (by rw [z]; exact List.mem_cons_self)).trans e
end
end G
end
section
set_option Elab.async false
set_option linter.all false
set_option maxRecDepth 100000
set_option maxHeartbeats 3200000
/-! S5: set(xs) as a call -/
namespace G
open PySem L2 PyProof.Rows
section
variable {P : Program} {w : World} {A : Around} {E : Value → Shared → Prop} {s : Shared}
/-- the set's __init__ over a list of keys -/
theorem init_keys {l : Addr} {its : Array Value} (ks : Ks) {Q : Fin → Shared → Prop} (quiet : A.handled = none) (hl : s.heap.IsList l its) (hit : its.toList = ks.map fun p => Value.ref p.1)
    (hk : ∀ p ∈ ks, KeyAt s.heap p.2 p.1) (few : ks.length < 306) (hu : A.units + 12 < cLine)
    (q : ∀ (h' : Heap) (tk : Nat) L es ep t, SetK w h' s.heap.objs.size L es ep t → SetIs ks L → (∀ b o, s.heap.get? b = some o → h'.get? b = some o) → Q (.done (.ret .none)) { s with heap := h', toks := tk }) :
    wpAny (model P w) A (Builtin.«set.__init__» ⟨[.ref s.heap.objs.size, .ref l], []⟩) Q E { s with heap := s.heap.push (newSet w) } := by
  have sz : its.size = ks.length := by
    have e := congrArg List.length hit
    simpa using e
  have hS : (s.heap.push (newSet w)).get? s.heap.objs.size = some (newSet w) := Heap.get?_push_size _ rfl
  have hT : Shared.TypeIs { s with heap := s.heap.push (newSet w) } (.ref s.heap.objs.size) "set" := ⟨_, hS, rfl⟩
  obtain ⟨ol, hol, hcl, nl, hdl⟩ := hl
  obtain ⟨ocls, odict, odata, oslots⟩ := ol
  simp only at hcl hdl
  subst hcl; subst hdl
  have hlS : l < s.heap.objs.size := Heap.lt_size hol
  have hol' : (s.heap.push (newSet w)).get? l = some { cls := .type "list", dict := odict, data := .seq its nl, slots := oslots } := Heap.get?_push_of_some _ hol
  have hl1 : (s.heap.push (newSet w)).IsList l its := ⟨_, hol', rfl, nl, rfl⟩
  have hsls := F.sub_list_set
  have hslf := F.sub_list_frozenset
  have hne : (Value.type "list" == Value.type "dict") = false := by decide
  unfold Builtin.«set.__init__» noKeywords Builtin.Frozenset.updateFrom
  generalize hPI : pyIter = PI
  wp_walk
  subst hPI
  refine wpAny_pyIter_list hl1 (wpAny_bind (wpAny_runValue ?_))
  have h3 : A.in1.handled = none := by simp [quiet]
  have size1 : (s.heap.push (newSet w)).objs.size = s.heap.objs.size + 1 := Heap.size_push ..
  have ne1 : l ≠ (s.heap.push (newSet w)).objs.size := by rw [size1]; exact Nat.ne_of_lt (Nat.lt_succ_of_lt hlS)
  have fresh : ∀ b, s.heap.objs.size ≤ b → s.heap.get? b = none := fun b hb => by
    cases e : s.heap.get? b with
    | none => rfl
    | some o => exact absurd (Heap.lt_size e) (Nat.not_lt.mpr hb)
  have val : ∀ (i : Nat) (v : Value), its[i]? = some v → ∃ p, ks[i]? = some p ∧ v = .ref p.1 := fun i v hv => by
    rw [← Array.getElem?_toList, hit, List.getElem?_map] at hv
    obtain ⟨p, e1, e2⟩ := Option.map_eq_some_iff.mp hv
    exact ⟨p, e1, e2.symm⟩
  have old : ∀ b o, s.heap.get? b = some o → ((s.heap.push (newSet w)).push { cls := .type "list_iterator", data := .fields #[.ref l, .int 0 0] }).get? b = some o := fun b o e => Heap.get?_push_of_some _ (Heap.get?_push_of_some _ e)
  refine update_keys ((Walks.list h3 _ l ne1 its).toS) s.heap.objs.size (by rw [size1]; simp only [List.mem_cons, List.not_mem_nil, or_false, not_or]; exact ⟨Nat.ne_of_lt (Nat.lt_succ_self _), Nat.ne_of_gt hlS⟩) ks sz few val s.heap hk (fresh _ (Nat.le_refl _))
    (fun b hb => fresh b (by rw [List.mem_singleton.mp hb, size1]; exact Nat.le_succ _)) (by show A.units + 1 + 8 < cLine; omega) its.size 0 _ (Nat.zero_add _) ⟨⟨_, Heap.get?_push_size _ rfl, rfl, rfl⟩, hl1.push _⟩ old
    ⟨[], #[], 0, _, setK_new (Heap.get?_push_of_some _ hS), SetIs.nil⟩ fun z L es ep t mv hS2 g kp => ?_
  obtain ⟨h', g2, d', tk', os'⟩ := z
  obtain rfl : g2 = s.gens := mv.gens
  obtain rfl : d' = s.drawn := mv.drawn
  obtain rfl : os' = s.os := mv.os
  exact wpAny_pure (wpAny_pure (q h' tk' L es ep t hS2 g kp))
theorem call_set_keys {l : Addr} {its : Array Value} (ks : Ks) {Q : Value → Shared → Prop} (quiet : A.handled = none) (hl : s.heap.IsList l its) (hit : its.toList = ks.map fun p => Value.ref p.1)
    (hk : ∀ p ∈ ks, KeyAt s.heap p.2 p.1) (few : ks.length < 306) (hu : A.units + 16 < cLine)
    (q : ∀ (h' : Heap) (tk : Nat) L es ep t, SetK w h' s.heap.objs.size L es ep t → SetIs ks L → (∀ b o, s.heap.get? b = some o → h'.get? b = some o) → Q (.ref s.heap.objs.size) { s with heap := h', toks := tk }) :
    wpAny (model P w) A (call (.type "set") [.ref l]) Q E s := by
  have inSet := F.called_set
  obtain ⟨c, tl, hmro⟩ := inSet.mro
  have m1 := inSet.made
  have m2 := inSet.sub
  have m3 := inSet.notType
  have m4 := inSet.canCreate
  have m5 := F.typeCall_set_1 (.ref l)
  refine wpAny_call (codeAny_of_tree (show wpAny _ _ (callAny (.type "set") _) _ _ _ from ?_))
  refine wpAny_pure ⟨Code.quiet_builtin _ (by decide +kernel), codeAny_builtin F.entry_type_call (by
    rw [Around.under_plain (weight_type_call_type "set" [.ref l] []) rfl]
    repeat (any_goals (first | assumption | wp_step))
    refine codeAny_mono (code_set_led1 (.ref l) (E := E) (Q₁ := fun ob z => ob = .ref s.heap.objs.size ∧ z = { s with heap := s.heap.push (newSet w) }) ⟨rfl, rfl⟩) fun r z hr => ?_
    cases r with
    | error e => exact hr
    | ok fl => cases fl with
      | ret ob =>
        obtain ⟨rfl, rfl⟩ := hr
        have hS : (s.heap.push (newSet w)).get? s.heap.objs.size = some (newSet w) := Heap.get?_push_size _ rfl
        have hT : Shared.TypeIs { s with heap := s.heap.push (newSet w) } (.ref s.heap.objs.size) "set" := ⟨_, hS, rfl⟩
        have i1 := inSet.init.lookup
        have i2 := inSet.init.bind (.ref s.heap.objs.size)
        repeat (any_goals (first | assumption | wp_step))
        refine codeAny_mono (codeAny_call_builtin (R := wants (fun r z => r = .none ∧ ∃ h' tk L es ep t, z = { s with heap := h', toks := tk } ∧ SetK w h' s.heap.objs.size L es ep t ∧ SetIs ks L ∧ ∀ b o, s.heap.get? b = some o → h'.get? b = some o) E)
          inSet.init.plain F.entry_set_init (check_set_init_1 hT ?_)) fun r2 z2 hr2 => ?_
        · exact init_keys (A := A.in1.in1) ks (by simp [quiet]) hl hit hk few (by show A.units + 1 + 1 + 12 < cLine; omega) fun h' tk L es ep t k1 k2 k3 => ⟨rfl, h', tk, L, es, ep, t, rfl, k1, k2, k3⟩
        · cases r2 with
          | error e => exact hr2
          | ok f2 => cases f2 with
            | ret r =>
              obtain ⟨rfl, h', tk, L, es, ep, t, rfl, k1, k2, k3⟩ := hr2
              repeat (any_goals (first | assumption | wp_step))
              exact q _ _ _ _ _ _ k1 k2 k3
            | _ => exact hr2.elim
      | _ => exact hr.elim)⟩
/-- the set's __init__ over a tuple of keys -/
theorem init_keysT {l : Addr} {its : Array Value} (ks : Ks) {Q : Fin → Shared → Prop} (quiet : A.handled = none) (hl : s.heap.IsTuple l its) (hit : its.toList = ks.map fun p => Value.ref p.1)
    (hk : ∀ p ∈ ks, KeyAt s.heap p.2 p.1) (few : ks.length < 306) (hu : A.units + 12 < cLine)
    (q : ∀ (h' : Heap) (tk : Nat) L es ep t, SetK w h' s.heap.objs.size L es ep t → SetIs ks L → (∀ b o, s.heap.get? b = some o → h'.get? b = some o) → Q (.done (.ret .none)) { s with heap := h', toks := tk }) :
    wpAny (model P w) A (Builtin.«set.__init__» ⟨[.ref s.heap.objs.size, .ref l], []⟩) Q E { s with heap := s.heap.push (newSet w) } := by
  have sz : its.size = ks.length := by
    have e := congrArg List.length hit
    simpa using e
  have hS : (s.heap.push (newSet w)).get? s.heap.objs.size = some (newSet w) := Heap.get?_push_size _ rfl
  have hT : Shared.TypeIs { s with heap := s.heap.push (newSet w) } (.ref s.heap.objs.size) "set" := ⟨_, hS, rfl⟩
  obtain ⟨ol, hol, hcl, nl, hdl⟩ := hl
  obtain ⟨ocls, odict, odata, oslots⟩ := ol
  simp only at hcl hdl
  subst hcl; subst hdl
  have hlS : l < s.heap.objs.size := Heap.lt_size hol
  have hol' : (s.heap.push (newSet w)).get? l = some { cls := .type "tuple", dict := odict, data := .seq its nl, slots := oslots } := Heap.get?_push_of_some _ hol
  have hl1 : (s.heap.push (newSet w)).IsTuple l its := ⟨_, hol', rfl, nl, rfl⟩
  have hsls := F.sub_tuple_set
  have hslf := F.sub_tuple_frozenset
  have hne : (Value.type "tuple" == Value.type "dict") = false := by decide
  unfold Builtin.«set.__init__» noKeywords Builtin.Frozenset.updateFrom
  generalize hPI : pyIter = PI
  wp_walk
  subst hPI
  refine wpAny_pyIter_tuple hl1 (wpAny_bind (wpAny_runValue ?_))
  have h3 : A.in1.handled = none := by simp [quiet]
  have size1 : (s.heap.push (newSet w)).objs.size = s.heap.objs.size + 1 := Heap.size_push ..
  have ne1 : l ≠ (s.heap.push (newSet w)).objs.size := by rw [size1]; exact Nat.ne_of_lt (Nat.lt_succ_of_lt hlS)
  have fresh : ∀ b, s.heap.objs.size ≤ b → s.heap.get? b = none := fun b hb => by
    cases e : s.heap.get? b with
    | none => rfl
    | some o => exact absurd (Heap.lt_size e) (Nat.not_lt.mpr hb)
  have val : ∀ (i : Nat) (v : Value), its[i]? = some v → ∃ p, ks[i]? = some p ∧ v = .ref p.1 := fun i v hv => by
    rw [← Array.getElem?_toList, hit, List.getElem?_map] at hv
    obtain ⟨p, e1, e2⟩ := Option.map_eq_some_iff.mp hv
    exact ⟨p, e1, e2.symm⟩
  have old : ∀ b o, s.heap.get? b = some o → ((s.heap.push (newSet w)).push { cls := .type "tuple_iterator", data := .fields #[.ref l, .int 0 0] }).get? b = some o := fun b o e => Heap.get?_push_of_some _ (Heap.get?_push_of_some _ e)
  refine update_keys ((Walks.tuple h3 _ l ne1 its).toS) s.heap.objs.size (by rw [size1]; simp only [List.mem_cons, List.not_mem_nil, or_false, not_or]; exact ⟨Nat.ne_of_lt (Nat.lt_succ_self _), Nat.ne_of_gt hlS⟩) ks sz few val s.heap hk (fresh _ (Nat.le_refl _))
    (fun b hb => fresh b (by rw [List.mem_singleton.mp hb, size1]; exact Nat.le_succ _)) (by show A.units + 1 + 8 < cLine; omega) its.size 0 _ (Nat.zero_add _) ⟨⟨_, Heap.get?_push_size _ rfl, rfl, rfl⟩, hl1.push _⟩ old
    ⟨[], #[], 0, _, setK_new (Heap.get?_push_of_some _ hS), SetIs.nil⟩ fun z L es ep t mv hS2 g kp => ?_
  obtain ⟨h', g2, d', tk', os'⟩ := z
  obtain rfl : g2 = s.gens := mv.gens
  obtain rfl : d' = s.drawn := mv.drawn
  obtain rfl : os' = s.os := mv.os
  exact wpAny_pure (wpAny_pure (q h' tk' L es ep t hS2 g kp))
theorem call_set_keysT {l : Addr} {its : Array Value} (ks : Ks) {Q : Value → Shared → Prop} (quiet : A.handled = none) (hl : s.heap.IsTuple l its) (hit : its.toList = ks.map fun p => Value.ref p.1)
    (hk : ∀ p ∈ ks, KeyAt s.heap p.2 p.1) (few : ks.length < 306) (hu : A.units + 16 < cLine)
    (q : ∀ (h' : Heap) (tk : Nat) L es ep t, SetK w h' s.heap.objs.size L es ep t → SetIs ks L → (∀ b o, s.heap.get? b = some o → h'.get? b = some o) → Q (.ref s.heap.objs.size) { s with heap := h', toks := tk }) :
    wpAny (model P w) A (call (.type "set") [.ref l]) Q E s := by
  have inSet := F.called_set
  obtain ⟨c, tl, hmro⟩ := inSet.mro
  have m1 := inSet.made
  have m2 := inSet.sub
  have m3 := inSet.notType
  have m4 := inSet.canCreate
  have m5 := F.typeCall_set_1 (.ref l)
  refine wpAny_call (codeAny_of_tree (show wpAny _ _ (callAny (.type "set") _) _ _ _ from ?_))
  refine wpAny_pure ⟨Code.quiet_builtin _ (by decide +kernel), codeAny_builtin F.entry_type_call (by
    rw [Around.under_plain (weight_type_call_type "set" [.ref l] []) rfl]
    repeat (any_goals (first | assumption | wp_step))
    refine codeAny_mono (code_set_led1 (.ref l) (E := E) (Q₁ := fun ob z => ob = .ref s.heap.objs.size ∧ z = { s with heap := s.heap.push (newSet w) }) ⟨rfl, rfl⟩) fun r z hr => ?_
    cases r with
    | error e => exact hr
    | ok fl => cases fl with
      | ret ob =>
        obtain ⟨rfl, rfl⟩ := hr
        have hS : (s.heap.push (newSet w)).get? s.heap.objs.size = some (newSet w) := Heap.get?_push_size _ rfl
        have hT : Shared.TypeIs { s with heap := s.heap.push (newSet w) } (.ref s.heap.objs.size) "set" := ⟨_, hS, rfl⟩
        have i1 := inSet.init.lookup
        have i2 := inSet.init.bind (.ref s.heap.objs.size)
        repeat (any_goals (first | assumption | wp_step))
        refine codeAny_mono (codeAny_call_builtin (R := wants (fun r z => r = .none ∧ ∃ h' tk L es ep t, z = { s with heap := h', toks := tk } ∧ SetK w h' s.heap.objs.size L es ep t ∧ SetIs ks L ∧ ∀ b o, s.heap.get? b = some o → h'.get? b = some o) E)
          inSet.init.plain F.entry_set_init (check_set_init_1 hT ?_)) fun r2 z2 hr2 => ?_
        · exact init_keysT (A := A.in1.in1) ks (by simp [quiet]) hl hit hk few (by show A.units + 1 + 1 + 12 < cLine; omega) fun h' tk L es ep t k1 k2 k3 => ⟨rfl, h', tk, L, es, ep, t, rfl, k1, k2, k3⟩
        · cases r2 with
          | error e => exact hr2
          | ok f2 => cases f2 with
            | ret r =>
              obtain ⟨rfl, h', tk, L, es, ep, t, rfl, k1, k2, k3⟩ := hr2
              repeat (any_goals (first | assumption | wp_step))
              exact q _ _ _ _ _ _ k1 k2 k3
            | _ => exact hr2.elim
      | _ => exact hr.elim)⟩
end
end G
end
section
set_option Elab.async false
set_option linter.all false
set_option maxRecDepth 100000
set_option maxHeartbeats 3200000
/-! S6: the order of data by their first difference, as a strict order; how the sort asks for it -/
namespace G
open PySem L2 PyProof.Rows PySem.W
mutual
theorem toks_eq : ∀ (p q : PyData), PyData.eqv p q = true → keyToks p = keyToks q
  | .none, q, h => by cases q <;> simp [PyData.eqv] at h <;> rfl
  | .bool a, q, h => by
    cases q <;> simp [PyData.eqv] at h
    · subst h; rfl
    · simp only [keyToks, ← h]
  | .int i, q, h => by
    cases q <;> simp [PyData.eqv] at h
    · simp only [keyToks, h]
    · subst h; rfl
  | .str x, q, h => by
    cases q <;> simp [PyData.eqv] at h
    subst h; rfl
  | .list xs, q, h => by
    cases q <;> simp only [PyData.eqv, Bool.false_eq_true] at h
    simp only [keyToks]
    exact toks_eqs _ _ h
  | .tuple xs, q, h => by
    cases q <;> simp only [PyData.eqv, Bool.false_eq_true] at h
    simp only [keyToks]
    exact toks_eqs _ _ h
  | .dict _, q, h => by cases q <;> simp [PyData.eqv] at h
theorem toks_eqs : ∀ (xs ys : List PyData), PyData.eqvAll xs ys = true → keyToksAll xs = keyToksAll ys
  | [], [], _ => rfl
  | [], _ :: _, h => by simp [PyData.eqvAll] at h
  | _ :: _, [], h => by simp [PyData.eqvAll] at h
  | x :: xs, y :: ys, h => by
    simp only [PyData.eqvAll, Bool.and_eq_true] at h
    simp only [keyToksAll, toks_eq x y h.1, toks_eqs xs ys h.2]
end
abbrev lx := PyProof.Rows.lexLt itemOrd
mutual
theorem pLt_lex : ∀ (p q : PyData) (b : Bool), pLt p q = some b → PyData.eqv p q = false → ∀ l m, lx (keyToks p ++ l) (keyToks q ++ m) = b
  | .int i, q, b, h, e, l, m => by
    cases q with
    | int j =>
      simp only [pLt, Option.some.injEq] at h
      subst h
      have ne : (Sum.inl i : Int ⊕ List Nat) ≠ Sum.inl j := fun z => by
        injection z with z
        simp [PyData.eqv, z] at e
      exact lex_diff (O := itemOrd) ne
    | _ => simp [pLt] at h
  | .str x, q, b, h, e, l, m => by
    cases q with
    | str y =>
      simp only [pLt, Option.some.injEq] at h
      subst h
      have ne : (Sum.inr x.cps.toList : Int ⊕ List Nat) ≠ Sum.inr y.cps.toList := fun z => by
        injection z with z
        simp [PyData.eqv, PySem.W.str_of_cps z] at e
      exact lex_diff (O := itemOrd) ne
    | _ => simp [pLt] at h
  | .tuple xs, q, b, h, e, l, m => by
    cases q with
    | tuple ys =>
      simp only [pLt] at h
      simp only [PyData.eqv] at e
      simp only [keyToks]
      exact pLts_lex xs ys b h e l m
    | _ => simp [pLt] at h
  | .none, q, b, h, e, l, m => by cases q <;> simp [pLt] at h
  | .bool _, q, b, h, e, l, m => by cases q <;> simp [pLt] at h
  | .list _, q, b, h, e, l, m => by cases q <;> simp [pLt] at h
  | .dict _, q, b, h, e, l, m => by cases q <;> simp [pLt] at h
theorem pLts_lex : ∀ (xs ys : List PyData) (b : Bool), pLts xs ys = some b → PyData.eqvAll xs ys = false → ∀ l m, lx (keyToksAll xs ++ l) (keyToksAll ys ++ m) = b
  | [], [], b, h, e, l, m => by simp [PyData.eqvAll] at e
  | [], y :: ys, b, h, e, l, m => by
    simp only [pLts, Option.some.injEq] at h
    subst h
    exact lex_diff (O := itemOrd) (x := .inl 0) (y := .inl 1) (by simp)
  | x :: xs, [], b, h, e, l, m => by
    simp only [pLts, Option.some.injEq] at h
    subst h
    exact lex_diff (O := itemOrd) (x := .inl 1) (y := .inl 0) (by simp)
  | x :: xs, y :: ys, b, h, e, l, m => by
    simp only [pLts] at h
    simp only [keyToksAll, List.cons_append, List.append_assoc]
    refine (lex_self (O := itemOrd) (Sum.inl 1) _ _).trans ?_
    cases hx : PyData.eqv x y with
    | true =>
      rw [if_pos hx] at h
      simp only [PyData.eqvAll, hx, Bool.true_and] at e
      rw [toks_eq x y hx]
      refine (lex_pre _ _ _).trans ?_
      exact pLts_lex xs ys b h e l m
    | false =>
      rw [hx] at h
      simp only [Bool.false_eq_true, if_false] at h
      exact pLt_lex x y b h hx _ _
end
theorem pLts_irr : ∀ (xs ys : List PyData) (b : Bool), pLts xs ys = some b → PyData.eqvAll xs ys = true → b = false
  | [], [], b, h, _ => by simpa [pLts] using h.symm
  | [], _ :: _, _, _, e => by simp [PyData.eqvAll] at e
  | _ :: _, [], _, _, e => by simp [PyData.eqvAll] at e
  | x :: xs, y :: ys, b, h, e => by
    simp only [PyData.eqvAll, Bool.and_eq_true] at e
    simp only [pLts, if_pos e.1] at h
    exact pLts_irr xs ys b h e.2
theorem pLts_data {xs ys : List PyData} {b : Bool} (h : pLts xs ys = some b) : dataLt (.tuple xs) (.tuple ys) = b := by
  unfold dataLt
  simp only [keyToks]
  cases e : PyData.eqvAll xs ys with
  | true => rw [toks_eqs xs ys e, pLts_irr xs ys b h e]; exact lex_irrefl (O := itemOrd) _
  | false => simpa using pLts_lex xs ys b h e [] []
theorem pLt_data {p q : PyData} {b : Bool} (h : pLt p q = some b) (hn : PyData.eqv p q = false) : dataLt p q = b := by
  unfold dataLt
  simpa using pLt_lex p q b h hn [] []
section
variable {P : Program} {w : World} {A : Around} {s : Shared}
theorem katLex_p {fo fin : Bool} {Q : Bool → Shared → Prop} : ∀ (xs ys : List PyData) (i : Nat) (vs us : List Value) (as bs : List Addr) (b : Bool), ReadsAll s.heap vs xs as → ReadsAll s.heap us ys bs → PyData.canLayAll0 xs = true → PyData.canLayAll0 ys = true →
    A.units + min (PyData.depthAll xs) (PyData.depthAll ys) < cLine → (fo = true → i = 0 → ∀ x r t, xs = x :: r → x ≠ .tuple t) → fin = decide (xs.length < ys.length) → pLts xs ys = some b → Q b s → KatLex P w A fo fin Q (vs.zip us) i s
  | [], [], i, _, _, _, _, b, ra, rb, _, _, _, _, hf, h, q => by
    cases ra
    cases rb
    simp only [pLts, Option.some.injEq] at h
    subst h
    exact kat_nil (by rw [hf]; exact q)
  | [], y :: ys, i, _, _, _, _, b, ra, rb, _, _, _, _, hf, h, q => by
    cases ra
    simp only [pLts, Option.some.injEq] at h
    subst h
    rw [List.zip_nil_left]
    exact kat_nil (by rw [hf]; simpa using q)
  | x :: xs, [], i, _, _, _, _, b, ra, rb, _, _, _, _, hf, h, q => by
    cases rb
    simp only [pLts, Option.some.injEq] at h
    subst h
    rw [List.zip_nil_right]
    exact kat_nil (by rw [hf]; simpa using q)
  | x :: xs, y :: ys, i, _, _, _, _, b, ra, rb, ca, cb, hu, hb, hf, h, q => by
    simp only [PyData.canLayAll0, Bool.and_eq_true] at ca cb
    simp only [pLts] at h
    cases ra with
    | cons r rs =>
      cases rb with
      | cons r' rs' =>
        rw [List.zip_cons_cons]
        refine kat_cons (SeqAt.eqAt_reads x y A s _ _ _ _ r r' ca.1 cb.1 (SeqAt.room_head hu) P w _ _ ?_)
        cases hx : PyData.eqv x y with
        | true =>
          rw [if_pos hx] at h
          exact kat_yes (katLex_p xs ys (i + 1) _ _ _ _ b rs rs' ca.2 cb.2 (SeqAt.room_tail hu) (fun _ hi => absurd hi (Nat.succ_ne_zero i)) (by rw [hf]; simp) h q)
        | false =>
          rw [hx] at h
          simp only [Bool.false_eq_true, if_false] at h
          refine kat_no ?_
          by_cases hbi : (fo && i == 0) = true
          · rw [Bool.and_eq_true] at hbi
            have nt := hb hbi.1 (by simpa using hbi.2) x xs
            have al : alike x y = true := by
              cases x <;> cases y <;> simp [pLt] at h <;> first | rfl | exact absurd rfl (nt _ rfl)
            have nn : x ≠ .none := by
              intro z
              subst z
              cases y <;> simp [pLt] at h
            exact oneLt_alike (fun _ t => nt t rfl) r r' al nn (SeqAt.room_head hu) (by rw [pLt_data h hx]; exact q)
          · rw [Bool.not_eq_true] at hbi
            rw [hbi]
            exact kat_one _ _ (rcLt_p x y A s _ _ _ _ b r r' ca.1 cb.1 (SeqAt.room_head hu) h P w _ _ q)
end
end G
end
section
set_option Elab.async false
set_option linter.all false
set_option maxRecDepth 100000
set_option maxHeartbeats 3200000
/-! S7: sorted(s), s a set of nested keys -/
namespace G
open PySem L2 PyProof.Rows PySem.W
mutual
theorem eqv_key : ∀ (k j : NK), PyData.eqv k.data j.data = NestedKey.beq k j
  | .none, .none => by simp [NestedKey.data, PyData.eqv, NestedKey.beq]
  | .none, .num _ => by simp [NestedKey.data, PyData.eqv, NestedKey.beq]
  | .none, .text _ => by simp [NestedKey.data, PyData.eqv, NestedKey.beq]
  | .none, .tup _ => by simp [NestedKey.data, PyData.eqv, NestedKey.beq]
  | .num a, .none => by simp [NestedKey.data, PyData.eqv, NestedKey.beq]
  | .num a, .num b => by simp [NestedKey.data, PyData.eqv, NestedKey.beq]; rfl
  | .num a, .text _ => by simp [NestedKey.data, PyData.eqv, NestedKey.beq]
  | .num a, .tup _ => by simp [NestedKey.data, PyData.eqv, NestedKey.beq]
  | .text a, .none => by simp [NestedKey.data, PyData.eqv, NestedKey.beq]
  | .text a, .num _ => by simp [NestedKey.data, PyData.eqv, NestedKey.beq]
  | .text a, .text b => by simp [NestedKey.data, PyData.eqv, NestedKey.beq]; rfl
  | .text a, .tup _ => by simp [NestedKey.data, PyData.eqv, NestedKey.beq]
  | .tup a, .none => by simp [NestedKey.data, PyData.eqv, NestedKey.beq]
  | .tup a, .num _ => by simp [NestedKey.data, PyData.eqv, NestedKey.beq]
  | .tup a, .text _ => by simp [NestedKey.data, PyData.eqv, NestedKey.beq]
  | .tup a, .tup b => by
    simp only [NestedKey.data, PyData.eqv, NestedKey.beq]
    exact eqv_keys a b
theorem eqv_keys : ∀ (a b : List NK), PyData.eqvAll (NestedKey.datas a) (NestedKey.datas b) = NestedKey.beqAll a b
  | [], [] => by simp [NestedKey.datas, PyData.eqvAll, NestedKey.beqAll]
  | [], _ :: _ => by simp [NestedKey.datas, PyData.eqvAll, NestedKey.beqAll]
  | _ :: _, [] => by simp [NestedKey.datas, PyData.eqvAll, NestedKey.beqAll]
  | x :: a, y :: b => by simp only [NestedKey.datas, PyData.eqvAll, NestedKey.beqAll, eqv_key x y, eqv_keys a b]
end
theorem eqv_ne {k j : NK} (h : k ≠ j) : PyData.eqv k.data j.data = false := by
  rw [eqv_key]
  cases e : NestedKey.beq k j with
  | false => rfl
  | true => exact absurd (NestedKey.eq_of_beq k j e) h
mutual
theorem eqv_flip : ∀ (p q : PyData), PyData.eqv p q = PyData.eqv q p
  | p, q => by
    cases p with
    | none => cases q <;> simp [PyData.eqv]
    | bool a => cases q <;> simp [PyData.eqv] <;> exact Bool.eq_iff_iff.mpr ⟨fun h => by simpa using (by simpa using h : _ = _).symm, fun h => by simpa using (by simpa using h : _ = _).symm⟩
    | int i => cases q <;> simp [PyData.eqv] <;> exact Bool.eq_iff_iff.mpr ⟨fun h => by simpa using (by simpa using h : _ = _).symm, fun h => by simpa using (by simpa using h : _ = _).symm⟩
    | str x => cases q <;> simp [PyData.eqv] <;> exact Bool.eq_iff_iff.mpr ⟨fun h => by simpa using (by simpa using h : _ = _).symm, fun h => by simpa using (by simpa using h : _ = _).symm⟩
    | list xs => cases q <;> simp only [PyData.eqv]; exact eqvs_flip _ _
    | tuple xs => cases q <;> simp only [PyData.eqv]; exact eqvs_flip _ _
    | dict _ => cases q <;> simp [PyData.eqv]
theorem eqvs_flip : ∀ (xs ys : List PyData), PyData.eqvAll xs ys = PyData.eqvAll ys xs
  | [], [] => rfl
  | [], _ :: _ => by simp [PyData.eqvAll]
  | _ :: _, [] => by simp [PyData.eqvAll]
  | x :: xs, y :: ys => by simp only [PyData.eqvAll, eqv_flip x y, eqvs_flip xs ys]
end
theorem cps_flip (x y : List Nat) (h : x ≠ y) : decide (y < x) = !decide (x < y) := by
  by_cases h1 : x < y
  · have : ¬ y < x := List.lt_asymm h1
    simp [h1, this]
  · have h2 : y ≤ x := List.not_lt.mp h1
    by_cases h3 : y < x
    · simp [h1, h3]
    · exact absurd (List.le_antisymm (List.not_lt.mp h3) h2) h
mutual
theorem pLt_flip : ∀ (p q : PyData) (b : Bool), pLt p q = some b → PyData.eqv p q = false → pLt q p = some (!b)
  | .int i, q, b, h, e => by
    cases q with
    | int j =>
      simp only [pLt, Option.some.injEq] at h ⊢
      subst h
      have : i ≠ j := fun z => by simp [PyData.eqv, z] at e
      by_cases h1 : i < j
      · simp [h1]; omega
      · simp [h1]; omega
    | _ => simp [pLt] at h
  | .str x, q, b, h, e => by
    cases q with
    | str y =>
      simp only [pLt, Option.some.injEq] at h ⊢
      subst h
      exact cps_flip _ _ fun z => by simp [PyData.eqv, PySem.W.str_of_cps z] at e
    | _ => simp [pLt] at h
  | .tuple xs, q, b, h, e => by
    cases q with
    | tuple ys =>
      simp only [pLt, PyData.eqv] at h e ⊢
      exact pLts_flip xs ys b h e
    | _ => simp [pLt] at h
  | .none, q, b, h, e => by cases q <;> simp [pLt] at h
  | .bool _, q, b, h, e => by cases q <;> simp [pLt] at h
  | .list _, q, b, h, e => by cases q <;> simp [pLt] at h
  | .dict _, q, b, h, e => by cases q <;> simp [pLt] at h
theorem pLts_flip : ∀ (xs ys : List PyData) (b : Bool), pLts xs ys = some b → PyData.eqvAll xs ys = false → pLts ys xs = some (!b)
  | [], [], b, h, e => by simp [PyData.eqvAll] at e
  | [], y :: ys, b, h, e => by
    simp only [pLts, Option.some.injEq] at h ⊢
    rw [← h]
    rfl
  | x :: xs, [], b, h, e => by
    simp only [pLts, Option.some.injEq] at h ⊢
    rw [← h]
    rfl
  | x :: xs, y :: ys, b, h, e => by
    simp only [pLts] at h ⊢
    rw [eqv_flip y x]
    cases hx : PyData.eqv x y with
    | true =>
      rw [if_pos hx] at h
      simp only [PyData.eqvAll, hx, Bool.true_and] at e
      rw [if_pos rfl]
      exact pLts_flip xs ys b h e
    | false =>
      rw [hx] at h
      simp only [Bool.false_eq_true, if_false] at h ⊢
      exact pLt_flip x y b h hx
end
theorem swo_data (kd : Value → PyData) : SrtO.Swo fun v u => dataLt (kd v) (kd u) := by
  refine ⟨fun x y h => ?_, fun x y z h1 h2 => ?_⟩
  · cases e : dataLt (kd y) (kd x) with
    | false => rfl
    | true =>
      have := lex_trans (O := itemOrd) _ _ _ h e
      rw [lex_irrefl (O := itemOrd)] at this
      cases this
  · cases e : dataLt (kd z) (kd x) with
    | false => rfl
    | true =>
      rcases lex_negTrans (O := itemOrd) _ (keyToks (kd y)) _ e with z' | z'
      · exact absurd z' (by rw [show lexLt itemOrd (keyToks (kd z)) (keyToks (kd y)) = dataLt (kd z) (kd y) from rfl, h2]; exact Bool.false_ne_true)
      · exact absurd z' (by rw [show lexLt itemOrd (keyToks (kd y)) (keyToks (kd x)) = dataLt (kd y) (kd x) from rfl, h1]; exact Bool.false_ne_true)
mutual
theorem reads_keep {h h' : Heap} (f : ∀ b o, h.get? b = some o → o.cls = .type "tuple" → h'.get? b = some o) : ∀ (k : NK) (v : Value) (as : List Addr), Reads h v k.data as → Reads h' v k.data as
  | .none, _, _, r => by simp only [NestedKey.data] at r ⊢; cases r; exact .none
  | .num i, _, _, r => by simp only [NestedKey.data] at r ⊢; cases r; exact .int _ _
  | .text x, _, _, r => by simp only [NestedKey.data] at r ⊢; cases r; exact .str _ _
  | .tup ks, _, _, r => by
    simp only [NestedKey.data] at r ⊢
    cases r with
    | tuple h1 h2 h3 h4 => exact .tuple (f _ _ h1 h2) h2 h3 (reads_keeps f ks _ _ h4)
theorem reads_keeps {h h' : Heap} (f : ∀ b o, h.get? b = some o → o.cls = .type "tuple" → h'.get? b = some o) : ∀ (ks : List NK) (vs : List Value) (as : List Addr), ReadsAll h vs (NestedKey.datas ks) as → ReadsAll h' vs (NestedKey.datas ks) as
  | [], _, _, r => by simp only [NestedKey.datas] at r ⊢; cases r; exact .nil
  | k :: ks, _, _, r => by
    simp only [NestedKey.datas] at r ⊢
    cases r with
    | cons r1 r2 => exact .cons (reads_keep f k _ _ r1) (reads_keeps f ks _ _ r2)
end
mutual
theorem nested_reads {h : Heap} : ∀ (k : NK) (v : Value) (as : List Addr), Reads h v k.data as → NestedIs h k v
  | .none, _, _, r => by simp only [NestedKey.data] at r; cases r; exact .none
  | .num i, _, _, r => by simp only [NestedKey.data] at r; cases r; exact .int _ _
  | .text x, _, _, r => by simp only [NestedKey.data] at r; cases r; exact .text _ _
  | .tup ks, _, _, r => by
    simp only [NestedKey.data] at r
    cases r with
    | tuple h1 h2 h3 h4 => exact .tup h1 h2 h3 (nested_readss ks _ _ h4)
theorem nested_readss {h : Heap} : ∀ (ks : List NK) (vs : List Value) (as : List Addr), ReadsAll h vs (NestedKey.datas ks) as → NestedAll h ks vs
  | [], _, _, r => by simp only [NestedKey.datas] at r; cases r; exact .nil
  | k :: ks, _, _, r => by
    simp only [NestedKey.datas] at r
    cases r with
    | cons r1 r2 => exact .cons (nested_reads k _ _ r1) (nested_readss ks _ _ r2)
end
end G
end
section
set_option Elab.async false
set_option linter.all false
set_option maxRecDepth 100000
set_option maxHeartbeats 3200000
/-! S8: sorted(s), s a set of nested keys -/
namespace G
open PySem L2 PyProof.Rows PySem.W
/-- keys whose first items are all tuples, or all numbers -/
def Formed (L : Ks) : Prop := (∀ p ∈ L, ∃ x r, p.2 = .tup (.tup x :: r)) ∨ ∀ p ∈ L, ∃ i r, p.2 = .tup (.num i :: r)
/-- keys that can be read and compared -/
structure Sortd (h : Heap) (L : Ks) : Prop where
  form : Formed L
  rd : ∀ p ∈ L, ∃ as, Reads h (.ref p.1) p.2.data as
  ok : ∀ p ∈ L, p.2.data.canLay0 = true
  dp : ∀ p ∈ L, p.2.data.depth ≤ 8
  cmp : ∀ p ∈ L, ∀ q ∈ L, ∃ b, pLt p.2.data q.2.data = some b
theorem Sortd.keep {h h' : Heap} {L : Ks} (x : Sortd h L) (f : ∀ b o, h.get? b = some o → o.cls = .type "tuple" → h'.get? b = some o) : Sortd h' L :=
  ⟨x.form, fun p hp => (x.rd p hp).imp fun as r => reads_keep f p.2 _ as r, x.ok, x.dp, x.cmp⟩
open Classical in
noncomputable def keyOf (L : Ks) (v : Value) : PyData := if h : ∃ p, p ∈ L ∧ v = .ref p.1 then h.choose.2.data else .none
theorem keyOf_at {h : Heap} {L : Ks} (x : Sortd h L) {p : Addr × NK} (hp : p ∈ L) : keyOf L (.ref p.1) = p.2.data := by
  unfold keyOf
  have ex : ∃ q, q ∈ L ∧ Value.ref p.1 = .ref q.1 := ⟨p, hp, rfl⟩
  rw [dif_pos ex]
  obtain ⟨h1, h2⟩ := ex.choose_spec
  injection h2 with h2
  obtain ⟨as, r1⟩ := x.rd p hp
  obtain ⟨bs, r2⟩ := x.rd _ h1
  rw [← h2] at r2
  exact PySem.SeqAt.Reads.unique _ _ _ _ _ (x.ok _ h1) r2 r1
section
variable {P : Program} {w : World} {A : Around} {E : Value → Shared → Prop} {s : Shared}
theorem Sortd.kat {L : Ks} (x : Sortd s.heap L) {fo : Bool} (hfo : fo = true → ∀ p ∈ L, ∃ i r, p.2 = .tup (.num i :: r)) (hu : A.units + 8 < cLine) {vs : List Value} (hv : ∀ v ∈ vs, ∃ p ∈ L, v = .ref p.1) :
    SrtO.Cmp P w A s (tuples' fo) (fun p => p.1 ∈ vs) (SrtO.lt2 fun v u => dataLt (keyOf L v) (keyOf L u)) := by
  intro v u hm hm'
  obtain ⟨p, hp, e⟩ := hv _ hm
  obtain ⟨q, hq, e'⟩ := hv _ hm'
  show wpAny (model P w) A (keyLt' (tuples' fo) v.1 u.1) (fun r s' => s' = s ∧ r = dataLt (keyOf L v.1) (keyOf L u.1)) (fun _ _ => False) s
  rw [e, e', keyOf_at x hp, keyOf_at x hq]
  have tupOf : ∀ p ∈ L, ∃ ks, p.2 = .tup ks := fun p hp => by
    rcases x.form with f | f
    · obtain ⟨_, _, e⟩ := f p hp; exact ⟨_, e⟩
    · obtain ⟨_, _, e⟩ := f p hp; exact ⟨_, e⟩
  obtain ⟨ks, ek⟩ := tupOf p hp
  obtain ⟨js, ej⟩ := tupOf q hq
  obtain ⟨as, r1⟩ := x.rd p hp
  obtain ⟨bs, r2⟩ := x.rd q hq
  have c1 := x.ok p hp
  have c2 := x.ok q hq
  have d1 := x.dp p hp
  obtain ⟨b, hb⟩ := x.cmp p hp q hq
  have ff : fo = true → ∃ i r, ks = .num i :: r := fun h => by
    obtain ⟨i, r, e⟩ := hfo h p hp
    rw [ek] at e
    injection e with e
    exact ⟨i, r, e⟩
  rw [ek] at r1 c1 d1 hb ⊢
  rw [ej] at r2 c2 hb ⊢
  simp only [NestedKey.data, PyData.canLay0, PyData.depth, pLt] at r1 r2 c1 c2 d1 hb ⊢
  rw [pLts_data hb]
  cases r1 with
  | @tuple a o xs n _ as₁ h1 h2 h3 h4 =>
    cases r2 with
    | @tuple a' o' xs' n' _ bs₁ k1 k2 k3 k4 =>
      have n1 : xs.size = (NestedKey.datas ks).length := PySem.W.readsAll_len h4
      have n2 : xs'.size = (NestedKey.datas js).length := PySem.W.readsAll_len k4
      refine kat_lt h1 h3 k1 k3 ?_
      refine katLex_p _ _ 0 _ _ _ _ b h4 k4 c1 c2 (by omega) (fun h _ y r t e => ?_) (by rw [n1, n2]) hb ⟨rfl, rfl⟩
      obtain ⟨i, r', rfl⟩ := ff h
      simp only [NestedKey.datas, NestedKey.data, List.cons.injEq] at e
      rw [← e.1]
      simp
theorem Sortd.firsts {L M : Ks} (x : Sortd s.heap L) (hM : ∀ p ∈ M, p ∈ L) : ∃ fs, KatTups s.heap (M.map fun p => Value.ref p.1) fs ∧ fs.length = M.length ∧
    ((∀ f ∈ fs, ∃ a o, f = .ref a ∧ s.heap.get? a = some o ∧ o.cls = .type "tuple") ∧ (∀ p ∈ L, ∃ x r, p.2 = .tup (.tup x :: r)) ∨ (∀ f ∈ fs, ∃ i t, f = .int i t) ∧ ∀ p ∈ L, ∃ i r, p.2 = .tup (.num i :: r)) := by
  have step : ∀ p ∈ L, ∃ k r, p.2 = .tup (k :: r) ∧ ∃ a o xs n f, Value.ref p.1 = .ref a ∧ s.heap.get? a = some o ∧ o.cls = .type "tuple" ∧ o.data = .seq xs n ∧ xs[0]? = some f ∧ ∃ as, Reads s.heap f k.data as := by
    intro p hp
    obtain ⟨k, r, e⟩ : ∃ k r, p.2 = .tup (k :: r) := by
      rcases x.form with f | f
      · obtain ⟨_, _, e⟩ := f p hp; exact ⟨_, _, e⟩
      · obtain ⟨_, _, e⟩ := f p hp; exact ⟨_, _, e⟩
    obtain ⟨as, rd⟩ := x.rd p hp
    rw [e] at rd
    simp only [NestedKey.data, NestedKey.datas] at rd
    cases rd with
    | @tuple a o xs n _ as₁ h1 h2 h3 h4 =>
      obtain ⟨f, tl, ex⟩ : ∃ f tl, xs.toList = f :: tl := by
        cases hx : xs.toList with
        | nil => rw [hx] at h4; cases h4
        | cons f tl => exact ⟨f, tl, rfl⟩
      rw [ex] at h4
      cases h4 with
      | cons r1 r2 => exact ⟨k, r, e, _, o, xs, n, f, rfl, h1, h2, h3, by rw [← Array.getElem?_toList, ex]; rfl, _, r1⟩
  rcases x.form with ft | fi
  · have : ∀ M : Ks, (∀ p ∈ M, p ∈ L) → ∃ fs, KatTups s.heap (M.map fun p => Value.ref p.1) fs ∧ fs.length = M.length ∧ ∀ f ∈ fs, ∃ a o, f = .ref a ∧ s.heap.get? a = some o ∧ o.cls = .type "tuple" := by
      intro M
      induction M with
      | nil => exact fun _ => ⟨[], KatTups.nil, rfl, fun f hf => absurd hf List.not_mem_nil⟩
      | cons p M ih =>
        intro hM
        obtain ⟨fs, h1, h2, h3⟩ := ih fun q hq => hM q (List.mem_cons_of_mem _ hq)
        obtain ⟨k, r, e, a, o, xs, n, f, ea, ho, hc, hd, hf, as, rd⟩ := step p (hM p List.mem_cons_self)
        injection ea with ea
        rw [← ea] at ho
        refine ⟨f :: fs, KatTups.cons ho hc hd hf h1, by simp [h2], fun g hg => ?_⟩
        rcases List.mem_cons.mp hg with z | z
        · subst z
          obtain ⟨y, r', e2⟩ := ft p (hM p List.mem_cons_self)
          rw [e] at e2
          injection e2 with e2
          injection e2 with e2 _
          subst e2
          simp only [NestedKey.data] at rd
          cases rd with
          | tuple g1 g2 g3 g4 => exact ⟨_, _, rfl, g1, g2⟩
        · exact h3 g z
    obtain ⟨fs, h1, h2, h3⟩ := this M hM
    exact ⟨fs, h1, h2, .inl ⟨h3, ft⟩⟩
  · have : ∀ M : Ks, (∀ p ∈ M, p ∈ L) → ∃ fs, KatTups s.heap (M.map fun p => Value.ref p.1) fs ∧ fs.length = M.length ∧ ∀ f ∈ fs, ∃ i t, f = .int i t := by
      intro M
      induction M with
      | nil => exact fun _ => ⟨[], KatTups.nil, rfl, fun f hf => absurd hf List.not_mem_nil⟩
      | cons p M ih =>
        intro hM
        obtain ⟨fs, h1, h2, h3⟩ := ih fun q hq => hM q (List.mem_cons_of_mem _ hq)
        obtain ⟨k, r, e, a, o, xs, n, f, ea, ho, hc, hd, hf, as, rd⟩ := step p (hM p List.mem_cons_self)
        injection ea with ea
        rw [← ea] at ho
        refine ⟨f :: fs, KatTups.cons ho hc hd hf h1, by simp [h2], fun g hg => ?_⟩
        rcases List.mem_cons.mp hg with z | z
        · subst z
          obtain ⟨y, r', e2⟩ := fi p (hM p List.mem_cons_self)
          rw [e] at e2
          injection e2 with e2
          injection e2 with e2 _
          subst e2
          simp only [NestedKey.data] at rd
          cases rd with
          | int _ t => exact ⟨_, t, rfl⟩
        · exact h3 g z
    obtain ⟨fs, h1, h2, h3⟩ := this M hM
    exact ⟨fs, h1, h2, .inr ⟨h3, fi⟩⟩
theorem Sortd.sortable {L M : Ks} {a : Addr} (x : Sortd s.heap L) (hM : ∀ p ∈ M, p ∈ L) (h0 : 0 < M.length) (ha : ∀ o, s.heap.get? a = some o → o.cls ≠ .type "tuple") (hu : A.units + 8 < cLine) :
    SrtO.SortableO P w A s a (M.map fun p => Value.ref p.1) fun v u => dataLt (keyOf L v) (keyOf L u) := by
  intro h' keep
  have x' : Sortd ({ s with heap := h' } : Shared).heap L := x.keep fun b o e c => keep b o (fun z => by subst z; exact ha o e c) e
  obtain ⟨fs, h1, h2, h3⟩ := Sortd.firsts (s := { s with heap := h' }) x' hM
  have hv : ∀ v ∈ M.map (fun p => Value.ref p.1), ∃ p ∈ L, v = .ref p.1 := fun v hv => by
    obtain ⟨p, hp, rfl⟩ := List.mem_map.mp hv
    exact ⟨p, hM p hp, rfl⟩
  rcases h3 with ⟨h3, _⟩ | ⟨h3, fi⟩
  · refine ⟨tuples' false, fun Q E hq => ?_, Sortd.kat (s := { s with heap := h' }) x' (fun z => absurd z Bool.false_ne_true) hu hv⟩
    refine PySem.W.kat_kind (T := .type "tuple") h1 (by omega) (fun f hf => ?_) (by rfl) ?_
    · obtain ⟨b, o, rfl, g1, g2⟩ := h3 f hf
      rw [← g2]
      exact (PySem.W.Looks.ld g1).andThen .now
    · exact hq
  · refine ⟨tuples' true, fun Q E hq => ?_, Sortd.kat (s := { s with heap := h' }) x' (fun _ => fi) hu hv⟩
    refine PySem.W.kat_kind (T := .type "int") h1 (by omega) (fun f hf => ?_) (by rfl) ?_
    · obtain ⟨i, t, rfl⟩ := h3 f hf
      exact PySem.W.Looks.now
    · exact hq
theorem sorted_set_keys {a : Addr} {L : Ks} {es : Array (Int × Value)} {ep : Nat} {t : SetTable} {Q : Value → Shared → Prop} (R : SetK w s.heap a L es ep t) (quiet : A.handled = none) (hu : A.units + 16 < cLine) (few : L.length < 307) (x : Sortd s.heap L)
    (q : ∀ s' p (out : Array Value) (c : Nat) (M : Ks), (∀ b o, s.heap.get? b = some o → s'.heap.get? b = some o) → s'.gens = s.gens → s'.os = s.os → s.heap.objs.size ≤ p → s'.heap.get? p = some (seqObj "list" out c) → out.toList = M.map (fun p => Value.ref p.1) →
      (∀ p, p ∈ M ↔ p ∈ L) → M.length ≤ L.length → M.Pairwise (fun p r => dataLt p.2.data r.2.data = true) → Q (.ref p) s') :
    wpAny (model P w) A (call (.builtin "sorted") [.ref a]) Q E s := by
  obtain ⟨o, ho, hex, hd⟩ := R.at_
  refine Calls.call_function_entry kind_sorted plain_sorted entry_sorted (args_sorted1 _) ?_
  unfold Builtin.«sorted»
  refine wpAny_bind (m := checkCount "sorted" 1 1 _) (wpAny_pure (wpAny_bind (collect_set (A := A.in1) quiet ⟨o, ho, hex.1, hd⟩ R.fits (by rw [ents_len R.ent]; unfold scanBound; omega) R.tab.ris R.led fun s1 vs k1 hz g1 o1 pm => ?_)))
  have hes : es.toList.map (·.2) = L.map fun p => Value.ref p.1 := by
    rw [R.ent, ents, List.map_map]
    rfl
  rw [hes] at pm
  have refs : ∀ us : List Value, (∀ v ∈ us, ∃ p ∈ L, v = Value.ref p.1) → ∃ M : Ks, us = M.map (fun p => Value.ref p.1) ∧ ∀ p ∈ M, p ∈ L := by
    intro us
    induction us with
    | nil => exact fun _ => ⟨[], rfl, fun _ h => absurd h List.not_mem_nil⟩
    | cons v us ih =>
      intro hv
      obtain ⟨p, hp, rfl⟩ := hv v List.mem_cons_self
      obtain ⟨M, rfl, hM⟩ := ih fun u hu => hv u (List.mem_cons_of_mem _ hu)
      exact ⟨p :: M, rfl, fun r hr => (List.mem_cons.mp hr).elim (fun z => z ▸ hp) (hM r)⟩
  have one : ∀ p ∈ L, ∀ r ∈ L, p.1 = r.1 → p = r := fun p hp r hr e => Prod.ext e (KeyAt.inj (R.keys p hp) (by rw [e]; exact R.keys r hr))
  have back : ∀ M : Ks, (∀ p ∈ M, p ∈ L) → (M.map fun p => Value.ref p.1).Perm (L.map fun p => Value.ref p.1) → ∀ p, p ∈ M ↔ p ∈ L := fun M hM pM p => ⟨hM p, fun hp => by
    obtain ⟨r, hr, e⟩ := List.mem_map.mp (pM.mem_iff.mpr (List.mem_map.mpr ⟨p, hp, rfl⟩))
    injection e with e
    rw [← one r (hM r hr) p hp e]
    exact hr⟩
  obtain ⟨M0, rfl, hM0⟩ := refs vs fun v hv => by
    obtain ⟨p, hp, e⟩ := List.mem_map.mp (pm.mem_iff.mp hv)
    exact ⟨p, hp, e.symm⟩
  have len0 : M0.length = L.length := by simpa using pm.length_eq
  have hz0 : (M0.map fun p => Value.ref p.1).length ≤ sizeLine := by rw [List.length_map, sizeLine_eq]; omega
  refine wpAny_bind (wpAny_newList ?_ hz0)
  have hoL : (s1.heap.push (seqObj "list" (M0.map fun p => Value.ref p.1).toArray 0)).get? s1.heap.objs.size = some (seqObj "list" (M0.map fun p => Value.ref p.1).toArray 0) := Heap.get?_push_size _ rfl
  have x1 : Sortd ({ s1 with heap := s1.heap.push (seqObj "list" (M0.map fun p => Value.ref p.1).toArray 0) } : Shared).heap L := x.keep fun b o e _ => Heap.get?_push_of_some _ (k1 b o e)
  refine wpAny_bind (wpAny_holding (wpAny_call_entry slot_list_sort ⟨_, hoL, rfl⟩ entry_list_sort (SrtO.list_sort_ord (s := { s1 with heap := s1.heap.push (seqObj "list" (M0.map fun p => Value.ref p.1).toArray 0) }) (swo_data (keyOf L)) hoL hz0
    (fun h2 => x1.sortable hM0 (by rw [List.length_map] at h2; omega) (fun o e => by
      have e' : some o = some (seqObj "list" (M0.map fun p => Value.ref p.1).toArray 0) := e.symm.trans hoL
      cases e'
      intro c
      exact absurd (Value.type.inj c) (by decide)) (by show A.units + 1 + 1 + 8 < cLine; omega)) fun out hs hb => ⟨_, rfl, ?_⟩) (args_list_sort _)))
  have pout : out.Perm (L.map fun p => Value.ref p.1) := hb.perm.trans pm
  obtain ⟨M, rfl, hM⟩ := refs out fun v hv => by
    obtain ⟨p, hp, e⟩ := List.mem_map.mp (pout.mem_iff.mp hv)
    exact ⟨p, hp, e.symm⟩
  have lenM : M.length = L.length := by simpa using pout.length_eq
  obtain ⟨c, hc⟩ := sortedHeap_at (vs := M0.map fun p => Value.ref p.1) (out := (M.map fun p => Value.ref p.1).toArray) hoL
  have nd : M.Nodup := by
    have nL : (L.map fun p => Value.ref p.1).Nodup := by
      have nL1 : L.Nodup := List.Pairwise.of_map (·.2) (fun _ _ h e => h (congrArg _ e)) R.once
      refine List.pairwise_map.mpr (List.Pairwise.imp_of_mem (fun {p r} hp hr hne e => ?_) nL1)
      injection e with e
      exact hne (one p hp r hr e)
    exact List.Pairwise.of_map (fun p : Addr × NK => Value.ref p.1) (fun p r h e => h (by rw [e])) (pout.nodup_iff.mpr nL)
  have asc : M.Pairwise fun p r => dataLt p.2.data r.2.data = true := by
    have h1 := List.pairwise_map.mp hs
    refine List.Pairwise.imp_of_mem (fun {p r} hp hr hpr => ?_) (h1.and nd)
    obtain ⟨hle, hne⟩ := hpr
    have hle' : dataLt (keyOf L (.ref r.1)) (keyOf L (.ref p.1)) = false := hle
    rw [keyOf_at x1 (hM r hr), keyOf_at x1 (hM p hp)] at hle'
    have nk : p.2 ≠ r.2 := fun e => hne (by
      have nL1 := R.once
      have : ∀ (L : Ks), (L.map (·.2)).Nodup → p ∈ L → r ∈ L → p.2 = r.2 → p = r := by
        intro L
        induction L with
        | nil => intro _ h; exact absurd h List.not_mem_nil
        | cons y L ih =>
          intro hn h1 h2 e
          rw [List.map_cons] at hn
          obtain ⟨n1, n2⟩ := List.nodup_cons.mp hn
          rcases List.mem_cons.mp h1 with z1 | z1
          · rcases List.mem_cons.mp h2 with z2 | z2
            · rw [z1, z2]
            · exact absurd (List.mem_map.mpr ⟨r, z2, by rw [← e, z1]⟩) n1
          · rcases List.mem_cons.mp h2 with z2 | z2
            · exact absurd (List.mem_map.mpr ⟨p, z1, by rw [e, z2]⟩) n1
            · exact ih n2 z1 z2 e
      exact this L nL1 (hM p hp) (hM r hr) e)
    have en := eqv_ne nk
    obtain ⟨b, hb'⟩ := x.cmp p (hM p hp) r (hM r hr)
    have h2 := pLt_flip _ _ b hb' en
    rw [pLt_data h2 (by rw [eqv_flip]; exact en)] at hle'
    rw [pLt_data hb' en]
    cases b
    · exact absurd hle' (by decide)
    · rfl
  refine wpAny_pure ⟨_, rfl, q _ s1.heap.objs.size _ c M (fun b u e => ?_) g1 o1 hz hc (by simp) (back M hM pout) (Nat.le_of_eq lenM) asc⟩
  have e1 := k1 b u e
  have hlt := Heap.lt_size e1
  show (sortedHeap (s1.heap.push _) s1.heap.objs.size _ _).get? b = some u
  rw [sortedHeap_old (Nat.ne_of_lt hlt) (by rw [size_push']; exact Nat.lt_succ_of_lt hlt)]
  exact Heap.get?_push_of_some _ e1
end
end G
end
section
set_option Elab.async false
set_option linter.all false
set_option maxRecDepth 100000
set_option maxHeartbeats 3200000
/-! S9: set(xs) and sorted(s) as rules of the layer; sorted(set(xs)) over data -/
namespace G
open PySem L2 PyProof.Rows PySem.W
/-- the set at a, without its keys' own objects -/
def SetK0 (w : World) (h : Heap) (a : Addr) (L : Ks) : Prop := ∃ es ep t, (∃ o, h.get? a = some o ∧ o.ExactSet ∧ o.data = .set es ep t) ∧ es.toList = ents w L ∧ TabG t (hsh w L) ∧ (L.map (·.2)).Nodup ∧ (w.params.followText "set-order" = true ∨ t.led = true) ∧ L.length * 5 < t.mask * 3
def SetKO (w : World) (a : Addr) (L : Ks) : HO := .ext fun h => SetK0 w h a L
theorem SetK.k0 {w : World} {h : Heap} {a : Addr} {L : Ks} {es : Array (Int × Value)} {ep : Nat} {t : SetTable} (R : SetK w h a L es ep t) : SetK0 w h a L := ⟨es, ep, t, R.at_, R.ent, R.tab, R.once, R.led, R.room⟩
theorem setKO_new {P : Program} {w : World} {H : Hp} {h : Heap} {a : Addr} {L : Ks} (R : SetK0 w h a L) : ObjOk P w H h a (SetKO w a L) := by
  have ⟨es, ep, t, ⟨o, ho, r⟩, q⟩ := R
  refine ⟨R, ⟨o, ho⟩, fun h1 h2 p k => ?_⟩
  have ⟨es', ep', t', ⟨o', ho', r'⟩, q'⟩ := p
  exact ⟨es', ep', t', ⟨o', k o' ho', r'⟩, q'⟩
theorem ks_vals : ∀ {ks : Ks} {us : List Value}, Vals (ks.map fun p => V.ref p.1) us → us = ks.map fun p => Value.ref p.1
  | [], _, .nil => rfl
  | p :: ks, _, .cons r t => by
    cases r
    rw [ks_vals t]
    rfl
theorem vals_ks : ∀ (ks : Ks), Vals (ks.map fun p => V.ref p.1) (ks.map fun p => Value.ref p.1)
  | [] => .nil
  | _ :: ks => .cons rfl (vals_ks ks)
section
variable {X : Cx}
def rSetK (K : PySem.W.Frag) (w : World) : List V → Hp → VK → Prop := fun xs H Q => ∃ (l : Addr) (ks : Ks), xs = [V.ref l] ∧ (SqL K H l (ks.map fun p => V.ref p.1) ∨ SqT K H l (ks.map fun p => V.ref p.1)) ∧ (∀ p ∈ ks, Dp K H (.ref p.1) p.2.data) ∧ (∀ p ∈ ks, p.2.depth ≤ 8) ∧ ks.length < 306 ∧
  ∀ a L, H a = none → SetIs ks L → L.length ≤ ks.length → Q (.ref a) (upd H a (SetKO w a L))
theorem cr_setK (hc : X.calm = true) (hu : X.A.units + 64 < cLine) : CallR X (.type "set") (rSetK X.K X.w) := by
  intro pins s σ H xs us Q I r h
  obtain ⟨l, ks, rfl, hl, hk, hd, hf, q⟩ := h
  rw [Vals.ref1 r]
  have hn : H s.heap.objs.size = none := I.hok.fresh (Nat.le_refl _)
  rcases hl with hl | hl
  · obtain ⟨its, rv, pl, hz⟩ := I.list hl
    refine call_set_keys (P := X.prog) (w := X.w) ks (I.ok.hd hc) pl.isList (by simpa using ks_vals rv) (fun p hp => ?_) hf (by omega) fun h' tk L es ep t R g k => ?_
    · obtain ⟨as, rd⟩ := Dp.reads I _ _ _ (hk p hp) rfl
      exact ⟨nested_reads _ _ _ rd, hd p hp⟩
    · exact ⟨.ref s.heap.objs.size, upd H s.heap.objs.size (SetKO X.w s.heap.objs.size L), I.laid (t' := tk) k (Nat.le_refl _) (setKO_new R.k0), rfl, q _ L hn g (g.few R.once)⟩
  obtain ⟨its, rv, pl, hz⟩ := I.tuple hl
  refine call_set_keysT (P := X.prog) (w := X.w) ks (I.ok.hd hc) (show s.heap.IsTuple l its.toArray from pl) (by simpa using ks_vals rv) (fun p hp => ?_) hf (by omega) fun h' tk L es ep t R g k => ?_
  · obtain ⟨as, rd⟩ := Dp.reads I _ _ _ (hk p hp) rfl
    exact ⟨nested_reads _ _ _ rd, hd p hp⟩
  · exact ⟨.ref s.heap.objs.size, upd H s.heap.objs.size (SetKO X.w s.heap.objs.size L), I.laid (t' := tk) k (Nat.le_refl _) (setKO_new R.k0), rfl, q _ L hn g (g.few R.once)⟩
def rSortK (K : PySem.W.Frag) (w : World) : List V → Hp → VK → Prop := fun vs H Q => ∃ (a : Addr) (L : Ks), vs = [V.ref a] ∧ H a = some (SetKO w a L) ∧ (∀ p ∈ L, Dp K H (.ref p.1) p.2.data) ∧ Formed L ∧ (∀ p ∈ L, p.2.data.canLay0 = true) ∧ (∀ p ∈ L, p.2.data.depth ≤ 8 ∧ p.2.depth ≤ 8) ∧
  (∀ p ∈ L, ∀ r ∈ L, ∃ b, pLt p.2.data r.2.data = some b) ∧ L.length < 307 ∧
  ∀ (M : Ks) (p : Addr), (∀ r, r ∈ M ↔ r ∈ L) → M.Pairwise (fun p r => dataLt p.2.data r.2.data = true) → H p = none → Q (.ref p) (upd H p (.lst (M.map fun r => V.ref r.1)))
theorem cr_sortK (hc : X.calm = true) (hu : X.A.units + 64 < cLine) : CallR X (.builtin "sorted") (rSortK X.K X.w) := by
  intro pins s σ H vs us Q I r h
  obtain ⟨a, L, rfl, ha, hk, hf, hok, hd, hcmp, few, q⟩ := h
  have R0 : SetK0 X.w s.heap a L := (I.hok a _ ha).1
  obtain ⟨es, ep, t, b1, b2, b3, b4, b5, b6⟩ := R0
  have rd : ∀ p ∈ L, ∃ as, Reads s.heap (.ref p.1) p.2.data as := fun p hp => Dp.reads I _ _ _ (hk p hp) rfl
  have R : SetK X.w s.heap a L es ep t := ⟨b1, b2, b3, b4, fun p hp => by
    obtain ⟨as, r⟩ := rd p hp
    exact ⟨nested_reads _ _ _ r, (hd p hp).2⟩, b5, b6⟩
  rw [Vals.ref1 r]
  refine sorted_set_keys R (I.ok.hd hc) (by omega) few ⟨hf, rd, hok, fun p hp => (hd p hp).1, hcmp⟩ fun s' p out c M k g o hp hg hout mem len asc => ?_
  have hlen : (M.map fun r => V.ref r.1).length ≤ sizeLine := by rw [List.length_map, sizeLine_eq]; omega
  have hn : H p = none := I.hok.fresh hp
  have hv : Vals (M.map fun r => V.ref r.1) out.toList := by rw [hout]; exact vals_ks M
  have J : Inv X pins σ (upd H p (.lst (M.map fun r => V.ref r.1))) { s with heap := s'.heap, gens := s'.gens, drawn := s'.drawn, toks := s'.toks } :=
    I.call (ch := []) (Un.laid k hp hn) (I.hok.laid k hp ⟨hlen, out.toList, c, hv, hg⟩) (by rw [g]; exact I.bare) (fun _ z => nomatch z)
  have e : s' = { s with heap := s'.heap, gens := s'.gens, drawn := s'.drawn, toks := s'.toks } := by
    cases s'
    cases s
    cases o
    rfl
  rw [e]
  exact ⟨.ref p, _, J, rfl, q M p mem asc hn⟩
end
/-! ### over data -/
mutual
def nkD : D → Option NK
  | .int i => some (.num i)
  | .str x => some (.text x)
  | .tup ds => (nkDs ds).map .tup
  | _ => none
def nkDs : List D → Option (List NK)
  | [] => some []
  | d :: r => match nkD d, nkDs r with
    | some k, some ks => some (k :: ks)
    | _, _ => none
end
mutual
def dOf : NK → D
  | .none => .non
  | .num i => .int i
  | .text x => .str x
  | .tup ks => .tup (dOfs ks)
def dOfs : List NK → List D
  | [] => []
  | k :: r => dOf k :: dOfs r
end
mutual
theorem nkD_dOf : ∀ (d : D) (k : NK), nkD d = some k → d = dOf k ∧ pd d = some k.data
  | .int i, k, h => by
    simp only [nkD] at h
    cases h
    exact ⟨by simp only [dOf], by simp only [pd, NestedKey.data]⟩
  | .str i, k, h => by
    simp only [nkD] at h
    cases h
    exact ⟨by simp only [dOf], by simp only [pd, NestedKey.data]⟩
  | .tup ds, k, h => by
    simp only [nkD] at h
    obtain ⟨ks, h1, rfl⟩ := Option.map_eq_some_iff.mp h
    obtain ⟨e1, e2⟩ := nkDs_dOfs ds ks h1
    exact ⟨by simp only [dOf, e1], by simp only [pd, NestedKey.data, e2, Option.map_some]⟩
  | .non, k, h => by simp [nkD] at h
  | .bl _, k, h => by simp [nkD] at h
  | .lst _, k, h => by simp [nkD] at h
  | .dic _ _, k, h => by simp [nkD] at h
  | .ins _ _ _, k, h => by simp [nkD] at h
  | .ref _, k, h => by simp [nkD] at h
  | .fn _, k, h => by simp [nkD] at h
  | .scr _, k, h => by simp [nkD] at h
  | .ktp _, k, h => by simp [nkD] at h
  | .ty _, k, h => by simp [nkD] at h
  | .cl _, k, h => by simp [nkD] at h
theorem nkDs_dOfs : ∀ (ds : List D) (ks : List NK), nkDs ds = some ks → ds = dOfs ks ∧ pds ds = some (NestedKey.datas ks)
  | [], ks, h => by
    simp only [nkDs] at h
    cases h
    exact ⟨by simp only [dOfs], by simp only [pds, NestedKey.datas]⟩
  | d :: r, ks, h => by
    simp only [nkDs] at h
    cases h1 : nkD d with
    | none => rw [h1] at h; cases h
    | some k =>
      cases h2 : nkDs r with
      | none => rw [h1, h2] at h; cases h
      | some ks' =>
        rw [h1, h2] at h
        cases h
        obtain ⟨e1, e2⟩ := nkD_dOf d k h1
        obtain ⟨e3, e4⟩ := nkDs_dOfs r ks' h2
        exact ⟨by simp only [dOfs, ← e1, ← e3], by simp only [pds, e2, e4, NestedKey.datas]⟩
end
theorem dOfs_map : ∀ ks : List NK, dOfs ks = ks.map dOf
  | [] => by simp only [dOfs, List.map_nil]
  | k :: r => by simp only [dOfs, List.map_cons, dOfs_map r]
def ltK (k j : NK) : Bool := dataLt k.data j.data
def insK (k : NK) : List NK → List NK
  | [] => [k]
  | x :: l => if k = x then x :: l else if ltK k x = true then k :: x :: l else x :: insK k l
def sortK : List NK → List NK
  | [] => []
  | k :: r => insK k (sortK r)
theorem mem_insK (k j : NK) : ∀ l : List NK, j ∈ insK k l ↔ j = k ∨ j ∈ l
  | [] => by simp [insK]
  | x :: l => by
    unfold insK
    split
    · rename_i e
      subst e
      simp
    · split
      · simp
      · simp only [List.mem_cons, mem_insK k j l]
        constructor
        · rintro (h | h | h)
          · exact .inr (.inl h)
          · exact .inl h
          · exact .inr (.inr h)
        · rintro (h | h | h)
          · exact .inr (.inl h)
          · exact .inl h
          · exact .inr (.inr h)
theorem mem_sortK (j : NK) : ∀ l : List NK, j ∈ sortK l ↔ j ∈ l
  | [] => by simp [sortK]
  | k :: r => by simp only [sortK, mem_insK, mem_sortK j r, List.mem_cons]
theorem ltK_irr (k : NK) : ltK k k = false := lex_irrefl (O := itemOrd) _
theorem ltK_trans {a b c : NK} (h1 : ltK a b = true) (h2 : ltK b c = true) : ltK a c = true := lex_trans (O := itemOrd) _ _ _ h1 h2
theorem ltK_asym {a b : NK} (h : ltK a b = true) : ltK b a = false := by
  cases e : ltK b a with
  | false => rfl
  | true =>
    have := ltK_trans h e
    rw [ltK_irr] at this
    cases this
def CmpK (ks : List NK) : Prop := ∀ a ∈ ks, ∀ b ∈ ks, ∃ c, pLt a.data b.data = some c
theorem ltK_total {ks : List NK} (h : CmpK ks) {a b : NK} (ha : a ∈ ks) (hb : b ∈ ks) (ne : a ≠ b) : ltK a b = true ∨ ltK b a = true := by
  obtain ⟨c, e⟩ := h a ha b hb
  have n1 := eqv_ne ne
  have e2 := pLt_flip _ _ c e n1
  cases c with
  | true => exact .inl (pLt_data e n1)
  | false => exact .inr (pLt_data e2 (by rw [eqv_flip]; exact n1))
theorem insK_asc {ks : List NK} (hc : CmpK ks) {k : NK} (hk : k ∈ ks) : ∀ l : List NK, (∀ x ∈ l, x ∈ ks) → l.Pairwise (fun a b => ltK a b = true) → (insK k l).Pairwise fun a b => ltK a b = true
  | [], _, _ => by simp [insK]
  | x :: l, hl, hp => by
    obtain ⟨h1, h2⟩ := List.pairwise_cons.mp hp
    unfold insK
    split
    · exact hp
    · rename_i ne
      split
      · rename_i lt
        refine List.pairwise_cons.mpr ⟨fun y hy => ?_, hp⟩
        rcases List.mem_cons.mp hy with z | z
        · rw [z]; exact lt
        · exact ltK_trans lt (h1 y z)
      · rename_i nlt
        refine List.pairwise_cons.mpr ⟨fun y hy => ?_, insK_asc hc hk l (fun y hy => hl y (List.mem_cons_of_mem _ hy)) h2⟩
        rcases (mem_insK k y l).mp hy with z | z
        · rw [z]
          rcases ltK_total hc hk (hl x List.mem_cons_self) ne with t | t
          · exact absurd t nlt
          · exact t
        · exact h1 y z
theorem sortK_asc' {ks : List NK} (hc : CmpK ks) : ∀ l : List NK, (∀ x ∈ l, x ∈ ks) → (sortK l).Pairwise fun a b => ltK a b = true
  | [], _ => List.Pairwise.nil
  | k :: r, h => insK_asc hc (h k List.mem_cons_self) _ (fun x hx => h x (List.mem_cons_of_mem _ ((mem_sortK x r).mp hx))) (sortK_asc' hc r fun x hx => h x (List.mem_cons_of_mem _ hx))
theorem sortK_asc {ks : List NK} (hc : CmpK ks) : (sortK ks).Pairwise fun a b => ltK a b = true := sortK_asc' hc ks fun _ h => h
theorem asc_uniq : ∀ (l m : List NK), l.Pairwise (fun a b => ltK a b = true) → m.Pairwise (fun a b => ltK a b = true) → (∀ k, k ∈ l ↔ k ∈ m) → l = m
  | [], [], _, _, _ => rfl
  | [], y :: m, _, _, h => absurd ((h y).mpr List.mem_cons_self) List.not_mem_nil
  | x :: l, [], _, _, h => absurd ((h x).mp List.mem_cons_self) List.not_mem_nil
  | x :: l, y :: m, h1, h2, h => by
    obtain ⟨a1, a2⟩ := List.pairwise_cons.mp h1
    obtain ⟨b1, b2⟩ := List.pairwise_cons.mp h2
    have e : x = y := by
      rcases List.mem_cons.mp ((h x).mp List.mem_cons_self) with z | z
      · exact z
      · rcases List.mem_cons.mp ((h y).mpr List.mem_cons_self) with z2 | z2
        · exact z2.symm
        · have := ltK_asym (b1 x z)
          rw [a1 y z2] at this
          cases this
    subst e
    refine congrArg (x :: ·) (asc_uniq l m a2 b2 fun k => ⟨fun hk => ?_, fun hk => ?_⟩)
    · rcases List.mem_cons.mp ((h k).mp (List.mem_cons_of_mem _ hk)) with z | z
      · rw [z] at hk
        have := a1 x hk
        rw [ltK_irr] at this
        cases this
      · exact z
    · rcases List.mem_cons.mp ((h k).mpr (List.mem_cons_of_mem _ hk)) with z | z
      · rw [z] at hk
        have := b1 x hk
        rw [ltK_irr] at this
        cases this
      · exact z
def FormK (ks : List NK) : Prop := (∀ k ∈ ks, ∃ x r, k = .tup (.tup x :: r)) ∨ ∀ k ∈ ks, ∃ i r, k = .tup (.num i :: r)
structure SortOk (ks : List NK) : Prop where
  few : ks.length < 306
  form : FormK ks
  ok : ∀ k ∈ ks, k.data.canLay0 = true
  dp : ∀ k ∈ ks, k.data.depth ≤ 8 ∧ k.depth ≤ 8
  cmp : CmpK ks
/-- a list or a tuple -/
def seqA (S : Sto) (x : D) : Option (List D) := match seqL S x with
  | some ds => some ds
  | none => seqT x
theorem repA {B : Bas} {m : Mp} {H : Hp} {S : Sto} {d : D} {ds : List D} {v : V} (s : Sub m H) (c : Cor B m S) (r : Rep B m d v) (e : seqA S d = some ds) : ∃ a vs, v = .ref a ∧ (SqL B.K H a vs ∨ SqT B.K H a vs) ∧ Reps B m ds vs := by
  unfold seqA at e
  cases h : seqL S d with
  | some z =>
    rw [h] at e
    cases e
    obtain ⟨a, vs, e1, e2, e3⟩ := repL s c r h
    exact ⟨a, vs, e1, .inl e2, e3⟩
  | none =>
    rw [h] at e
    obtain ⟨a, vs, e1, e2, e3⟩ := repT s r e
    exact ⟨a, vs, e1, .inr e2, e3⟩
open Classical in
noncomputable def dSortSet (S : Sto) : List D → Option D
  | [x] => match seqA S x with
    | some ds => match nkDs ds with
      | some ks => if SortOk ks then some (.lst (dOfs (sortK ks))) else none
      | none => none
    | none => none
  | _ => none
def rSS (K : PySem.W.Frag) (w : World) : List V → Hp → VK → Prop := fun vs H Q => rSetK K w vs H fun v H1 => rSortK K w [v] H1 Q
theorem Reps.dp_keys {B : Bas} {m : Mp} {H : Hp} (s : Sub m H) : ∀ {ds : List D} {vs : List V} {ks : List NK}, Reps B m ds vs → nkDs ds = some ks → (∀ k ∈ ks, ∃ r, k = .tup r) →
    ∃ L : Ks, vs = L.map (fun p => V.ref p.1) ∧ L.map (·.2) = ks ∧ ∀ p ∈ L, Rep B m (dOf p.2) (.ref p.1)
  | [], vs, ks, r, h, _ => by
    simp only [Reps] at r
    simp only [nkDs] at h
    cases h
    exact ⟨[], r, rfl, fun p hp => absurd hp List.not_mem_nil⟩
  | d :: ds, vs, ks, r, h, ht => by
    simp only [Reps] at r
    obtain ⟨v, vs', rfl, rv, rs⟩ := r
    simp only [nkDs] at h
    cases h1 : nkD d with
    | none => rw [h1] at h; cases h
    | some k =>
      cases h2 : nkDs ds with
      | none => rw [h1, h2] at h; cases h
      | some ks' =>
        rw [h1, h2] at h
        cases h
        obtain ⟨L, e1, e2, e3⟩ := Reps.dp_keys s rs h2 fun k hk => ht k (List.mem_cons_of_mem _ hk)
        obtain ⟨e4, _⟩ := nkD_dOf d k h1
        obtain ⟨r, ek⟩ := ht k List.mem_cons_self
        subst e4
        have rv' := rv
        rw [ek] at rv
        simp only [dOf, Rep] at rv
        obtain ⟨a, us, rfl, _, _⟩ := rv
        refine ⟨(a, k) :: L, by rw [e1]; rfl, by rw [List.map_cons, e2], fun p hp => ?_⟩
        rcases List.mem_cons.mp hp with z | z
        · rw [z]; exact rv'
        · exact e3 p z
theorem reps_keys {B : Bas} {m : Mp} : ∀ (M : Ks), (∀ p ∈ M, Rep B m (dOf p.2) (.ref p.1)) → Reps B m (dOfs (M.map (·.2))) (M.map fun p => V.ref p.1)
  | [], _ => by simp only [List.map_nil, dOfs, Reps]
  | p :: M, h => by
    simp only [List.map_cons, dOfs, Reps]
    exact ⟨_, _, rfl, h p List.mem_cons_self, reps_keys M fun q hq => h q (List.mem_cons_of_mem _ hq)⟩
theorem opn_sortset {B : Bas} {w : World} : OpN B (rSS B.K w) dSortSet := fun m S H xs ds d s c r e Q q => by
  unfold dSortSet at e
  split at e
  · rename_i x
    cases h1 : seqA S x with
    | none => rw [h1] at e; cases e
    | some its =>
      rw [h1] at e
      cases h2 : nkDs its with
      | none => simp only [h2] at e; cases e
      | some ks =>
        simp only [h2] at e
        split at e
        · rename_i ok
          cases e
          obtain ⟨v, rfl, rv⟩ := r.one
          obtain ⟨l, vs, rfl, hl, rs⟩ := repA s c rv h1
          have isT : ∀ k ∈ ks, ∃ r, k = .tup r := fun k hk => by
            rcases ok.form with f | f
            · obtain ⟨_, _, e⟩ := f k hk; exact ⟨_, e⟩
            · obtain ⟨_, _, e⟩ := f k hk; exact ⟨_, e⟩
          obtain ⟨L, e1, e2, e3⟩ := Reps.dp_keys s rs h2 isT
          have inK : ∀ p ∈ L, p.2 ∈ ks := fun p hp => by rw [← e2]; exact List.mem_map.mpr ⟨p, hp, rfl⟩
          have pdk : ∀ p ∈ L, pd (dOf p.2) = some p.2.data := by
            have : ∀ (its : List D) (ks : List NK), nkDs its = some ks → ∀ k ∈ ks, pd (dOf k) = some k.data := by
              intro its
              induction its with
              | nil => intro ks h k hk; simp only [nkDs] at h; cases h; exact absurd hk List.not_mem_nil
              | cons d its ih =>
                intro ks h k hk
                simp only [nkDs] at h
                cases g1 : nkD d with
                | none => rw [g1] at h; cases h
                | some k0 =>
                  cases g2 : nkDs its with
                  | none => rw [g1, g2] at h; cases h
                  | some ks' =>
                    rw [g1, g2] at h
                    cases h
                    rcases List.mem_cons.mp hk with z | z
                    · obtain ⟨f1, f2⟩ := nkD_dOf d k0 g1
                      rw [z, ← f1]
                      exact f2
                    · exact ih ks' g2 k z
            exact fun p hp => this its ks h2 p.2 (inK p hp)
          have dp : ∀ {H' : Hp}, Sub m H' → ∀ p ∈ L, Dp B.K H' (.ref p.1) p.2.data := fun s' p hp => (e3 p hp).dp s' (pdk p hp)
          refine ⟨l, L, rfl, by rw [← e1]; exact hl, dp s, fun p hp => (ok.dp _ (inK p hp)).2, by rw [← List.length_map (·.2), e2]; exact ok.few, fun a L' hn g few => ?_⟩
          have s' : Sub m (upd H a (SetKO w a L')) := fun b o hb => by
            by_cases z : b = a
            · subst z
              have := s b o hb
              rw [hn] at this
              cases this
            · rw [upd_ne z]; exact s b o hb
          have le1 : Le m H m (upd H a (SetKO w a L')) := ⟨Kp.refl m, fun b o z ho => ⟨by
            by_cases y : b = a
            · subst y
              rw [hn] at ho
              cases ho
            · rw [upd_ne y]; exact ho, z⟩, s'⟩
          refine ⟨a, L', rfl, by simp [upd], fun p hp => dp s' p (g.sub p hp), ?_, fun p hp => ok.ok _ (inK p (g.sub p hp)), fun p hp => ok.dp _ (inK p (g.sub p hp)), fun p hp r hr => ok.cmp _ (inK p (g.sub p hp)) _ (inK r (g.sub r hr)), ?_, fun M p mem asc hp => ?_⟩
          · rcases ok.form with f | f
            · exact .inl fun p hp => f _ (inK p (g.sub p hp))
            · exact .inr fun p hp => f _ (inK p (g.sub p hp))
          · have := ok.few
            rw [← e2, List.length_map] at this
            omega
          · have eM : sortK ks = M.map (·.2) := by
              refine asc_uniq _ _ (sortK_asc ok.cmp) (List.pairwise_map.mpr asc) fun k => ?_
              rw [mem_sortK]
              constructor
              · intro hk
                rw [← e2] at hk
                obtain ⟨p, hp, rfl⟩ := List.mem_map.mp hk
                obtain ⟨r, hr, e⟩ := List.mem_map.mp (g.all p hp)
                exact List.mem_map.mpr ⟨r, (mem r).mpr hr, e⟩
              · intro hk
                obtain ⟨p, hp, rfl⟩ := List.mem_map.mp hk
                exact inK p (g.sub p ((mem p).mp hp))
            have rM : Reps B m (dOfs (sortK ks)) (M.map fun p => V.ref p.1) := by
              rw [eM]
              exact reps_keys M fun p hp => e3 p (g.sub p ((mem p).mp hp))
            exact q_lst s' c (fun m' H' v l2 c2 r2 => q m' H' v (le1.trans l2) c2 r2) rM p hp
        · cases e
  · cases e
theorem de_sortset {X : Cx} {B : Bas} {W : WX} {e : Expr} {p p2 pos pos2 : Pos} {mr : MA} (hK : B.K = X.K := by rfl) (hc : X.calm = true) (hu : X.A.units + 64 < cLine) (hm1 : X.mg "sorted" = none) (hm2 : X.mg "set" = none)
    (ha : PA X [e] (tA B W mr)) (hg1 : Gl X "sorted" := by rfl) (hg2 : Gl X "set" := by rfl)
    (he : starEach [e] X.env = [(false, eval e X.env)] := by rfl) (he2 : starEach [.Call (.Name "set" p2) [e] [] pos2] X.env = [(false, eval (.Call (.Name "set" p2) [e] [] pos2) X.env)] := by rfl) :
    PE X (.Call (.Name "sorted" p) [.Call (.Name "set" p2) [e] [] pos2] [] pos) (tE B W (mCB dSortSet mr)) := by
  have inner := pe_callTy (p := p2) (pos := pos2) (cr_setK hc hu) hg2 hm2 (by decide +kernel) ha (by decide) (by decide) he (by rfl)
  refine PE.cut (pe_callB (cr_sortK hc hu) hg1 hm1 (by decide +kernel) (pa_cons inner pa_nil he2) (by decide) (by decide) he2 (by rfl)) fun σ H Q t => ?_
  have := tCB_of (r := rSS B.K X.w) opn_sortset σ H Q t
  rw [hK] at this
  exact this
end G
end
section
set_option Elab.async false
set_option linter.all false
set_option maxRecDepth 100000
set_option maxHeartbeats 3200000
/-! S10: sorted(xs), xs a list or a tuple of nested keys, each once -/
namespace G
open PySem L2 PyProof.Rows PySem.W
section
variable {P : Program} {w : World} {A : Around} {E : Value → Shared → Prop} {s : Shared}
/-- a list or a tuple with these items -/
def SeqIs (h : Heap) (l : Addr) (its : Array Value) : Prop := ∃ o T n, h.get? l = some o ∧ o.cls = .type T ∧ (T = "list" ∨ T = "tuple") ∧ o.data = .seq its n
theorem collect_seqK {l : Addr} {us : List Value} {Q : List Value → Shared → Prop} (hq : SeqIs s.heap l us.toArray) (few : us.length ≤ sizeLine)
    (q : ∀ h' : Heap, (∀ b o, s.heap.get? b = some o → h'.get? b = some o) → s.heap.objs.size ≤ h'.objs.size → Q us { s with heap := h' }) : wpAny (model P w) A (collect (.ref l)) Q E s := by
  obtain ⟨ob, T, n, g1, g2, g3, g4⟩ := hq
  have g5 : (s.heap.push (seqObj "list" #[] 0)).get? l = some ob := Heap.get?_push_of_some _ g1
  have g6 : (s.heap.push (seqObj "list" #[] 0)).get? s.heap.objs.size = some (seqObj "list" #[] 0) := Heap.get?_push_size _ rfl
  unfold collect
  refine wpAny_bind (wpAny_runValue (codeAny_builtin entry_proto_collect' (show wpAny _ _ (do again (.builtin "list.__iadd__" ⟨[← newList [], .ref l], []⟩)) _ _ s from ?_)))
  refine wpAny_bind (wpAny_newList (wpAny_pure ⟨Code.quiet_builtin _ (by decide +kernel), codeAny_builtin entry_list_iadd' (show wpAny _ _ (Builtin.List.listExtendWith (.ref s.heap.objs.size) (.ref l) (.ref s.heap.objs.size)) _ _ { s with heap := s.heap.push (seqObj "list" #[] 0) } from ?_)⟩))
  unfold Builtin.List.listExtendWith
  refine wpAny_bind (wpAny_typeOf (T := T) ⟨ob, g5, g2⟩ ?_)
  have ty : ((Value.type T == Value.type "list") || (Value.type T == Value.type "tuple")) = true := by
    rcases g3 with rfl | rfl <;> rfl
  rw [if_pos (by rw [Bool.or_assoc, ty, Bool.or_true])]
  refine wpAny_bind (listItems_at g5 g4 (wpAny_bind (listItems_at (xs := #[]) (n := 0) g6 rfl ?_)))
  rw [if_neg (by simp)]
  refine wpAny_bind (listUpdate_at (xs := #[]) (n := 0) g6 rfl (wpAny_pure ?_) (Nat.zero_le _) (by simp only [Array.size_append, List.size_toArray, List.size_toArray, List.length_nil]; omega))
  refine wpAny_bind (wpAny_load (get?_update_seq g6 _) ?_)
  show wpAny _ _ (pure ((#[] : Array Value) ++ us.toArray).toList) Q E _
  rw [show ((#[] : Array Value) ++ us.toArray).toList = us by simp]
  refine wpAny_pure (q _ (fun b o e => ?_) ?_)
  · rw [Heap.get?_update_ne _ _ _ _ (Nat.ne_of_lt (Heap.lt_size e))]
    exact Heap.get?_push_of_some _ e
  · rw [Heap.size_update, size_push']
    omega
theorem sorted_seq_keys {a : Addr} {L : Ks} {Q : Value → Shared → Prop} (hq : SeqIs s.heap a (L.map fun p => Value.ref p.1).toArray) (once : (L.map (·.2)).Nodup) (hk : ∀ p ∈ L, KeyAt s.heap p.2 p.1) (hu : A.units + 16 < cLine) (few : L.length ≤ 1000) (x : Sortd s.heap L)
    (q : ∀ s' p (out : Array Value) (c : Nat) (M : Ks), (∀ b o, s.heap.get? b = some o → s'.heap.get? b = some o) → s'.gens = s.gens → s'.os = s.os → s.heap.objs.size ≤ p → s'.heap.get? p = some (seqObj "list" out c) → out.toList = M.map (fun p => Value.ref p.1) →
      (∀ p, p ∈ M ↔ p ∈ L) → M.length ≤ L.length → M.Pairwise (fun p r => dataLt p.2.data r.2.data = true) → Q (.ref p) s') :
    wpAny (model P w) A (call (.builtin "sorted") [.ref a]) Q E s := by
  refine Calls.call_function_entry kind_sorted plain_sorted entry_sorted (args_sorted1 _) ?_
  unfold Builtin.«sorted»
  refine wpAny_bind (m := checkCount "sorted" 1 1 _) (wpAny_pure (wpAny_bind (collect_seqK (A := A.in1) hq (by rw [List.length_map, sizeLine_eq]; omega) fun h1 k1 hz => ?_)))
  generalize hs1 : ({ s with heap := h1 } : Shared) = s1
  have g1 : s1.gens = s.gens := by rw [← hs1]
  have o1 : s1.os = s.os := by rw [← hs1]
  have e1' : h1 = s1.heap := by rw [← hs1]
  rw [e1'] at k1 hz
  have pm : (L.map fun p => Value.ref p.1).Perm (L.map fun p => Value.ref p.1) := List.Perm.refl _
  generalize hvs : (L.map fun p => Value.ref p.1) = vs at pm ⊢
  conv at pm => rhs; rw [← hvs]
  have refs : ∀ us : List Value, (∀ v ∈ us, ∃ p ∈ L, v = Value.ref p.1) → ∃ M : Ks, us = M.map (fun p => Value.ref p.1) ∧ ∀ p ∈ M, p ∈ L := by
    intro us
    induction us with
    | nil => exact fun _ => ⟨[], rfl, fun _ h => absurd h List.not_mem_nil⟩
    | cons v us ih =>
      intro hv
      obtain ⟨p, hp, rfl⟩ := hv v List.mem_cons_self
      obtain ⟨M, rfl, hM⟩ := ih fun u hu => hv u (List.mem_cons_of_mem _ hu)
      exact ⟨p :: M, rfl, fun r hr => (List.mem_cons.mp hr).elim (fun z => z ▸ hp) (hM r)⟩
  have one : ∀ p ∈ L, ∀ r ∈ L, p.1 = r.1 → p = r := fun p hp r hr e => Prod.ext e (KeyAt.inj (hk p hp) (by rw [e]; exact hk r hr))
  have back : ∀ M : Ks, (∀ p ∈ M, p ∈ L) → (M.map fun p => Value.ref p.1).Perm (L.map fun p => Value.ref p.1) → ∀ p, p ∈ M ↔ p ∈ L := fun M hM pM p => ⟨hM p, fun hp => by
    obtain ⟨r, hr, e⟩ := List.mem_map.mp (pM.mem_iff.mpr (List.mem_map.mpr ⟨p, hp, rfl⟩))
    injection e with e
    rw [← one r (hM r hr) p hp e]
    exact hr⟩
  obtain ⟨M0, rfl, hM0⟩ := refs vs fun v hv => by
    obtain ⟨p, hp, e⟩ := List.mem_map.mp (pm.mem_iff.mp hv)
    exact ⟨p, hp, e.symm⟩
  have len0 : M0.length = L.length := by simpa using pm.length_eq
  have hz0 : (M0.map fun p => Value.ref p.1).length ≤ sizeLine := by rw [List.length_map, sizeLine_eq]; omega
  refine wpAny_bind (wpAny_newList ?_ hz0)
  have hoL : (s1.heap.push (seqObj "list" (M0.map fun p => Value.ref p.1).toArray 0)).get? s1.heap.objs.size = some (seqObj "list" (M0.map fun p => Value.ref p.1).toArray 0) := Heap.get?_push_size _ rfl
  have x1 : Sortd ({ s1 with heap := s1.heap.push (seqObj "list" (M0.map fun p => Value.ref p.1).toArray 0) } : Shared).heap L := x.keep fun b o e _ => Heap.get?_push_of_some _ (k1 b o e)
  refine wpAny_bind (wpAny_holding (wpAny_call_entry slot_list_sort ⟨_, hoL, rfl⟩ entry_list_sort (SrtO.list_sort_ord (s := { s1 with heap := s1.heap.push (seqObj "list" (M0.map fun p => Value.ref p.1).toArray 0) }) (swo_data (keyOf L)) hoL hz0
    (fun h2 => x1.sortable hM0 (by rw [List.length_map] at h2; omega) (fun o e => by
      have e' : some o = some (seqObj "list" (M0.map fun p => Value.ref p.1).toArray 0) := e.symm.trans hoL
      cases e'
      intro c
      exact absurd (Value.type.inj c) (by decide)) (by show A.units + 1 + 1 + 8 < cLine; omega)) fun out hs hb => ⟨_, rfl, ?_⟩) (args_list_sort _)))
  have pout : out.Perm (L.map fun p => Value.ref p.1) := hb.perm.trans pm
  obtain ⟨M, rfl, hM⟩ := refs out fun v hv => by
    obtain ⟨p, hp, e⟩ := List.mem_map.mp (pout.mem_iff.mp hv)
    exact ⟨p, hp, e.symm⟩
  have lenM : M.length = L.length := by simpa using pout.length_eq
  obtain ⟨c, hc⟩ := sortedHeap_at (vs := M0.map fun p => Value.ref p.1) (out := (M.map fun p => Value.ref p.1).toArray) hoL
  have nd : M.Nodup := by
    have nL : (L.map fun p => Value.ref p.1).Nodup := by
      have nL1 : L.Nodup := List.Pairwise.of_map (·.2) (fun _ _ h e => h (congrArg _ e)) once
      refine List.pairwise_map.mpr (List.Pairwise.imp_of_mem (fun {p r} hp hr hne e => ?_) nL1)
      injection e with e
      exact hne (one p hp r hr e)
    exact List.Pairwise.of_map (fun p : Addr × NK => Value.ref p.1) (fun p r h e => h (by rw [e])) (pout.nodup_iff.mpr nL)
  have asc : M.Pairwise fun p r => dataLt p.2.data r.2.data = true := by
    have h1 := List.pairwise_map.mp hs
    refine List.Pairwise.imp_of_mem (fun {p r} hp hr hpr => ?_) (h1.and nd)
    obtain ⟨hle, hne⟩ := hpr
    have hle' : dataLt (keyOf L (.ref r.1)) (keyOf L (.ref p.1)) = false := hle
    rw [keyOf_at x1 (hM r hr), keyOf_at x1 (hM p hp)] at hle'
    have nk : p.2 ≠ r.2 := fun e => hne (by
      have nL1 := once
      have : ∀ (L : Ks), (L.map (·.2)).Nodup → p ∈ L → r ∈ L → p.2 = r.2 → p = r := by
        intro L
        induction L with
        | nil => intro _ h; exact absurd h List.not_mem_nil
        | cons y L ih =>
          intro hn h1 h2 e
          rw [List.map_cons] at hn
          obtain ⟨n1, n2⟩ := List.nodup_cons.mp hn
          rcases List.mem_cons.mp h1 with z1 | z1
          · rcases List.mem_cons.mp h2 with z2 | z2
            · rw [z1, z2]
            · exact absurd (List.mem_map.mpr ⟨r, z2, by rw [← e, z1]⟩) n1
          · rcases List.mem_cons.mp h2 with z2 | z2
            · exact absurd (List.mem_map.mpr ⟨p, z1, by rw [e, z2]⟩) n1
            · exact ih n2 z1 z2 e
      exact this L nL1 (hM p hp) (hM r hr) e)
    have en := eqv_ne nk
    obtain ⟨b, hb'⟩ := x.cmp p (hM p hp) r (hM r hr)
    have h2 := pLt_flip _ _ b hb' en
    rw [pLt_data h2 (by rw [eqv_flip]; exact en)] at hle'
    rw [pLt_data hb' en]
    cases b
    · exact absurd hle' (by decide)
    · rfl
  refine wpAny_pure ⟨_, rfl, q _ s1.heap.objs.size _ c M (fun b u e => ?_) g1 o1 hz hc (by simp) (back M hM pout) (Nat.le_of_eq lenM) asc⟩
  have e1 := k1 b u e
  have hlt := Heap.lt_size e1
  show (sortedHeap (s1.heap.push _) s1.heap.objs.size _ _).get? b = some u
  rw [sortedHeap_old (Nat.ne_of_lt hlt) (by rw [size_push']; exact Nat.lt_succ_of_lt hlt)]
  exact Heap.get?_push_of_some _ e1
end
end G
end
section
set_option Elab.async false
set_option linter.all false
set_option maxRecDepth 100000
set_option maxHeartbeats 2000000
/-! G17: a new object that a def hands back becomes plain data (it is changed no more) -/
namespace G
open PySem L2
/-- m' is m with the store cut at n; what lies outside stays -/
structure CutOf (m : Mp) (n : Nat) (m' : Mp) : Prop where
  mu : m'.mu = m.mu
  n' : m'.n = n
  le : n ≤ m.n
  keep : ∀ a, m.out a → m'.Z a = m.Z a
section
variable {B : Bas} {m m' : Mp} {n : Nat}
theorem CutOf.out (C : CutOf m n m') {a : Addr} (h : m.out a) : m'.out a := fun i hi => by
  rw [C.mu]
  exact h i (Nat.lt_of_lt_of_le (C.n' ▸ hi) C.le)
mutual
theorem Rep.cutG (C : CutOf m n m') : ∀ {d : D} {v : V}, Rep B m d v → d.bel n → Rep B m' d v
  | .non, _, h, _ => by simpa only [Rep] using h
  | .bl _, _, h, _ => by simpa only [Rep] using h
  | .int _, _, h, _ => by simpa only [Rep] using h
  | .str _, _, h, _ => by simpa only [Rep] using h
  | .fn _, _, h, _ => by simpa only [Rep] using h
  | .ty _, _, h, _ => by simpa only [Rep] using h
  | .cl _, _, h, _ => by simpa only [Rep] using h
  | .ref i, v, h, b => by
    simp only [Rep] at h ⊢
    simp only [D.bel] at b
    exact ⟨by rw [C.n']; exact b, by rw [C.mu]; exact h.2⟩
  | .tup ds, v, h, b => by
    simp only [Rep] at h ⊢
    simp only [D.bel] at b
    obtain ⟨a, vs, e, t, r⟩ := h
    exact ⟨a, vs, e, ⟨(C.keep a t.2).trans t.1, C.out t.2⟩, Reps.cutG C r b⟩
  | .lst ds, v, h, b => by
    simp only [Rep] at h ⊢
    simp only [D.bel] at b
    obtain ⟨a, vs, e, t, r⟩ := h
    exact ⟨a, vs, e, ⟨(C.keep a t.2).trans t.1, C.out t.2⟩, Reps.cutG C r b⟩
  | .scr ds, v, h, b => by
    simp only [Rep] at h ⊢
    simp only [D.bel] at b
    obtain ⟨a, vs, e, t, r⟩ := h
    refine ⟨a, vs, e, ?_, Reps.cutG C r b⟩
    rcases t with ⟨t, o⟩ | t
    · refine .inl ⟨?_, C.out o⟩
      rcases t with t | ⟨x, t⟩
      · exact .inl ((C.keep a o).trans t)
      · exact .inr ⟨x, (C.keep a o).trans t⟩
    · exact .inr t
  | .ktp ds, v, h, b => by
    simp only [Rep] at h ⊢
    simp only [D.bel] at b
    obtain ⟨a, vs, e, t, r⟩ := h
    exact ⟨a, vs, e, t, Reps.cutG C r b⟩
  | .dic ks ds, v, h, b => by
    simp only [Rep] at h ⊢
    simp only [D.bel] at b
    obtain ⟨a, vs, e, o, t, r⟩ := h
    exact ⟨a, vs, e, C.out o, by rw [C.keep a o]; exact t, Reps.cutG C r b⟩
  | .ins c ns ds, v, h, b => by
    simp only [Rep] at h ⊢
    simp only [D.bel] at b
    obtain ⟨a, dx, vs, e, o, t, k, r⟩ := h
    exact ⟨a, dx, vs, e, C.out o, (C.keep a o).trans t, k, Reps.cutG C r b⟩
theorem Reps.cutG (C : CutOf m n m') : ∀ {ds : List D} {vs : List V}, Reps B m ds vs → D.bels n ds → Reps B m' ds vs
  | [], _, h, _ => by simpa only [Reps] using h
  | d :: ds, _, h, b => by
    simp only [Reps] at h ⊢
    simp only [D.bels] at b
    obtain ⟨v, r, e, p, q⟩ := h
    exact ⟨v, r, e, Rep.cutG C p b.1, Reps.cutG C q b.2⟩
end
end
open Classical in
/-- the store cut at n, the object i kept outside -/
noncomputable def Mp.frz (m : Mp) (n i : Nat) : Mp := { mu := m.mu, n := n, Z := fun a => if ∃ j, n ≤ j ∧ j < m.n ∧ j ≠ i ∧ m.mu j = a then none else m.Z a }
open Classical in
theorem Mp.frz_cut {m : Mp} {n i : Nat} (h : n ≤ m.n) : CutOf m n (m.frz n i) := ⟨rfl, rfl, h, fun a ho => by
  show (if ∃ j, n ≤ j ∧ j < m.n ∧ j ≠ i ∧ m.mu j = a then none else m.Z a) = _
  rw [if_neg]
  rintro ⟨j, _, h2, _, h3⟩
  exact ho j h2 h3⟩
open Classical in
theorem frz_all {B : Bas} {m m1 : Mp} {H H1 : Hp} {S S1 : Sto} {i0 : Nat} (c : Cor B m S) (l : Le m H m1 H1) (c1 : Cor B m1 S1) (cl : Cl S S1) : Le m H (m1.frz S.length i0) H1 ∧ Cor B (m1.frz S.length i0) (S1.take S.length) := by
  have hn : S.length ≤ m1.n := by rw [c1.n]; exact cl.1
  have C := Mp.frz_cut (m := m1) (i := i0) hn
  refine ⟨⟨⟨by rw [c.n]; exact Nat.le_refl _, fun i hi => l.mu i hi, fun a o h1 h2 => ?_⟩, fun a o h1 h2 => ?_, fun a o h => ?_⟩, ⟨?_, fun i o e => ?_, fun i j hi hj e => ?_⟩⟩
  · obtain ⟨k1, k2⟩ := l.keep a o h1 h2
    exact ⟨(C.keep a k2).trans k1, C.out k2⟩
  · obtain ⟨k1, k2⟩ := l.fr a o h1 h2
    refine ⟨k1, ?_⟩
    show (if _ then none else m1.Z a) = none
    split
    · rfl
    · exact k2
  · have h' : (if ∃ j, S.length ≤ j ∧ j < m1.n ∧ j ≠ i0 ∧ m1.mu j = a then none else m1.Z a) = some o := h
    split at h'
    · cases h'
    · exact l.sub a o h'
  · show S.length = _
    rw [List.length_take, Nat.min_eq_left cl.1]
  · have hi : i < S.length := by
      have := (List.getElem?_eq_some_iff.mp e).1
      rw [List.length_take] at this
      omega
    rw [List.getElem?_take_of_lt hi] at e
    have ob := c1.ob i o e
    have hz : (m1.frz S.length i0).Z (m1.mu i) = m1.Z (m1.mu i) := by
      show (if ∃ j, S.length ≤ j ∧ j < m1.n ∧ j ≠ i0 ∧ m1.mu j = m1.mu i then none else m1.Z (m1.mu i)) = m1.Z (m1.mu i)
      rw [if_neg]
      rintro ⟨j, h1, h2, _, h3⟩
      have := c1.inj j i h2 (Nat.lt_of_lt_of_le hi hn) h3
      omega
    have hb : o.bel S.length := by
      rcases cl.2 i hi with q | ⟨o', q, b⟩
      · rw [q] at e
        have := (c.ob i o e).bel
        rw [c.n] at this
        exact this
      · rw [q] at e
        cases e
        exact b
    cases o with
    | lst ds => obtain ⟨vs, e, r⟩ := ob; exact ⟨vs, hz.trans e, Reps.cutG C r hb⟩
    | dic ks ds => obtain ⟨vs, e, r⟩ := ob; exact ⟨vs, by rw [show (m1.frz S.length i0).mu i = m1.mu i from rfl, hz]; exact e, Reps.cutG C r hb⟩
    | ins c ns ds => obtain ⟨dx, vs, e, k, r⟩ := ob; exact ⟨dx, vs, hz.trans e, k, Reps.cutG C r hb⟩
  · exact c1.inj i j (Nat.lt_of_lt_of_le hi hn) (Nat.lt_of_lt_of_le hj hn) e
/-- an object as plain data -/
def Ob.d : Ob → D
  | .lst ds => .lst ds
  | .dic ks ds => .dic ks ds
  | .ins c ns ds => .ins c ns ds
open Classical in
noncomputable def Res.frz (S : Sto) : Res D → Res D
  | .ok (.ref i) S' => if i < S.length then (Res.ok (.ref i) S').drop S else match S'[i]? with
    | some o => if Cl S S' ∧ o.bel S.length then .ok o.d (S'.take S.length) else .bad
    | none => .bad
  | r => r.drop S
noncomputable def frzF (F : Fn) : Fn := ⟨F.n, fun ds S => (F.run ds S).frz S⟩
open Classical in
theorem frz_rep {B : Bas} {m : Mp} {S : Sto} {n i : Nat} {o : Ob} (c : Cor B m S) (hn : n ≤ i) (hi : i < m.n) (e : S[i]? = some o) (b : o.bel n) : Rep B (m.frz n i) o.d (.ref (m.mu i)) := by
  have le : n ≤ m.n := Nat.le_trans hn (Nat.le_of_lt hi)
  have C := Mp.frz_cut (m := m) (i := i) le
  have out : (m.frz n i).out (m.mu i) := fun j hj e' => by
    have := c.inj j i (Nat.lt_of_lt_of_le hj le) hi e'
    have hj' : j < n := hj
    omega
  have hz : (m.frz n i).Z (m.mu i) = m.Z (m.mu i) := by
    show (if ∃ j, n ≤ j ∧ j < m.n ∧ j ≠ i ∧ m.mu j = m.mu i then none else m.Z (m.mu i)) = m.Z (m.mu i)
    rw [if_neg]
    rintro ⟨j, _, h2, h3, h4⟩
    exact h3 (c.inj j i h2 hi h4)
  have ob := c.ob i o e
  cases o with
  | lst ds =>
    obtain ⟨vs, e, r⟩ := ob
    simp only [Ob.d, Rep]
    exact ⟨_, vs, rfl, ⟨hz.trans e, out⟩, Reps.cutG C r b⟩
  | dic ks ds =>
    obtain ⟨vs, e, r⟩ := ob
    simp only [Ob.d, Rep]
    exact ⟨_, vs, rfl, out, by rw [hz]; exact e, Reps.cutG C r b⟩
  | ins c ns ds =>
    obtain ⟨dx, vs, e, k, r⟩ := ob
    simp only [Ob.d, Rep]
    exact ⟨_, dx, vs, rfl, out, hz.trans e, k, Reps.cutG C r b⟩
theorem Post.frz {B : Bas} {E : XK} {m : Mp} {H : Hp} {Q : VK} {r : Res D} {S : Sto} (c : Cor B m S) (h : Post B (Rep B) E m H Q (r.frz S)) : Post B (Rep B) E m H Q r := by
  unfold Res.frz at h
  split at h
  · rename_i i S'
    split at h
    · exact Post.drop c h
    · rename_i hi
      cases e : S'[i]? with
      | none => rw [e] at h; exact h.elim
      | some o =>
        simp only [e] at h
        split at h
        · rename_i hc
          intro m1 H1 v l c1 rv
          simp only [Rep] at rv
          obtain ⟨h1, rfl⟩ := rv
          obtain ⟨l2, c2⟩ := frz_all (i0 := i) c l c1 hc.1
          exact h _ _ _ l2 c2 (frz_rep c1 (by omega) h1 e hc.2)
        · exact h.elim
  · exact Post.drop c h
theorem fn_frz {P : Program} {w : World} {K : PySem.W.Frag} {mg : Str → Option Value} {base : Heap} {CX : CXT} {B : Bas} {f : Addr} {fd : FuncData} {ps : List Str} {k : Nat} {F : Fn} (h : FnOk P w K mg base CX k f fd ps (spF B F)) :
    FnOk P w K mg base CX k f fd ps (spF B (frzF F)) := h.imp fun vs H Q E ⟨m, S, ds, s, c, r, n, p⟩ => ⟨m, S, ds, s, c, r, n, p.frz c⟩
end G
end
section
set_option Elab.async false
set_option linter.all false
set_option maxRecDepth 100000
set_option maxHeartbeats 2000000
/-! G18: instances: fields, properties, methods, making -/
namespace G
open PySem L2
/-! ### at the layer: what is raised is wished for at the caller's slots -/
section
variable {X : Cx} {CX : CXT} {k : Nat} {f C : Addr} {fd : FuncData} {ps : List Str} {sp : Sp} {E : St → XK} {x m : Str} {p pos apos : Pos} {e o : Expr} {es : List Expr} {ta : TE} {t : TA}
def tMe (C : Addr) (m : Str) (sp : Sp) (E : St → XK) (ta : TE) (t : TA) : TE := fun σ H Q => ta σ H fun x H1 => ∃ a dx fs, x = .ref a ∧ H1 a = some (.ins C dx fs) ∧ fs.lookup m = none ∧ t σ H1 fun vs H2 => sp (x :: vs) H2 Q (E σ)
theorem pe_me {pl : Sem Bool} (he : PE X o ta) (c : Cls X.K C) (hm : Meth X.K C m f) (F : FnOk X.prog X.w X.K X.mg X.base CX k f fd ps sp) (hr : Room k X.A) (hb : Binds X.K fd ps []) (hx : ∀ σ, PassesAt CX X σ (E σ)) (ha : PA X (e :: es) t)
    (hst : starEach (e :: es) X.env = (false, eval e X.env) :: starEach es X.env := by rfl) (hpl : (backTo pos (starEach es X.env)).any (·.1) = false := by rfl)
    (ht : eval (.Call (.Attribute o m apos) (e :: es) [] pos) X.env = (do
      let ov ← eval o X.env
      standAt apos.atName
      let (f, first) ← holding [ov] (getMethod ov m pl)
      callWith pos f first (backTo pos (starEach (e :: es) X.env)) (backToKw pos (keywordEach [] X.env))) := by rfl) :
    PE X (.Call (.Attribute o m apos) (e :: es) [] pos) (tMe C m sp E ta t) := ⟨fun pins s σ H Q I h => by
  refine PySem.W.methodCall_KW (pl := pl) (thn (he.run pins s σ H _ I h) fun u s1 ⟨x, H1, I1, rx, a, dx, fs, ex, ea, l, q⟩ => ?_) ht
  subst ex
  cases rx
  refine getmeth_ok I1 ea c hm l (PySem.W.callWith_K (first := [.ref a]) (h₀ := X.base) I.ok.mod.kin hm.kp (thn (ha.run pos pins s1 σ H1 _ I1 q) fun us s2 ⟨vs, H2, I2, r, q2⟩ => ⟨I2.kIn, ?_⟩) hst hpl)
  exact run_fnSD (us := .ref a :: us) (vs := .ref a :: vs) (dvs := []) F hr hb .nil (hx σ) I2 (.cons rfl r) (by rw [List.append_nil]; exact q2)⟩
theorem pe_me0 {pl : Sem Bool} (he : PE X o ta) (c : Cls X.K C) (hm : Meth X.K C m f) (F : FnOk X.prog X.w X.K X.mg X.base CX k f fd ps sp) (hr : Room k X.A) (hb : Binds X.K fd ps []) (hx : ∀ σ, PassesAt CX X σ (E σ))
    (ht : eval (.Call (.Attribute o m apos) [] [] pos) X.env = (do
      let ov ← eval o X.env
      standAt apos.atName
      let (f, first) ← holding [ov] (getMethod ov m pl)
      callWith pos f first (backTo pos (starEach [] X.env)) (backToKw pos (keywordEach [] X.env))) := by rfl) :
    PE X (.Call (.Attribute o m apos) [] [] pos) (tMe C m sp E ta tNil) := ⟨fun pins s σ H Q I h => by
  refine PySem.W.methodCall_KW (pl := pl) (thn (he.run pins s σ H _ I h) fun u s1 ⟨x, H1, I1, rx, a, dx, fs, ex, ea, l, q⟩ => ?_) ht
  subst ex
  cases rx
  exact getmeth_ok I1 ea c hm l (PySem.W.callWith_K0 (first := [.ref a]) I1.kIn hm.kp (run_fnSD (us := [.ref a]) (vs := [.ref a]) (dvs := []) F hr hb .nil (hx σ) I1 (.cons rfl .nil) q))⟩
def tMk (C : Addr) (sp : Sp) (E : St → XK) (t : TA) : TE := fun σ H Q => t σ H fun vs H1 => ∀ x dx, H1 x = none → H1 dx = none → dx ≠ x →
  sp (.ref x :: vs) (upd (upd H1 dx (.own x)) x (.ins C dx [])) (fun v H2 => v = .non ∧ Q (.ref x) H2) (E σ)
theorem run_mk {pins : List (Addr × Obj)} {σ : St} {H : Hp} {s : Shared} {Q : VK} {us : List Value} {vs : List V} (M : Mk X.K C f) (F : FnOk X.prog X.w X.K X.mg X.base CX k f fd ps sp) (hr : Room (k + 1) X.A) (hb : Binds X.K fd ps []) (hx : PassesAt CX X σ (E σ))
    (I : Inv X pins σ H s) (r : Vals vs us) (h : ∀ x dx, H x = none → H dx = none → dx ≠ x → sp (.ref x :: vs) (upd (upd H dx (.own x)) x (.ins C dx [])) (fun v H2 => v = .non ∧ Q (.ref x) H2) (E σ)) :
    wpAny (model X.prog X.w) X.A (call (.ref C) us) (EP X pins σ Q) X.xe s := by
  have hq := h (s.heap.objs.size + 1) s.heap.objs.size (I.hok.fresh (Nat.le_succ _)) (I.hok.fresh (Nat.le_refl _)) (Nat.ne_of_lt (Nat.lt_succ_self _))
  have J := Inv.made (C := C) I
  have rr : Vals (V.ref (s.heap.objs.size + 1) :: vs) (Value.ref (s.heap.objs.size + 1) :: us) := .cons rfl r
  have hl : (Value.ref (s.heap.objs.size + 1) :: us).length = ps.length := by rw [← rr.length]; exact F.len _ _ _ _ hq
  have bd := hb { s with heap := _ } (Value.ref (s.heap.objs.size + 1) :: us) J.kIn (by rw [List.append_nil]; exact hl)
  rw [List.append_nil] at bd
  refine wpAny_call (make_map (f := f) I.kIn M.makes M.init (beq_iff_eq.mp M.fn) (codeAny_mono (F.run _ X.stack _ _ ⟨Value.ref (s.heap.objs.size + 1) :: us, []⟩ _ _ _ (E σ) (hr.make C us []) (J.env0.make C us []) bd rr hq) fun r s' hq' => ?_))
  match r, hq' with
  | .error e, hq' => exact hx pins _ _ e s' J hq'
  | .ok (.ret u), hq' =>
    obtain ⟨v, H', I3, rv, ev, q3⟩ := J.after hq'
    subst ev
    exact ⟨rv, V.ref (s.heap.objs.size + 1), H', I3, rfl, q3⟩
  | .ok .next, hq' => exact hq'.elim
  | .ok .brk, hq' => exact hq'.elim
  | .ok .cont, hq' => exact hq'.elim
theorem pe_mk (M : Mk X.K C f) (F : FnOk X.prog X.w X.K X.mg X.base CX k f fd ps sp) (hr : Room (k + 1) X.A) (hg : Gl X x) (hm : X.mg x = some (.ref C)) (hb : Binds X.K fd ps []) (hx : ∀ σ, PassesAt CX X σ (E σ))
    (ha : PA X (e :: es) t) (hdb : (x == ("__debug__" : Str)) = false := by decide) (he : starEach (e :: es) X.env = (false, eval e X.env) :: starEach es X.env := by rfl) (hpl : (backTo pos (starEach es X.env)).any (·.1) = false := by rfl) :
    PE X (.Call (.Name x p) (e :: es) [] pos) (tMk C sp E t) := ⟨fun pins s σ H Q I h => wpAny_Call_Name_kw (ld_glob I hg hm (PySem.W.callWith_K (h₀ := X.base) I.ok.mod.kin M.kp (thn (ha.run pos pins s σ H _ I h) fun us s1 ⟨vs, H1, I1, r, q⟩ => ⟨I1.kIn, run_mk M F hr hb (hx σ) I1 r q⟩) he hpl) hdb)⟩
end
/-! ### over data -/
def lookF (f : Str) : List Str → List D → Option D
  | n :: ns, d :: ds => if n = f then some d else lookF f ns ds
  | _, _ => none
theorem lookF_of {B : Bas} {m : Mp} {f : Str} : ∀ {ns : List Str} {ds : List D} {vs : List V} {d : D}, Reps B m ds vs → lookF f ns ds = some d → ∃ v, (ns.zip vs).lookup f = some v ∧ Rep B m d v
  | [], ds, vs, d, r, h => by cases ds <;> simp [lookF] at h
  | n :: ns, [], vs, d, r, h => by simp [lookF] at h
  | n :: ns, x :: ds, vs, d, r, h => by
    simp only [Reps] at r
    obtain ⟨v, vs', rfl, rv, rs⟩ := r
    simp only [lookF] at h
    by_cases e : n = f
    · rw [if_pos e] at h
      cases h
      exact ⟨v, by simp [List.lookup_cons, e], rv⟩
    · rw [if_neg e] at h
      obtain ⟨u, h1, h2⟩ := lookF_of rs h
      refine ⟨u, ?_, h2⟩
      rw [List.zip_cons_cons, List.lookup_cons]
      have : (f == n) = false := by simpa using fun z => e z.symm
      rw [this]
      exact h1
theorem lookN_of {f : Str} : ∀ {ns : List Str} {vs : List V}, f ∉ ns → (ns.zip vs).lookup f = none
  | [], _, _ => rfl
  | n :: ns, [], _ => rfl
  | n :: ns, v :: vs, h => by
    rw [List.zip_cons_cons, List.lookup_cons]
    have : (f == n) = false := by simpa using fun z => h (by simp [z])
    rw [this]
    exact lookN_of fun z => h (List.mem_cons_of_mem _ z)
/-- a class whose fields are plain, as far as f goes -/
def FldOk (K : PySem.W.Frag) (B : Bas) (cs : List Nat) (f : Str) : Prop := ∀ c ∈ cs, Cls K (B.cls c) ∧ NoAttr K (B.cls c) f
def mFld (cs : List Nat) (f : Str) (e : ME) : ME := fun en S => (e en S).bind fun d S1 => match insOf S1 d with
  | some (c, ns, ds) => if c ∈ cs then (match lookF f ns ds with
    | some x => .ok x S1
    | none => .bad) else .bad
  | none => .bad
theorem de_fld {X : Cx} {B : Bas} {W : WX} {e : Expr} {f : Str} {pos : Pos} {me : ME} {cs : List Nat} (hc : FldOk X.K B cs f) (he : PE X e (tE B W me)) (hb : attributeBase e f X.env (eval e X.env) = eval e X.env := by rfl) :
    PE X (.Attribute e f pos) (tE B W (mFld cs f me)) := PE.cut (pe_fld he hb) fun σ H Q ⟨m, S, en, s, c, er, p⟩ => ⟨m, S, en, s, c, er, (Post.bind p).imp (by
  rintro v H1 ⟨d, S1, m1, _, l1, c1, r1, p1⟩
  cases h : insOf S1 d with
  | none => rw [h] at p1; exact p1.elim
  | some q =>
    obtain ⟨c', ns, ds⟩ := q
    simp only [h] at p1
    split at p1
    · rename_i hm
      cases h2 : lookF f ns ds with
      | none => rw [h2] at p1; exact p1.elim
      | some x =>
        simp only [h2] at p1
        obtain ⟨a, dx, vs, rfl, ha, hl, rs⟩ := repI l1.sub c1 r1 h
        obtain ⟨v, e1, e2⟩ := lookF_of rs h2
        exact ⟨a, _, dx, _, v, rfl, ha, (hc c' hm).1, (hc c' hm).2, e1, p1 m1 H1 v (Le.refl l1.sub) c1 e2⟩
    · exact p1.elim)⟩
/-! properties -/
def mProp (c : Nat) (F : Fn) (e : ME) : ME := fun en S => (e en S).bind fun d S1 => match insOf S1 d with
  | some (c', _, _) => if c' = c ∧ F.n = 1 then (F.run [d] S1).noex else .bad
  | none => .bad
def CalP (P : Program) (w : World) (K : PySem.W.Frag) (mg : Str → Option Value) (base : Heap) (B : Bas) (c : Nat) (x : Str) (k : Nat) (F : Fn) : Prop :=
  ∃ (p f : Addr) (fd : FuncData) (ps : List Str), FnOk P w K mg base (L2.CX P w) k f fd ps (spF B F) ∧ Cls K (B.cls c) ∧ PropOf K (B.cls c) x p f ∧ Binds K fd ps []
theorem passNo {X : Cx} : Passes (L2.CX X.prog X.w) X.nox (fun _ _ _ => False) := fun pins σ H s e s' I h => by
  obtain ⟨_, _, _, _, _, _, _, _, _, _, _, _, z⟩ := h
  exact z.elim
theorem Post.noexF {B : Bas} {W : XK} {m : Mp} {H : Hp} {Q : VK} {r : Res D} (h : Post B (Rep B) W m H Q r.noex) : Post B (Rep B) (fun _ _ _ => False) m H Q r := by
  cases r with
  | ok d S => exact h
  | ex c ns vs S => exact h.elim
  | bad => exact h
theorem de_prop {X : Cx} {B : Bas} {W : WX} {e : Expr} {f : Str} {pos : Pos} {me : ME} {c k j : Nat} {F : Fn} (cp : CalP X.prog X.w X.K X.mg X.base B c f k F) (hr : Room j X.A) (hk : k + 1 ≤ j) (he : PE X e (tE B W me))
    (hb : attributeBase e f X.env (eval e X.env) = eval e X.env := by rfl) : PE X (.Attribute e f pos) (tE B W (mProp c F me)) := by
  obtain ⟨p, g, fd, ps, FO, hc, hp, bd⟩ := cp
  refine PE.cut (pe_prop he hc hp FO (hr.mono hk) bd .nil passNo hb) fun σ H Q ⟨m, S, en, s, cc, er, q⟩ => ⟨m, S, en, s, cc, er, (Post.bind q).imp ?_⟩
  rintro v H1 ⟨d, S1, m1, _, l1, c1, r1, p1⟩
  cases h : insOf S1 d with
  | none => rw [h] at p1; exact p1.elim
  | some z =>
    obtain ⟨c', ns, ds⟩ := z
    simp only [h] at p1
    split at p1
    · rename_i hc'
      obtain ⟨a, dx, vs, rfl, ha, hl, rs⟩ := repI l1.sub c1 r1 h
      refine ⟨a, dx, _, rfl, by rw [← hc'.1]; exact ha, m1, S1, [d], l1.sub, c1, ?_, by rw [hc'.2]; rfl, p1.noexF⟩
      simp only [Reps]
      exact ⟨_, _, rfl, r1, rfl⟩
    · exact p1.elim
/-! methods -/
def mMeth (c : Nat) (x : Str) (F : Fn) (e : ME) (r : MA) : ME := fun en S => (e en S).bind fun d S1 => match insOf S1 d with
  | some (c', ns, _) => if c' = c ∧ x ∉ ns then (r en S1).bind fun ds S2 => if ds.length + 1 = F.n then F.run (d :: ds) S2 else .bad else .bad
  | none => .bad
def CalM (P : Program) (w : World) (K : PySem.W.Frag) (mg : Str → Option Value) (base : Heap) (B : Bas) (c : Nat) (x : Str) (k : Nat) (F : Fn) : Prop :=
  ∃ (f : Addr) (fd : FuncData) (ps : List Str), FnOk P w K mg base (L2.CX P w) k f fd ps (spF B F) ∧ Cls K (B.cls c) ∧ Meth K (B.cls c) x f ∧ Binds K fd ps []
theorem tMe_of {B : Bas} {W : WX} {c : Nat} {x : Str} {F : Fn} {me : ME} {mr : MA} (σ : St) (H : Hp) (Q : VK) (t : tE B W (mMeth c x F me mr) σ H Q) : tMe (B.cls c) x (spF B F) (fun σ => at' W σ) (tE B W me) (tA B W mr) σ H Q := by
  obtain ⟨m, S, en, s, cc, er, q⟩ := t
  refine ⟨m, S, en, s, cc, er, (Post.bind q).imp ?_⟩
  rintro v H1 ⟨d, S1, m1, _, l1, c1, r1, p1⟩
  cases h : insOf S1 d with
  | none => rw [h] at p1; exact p1.elim
  | some z =>
    obtain ⟨c', ns, ds⟩ := z
    simp only [h] at p1
    split at p1
    · rename_i hc'
      obtain ⟨a, dx, vs, rfl, ha, hl, rs⟩ := repI l1.sub c1 r1 h
      refine ⟨a, dx, _, rfl, by rw [← hc'.1]; exact ha, lookN_of hc'.2, m1, S1, en, l1.sub, c1, er.mono l1, (Post.bind p1).imp ?_⟩
      rintro us H2 ⟨es, S2, m2, _, l2, c2, r2, p2⟩
      split at p2
      · rename_i hn
        refine ⟨m2, S2, d :: es, l2.sub, c2, ?_, by rw [← hn]; rfl, p2⟩
        simp only [Reps]
        exact ⟨_, _, rfl, r1.mono l2, r2⟩
      · exact p2.elim
    · exact p1.elim
section
variable {X : Cx} {B : Bas} {W : WX} {o e : Expr} {es : List Expr} {x : Str} {p pos apos : Pos} {me : ME} {mr : MA} {c k j : Nat} {F : Fn}
theorem de_meth {pl : Sem Bool} (cm : CalM X.prog X.w X.K X.mg X.base B c x k F) (hr : Room j X.A) (hk : k ≤ j) (tk : Takes X W) (ho : PE X o (tE B W me)) (ha : PA X (e :: es) (tA B W mr))
    (hst : starEach (e :: es) X.env = (false, eval e X.env) :: starEach es X.env := by rfl) (hpl : (backTo pos (starEach es X.env)).any (·.1) = false := by rfl)
    (ht : eval (.Call (.Attribute o x apos) (e :: es) [] pos) X.env = (do
      let ov ← eval o X.env
      standAt apos.atName
      let (f, first) ← holding [ov] (getMethod ov x pl)
      callWith pos f first (backTo pos (starEach (e :: es) X.env)) (backToKw pos (keywordEach [] X.env))) := by rfl) : PE X (.Call (.Attribute o x apos) (e :: es) [] pos) (tE B W (mMeth c x F me mr)) := by
  obtain ⟨f, fd, ps, FO, hc, hm, bd⟩ := cm
  exact PE.cut (pe_me (pl := pl) ho hc hm FO (hr.mono hk) bd (fun σ => passAt tk σ) ha hst hpl ht) tMe_of
theorem de_meth0 {pl : Sem Bool} (cm : CalM X.prog X.w X.K X.mg X.base B c x k F) (hr : Room j X.A) (hk : k ≤ j) (tk : Takes X W) (ho : PE X o (tE B W me))
    (ht : eval (.Call (.Attribute o x apos) [] [] pos) X.env = (do
      let ov ← eval o X.env
      standAt apos.atName
      let (f, first) ← holding [ov] (getMethod ov x pl)
      callWith pos f first (backTo pos (starEach [] X.env)) (backToKw pos (keywordEach [] X.env))) := by rfl) : PE X (.Call (.Attribute o x apos) [] [] pos) (tE B W (mMeth c x F me aNil)) := by
  obtain ⟨f, fd, ps, FO, hc, hm, bd⟩ := cm
  refine PE.cut (pe_me0 (pl := pl) ho hc hm FO (hr.mono hk) bd (fun σ => passAt tk σ) ht) fun σ H Q t => ?_
  obtain ⟨m, S, en, s, cc, er, q⟩ := tMe_of σ H Q t
  refine ⟨m, S, en, s, cc, er, q.imp ?_⟩
  rintro v H1 ⟨a, dx, fs, ex, ea, l, m1, S1, en1, s1, c1, er1, q1⟩
  exact ⟨a, dx, fs, ex, ea, l, q1 m1 H1 [] (Le.refl s1) c1 rfl⟩
end
end G
end
section
set_option Elab.async false
set_option linter.all false
set_option maxRecDepth 100000
set_option maxHeartbeats 2000000
/-! G19: a class called; a field stored -/
namespace G
open PySem L2
/-- a new object, __init__ run over it -/
noncomputable def mkR (c : Nat) (F : Fn) (ds : List D) (S : Sto) : Res D := if ds.length + 1 = F.n then (F.run (.ref S.length :: ds) (S ++ [.ins c [] []])).bind fun v S2 => match v with
  | .non => .ok (.ref S.length) S2
  | _ => .bad else .bad
/-- C(..), an object that is changed no more -/
noncomputable def mMake (c : Nat) (F : Fn) (r : MA) : ME := fun en S => (r en S).bind fun ds S1 => (mkR c F ds S1).frz S1
/-- C(..), an object of the store -/
noncomputable def mMakeR (c : Nat) (F : Fn) (r : MA) : ME := fun en S => (r en S).bind fun ds S1 => mkR c F ds S1
theorem Le.frame {m : Mp} {H : Hp} {a : Addr} {o : HO} (s : Sub m H) (h : H a = none) : Le m H m (upd H a o) := ⟨Kp.refl m, fun b u z hu => ⟨by
  rw [upd_ne (fun e => by rw [e, h] at hu; cases hu)]
  exact hu, z⟩, fun b u hb => by
  have := s b u hb
  rw [upd_ne (fun e => by rw [e, h] at this; cases this)]
  exact this⟩
theorem mk_post {B : Bas} {E : XK} {m : Mp} {S : Sto} {H : Hp} {Q : VK} {c : Nat} {F : Fn} {ds : List D} {vs : List V} (s : Sub m H) (cc : Cor B m S) (r : Reps B m ds vs) (p : Post B (Rep B) E m H Q (mkR c F ds S)) :
    ∀ x dx, H x = none → H dx = none → dx ≠ x → spF B F (.ref x :: vs) (upd (upd H dx (.own x)) x (.ins (B.cls c) dx [])) (fun v H2 => v = .non ∧ Q (.ref x) H2) E := by
  intro x dx hx hdx ne
  have l0 : Le m H m (upd H dx (.own x)) := Le.frame s hdx
  have hx' : (upd H dx (.own x)) x = none := by rw [upd_ne ne.symm]; exact hx
  have l1 : Le m (upd H dx (.own x)) (m.add x (.ins (B.cls c) dx [])) (upd (upd H dx (.own x)) x (.ins (B.cls c) dx [])) := Le.add cc l0.sub hx'
  unfold mkR at p
  split at p
  · rename_i hn
    have ob : ObR B (m.add x (.ins (B.cls c) dx [])) x (.ins c [] []) := ⟨dx, [], upd_same, rfl, Reps.nil⟩
    refine ⟨m.add x (.ins (B.cls c) dx []), S ++ [.ins c [] []], .ref S.length :: ds, l1.sub, Cor.add cc l0.sub hx' ob, ?_, by rw [← hn]; rfl, ?_⟩
    · simp only [Reps]
      exact ⟨_, _, rfl, rp_ref cc, r.mono (l0.trans l1)⟩
    · refine (Post.bind (Post.shift (l0.trans l1) p)).imp ?_
      rintro v H2 ⟨d, S2, m2, _, l2, c2, r2, p2⟩
      split at p2
      · refine ⟨r2.non_eq, ?_⟩
        refine p2 m2 H2 _ (Le.refl l2.sub) c2 ?_
        exact (rp_ref (p := x) (o := .ins (B.cls c) dx []) cc).mono l2
      · exact p2.elim
  · exact p.elim
def CalK (P : Program) (w : World) (K : PySem.W.Frag) (mg : Str → Option Value) (base : Heap) (B : Bas) (x : Str) (c k : Nat) (F : Fn) : Prop :=
  ∃ (f : Addr) (fd : FuncData) (ps : List Str), FnOk P w K mg base (L2.CX P w) k f fd ps (spF B F) ∧ Mk K (B.cls c) f ∧ mg x = some (.ref (B.cls c)) ∧ Binds K fd ps []
section
variable {X : Cx} {B : Bas} {W : WX} {e : Expr} {es : List Expr} {x : Str} {p pos : Pos} {mr : MA} {c k j : Nat} {F : Fn}
theorem tMk_of (σ : St) (H : Hp) (Q : VK) (t : tE B W (mMake c F mr) σ H Q) : tMk (B.cls c) (spF B F) (fun σ => at' W σ) (tA B W mr) σ H Q := by
  obtain ⟨m, S, en, s, cc, er, q⟩ := t
  refine ⟨m, S, en, s, cc, er, (Post.bind q).imp ?_⟩
  rintro vs H1 ⟨ds, S1, m1, _, l1, c1, r1, p1⟩
  exact mk_post l1.sub c1 r1 (Post.frz c1 p1)
theorem tMkR_of (σ : St) (H : Hp) (Q : VK) (t : tE B W (mMakeR c F mr) σ H Q) : tMk (B.cls c) (spF B F) (fun σ => at' W σ) (tA B W mr) σ H Q := by
  obtain ⟨m, S, en, s, cc, er, q⟩ := t
  refine ⟨m, S, en, s, cc, er, (Post.bind q).imp ?_⟩
  rintro vs H1 ⟨ds, S1, m1, _, l1, c1, r1, p1⟩
  exact mk_post l1.sub c1 r1 p1
theorem de_make (ck : CalK X.prog X.w X.K X.mg X.base B x c k F) (hr : Room j X.A) (hk : k + 1 ≤ j) (tk : Takes X W) (ha : PA X (e :: es) (tA B W mr)) (hg : Gl X x := by rfl) (hdb : (x == ("__debug__" : Str)) = false := by decide)
    (he : starEach (e :: es) X.env = (false, eval e X.env) :: starEach es X.env := by rfl) (hpl : (backTo pos (starEach es X.env)).any (·.1) = false := by rfl) : PE X (.Call (.Name x p) (e :: es) [] pos) (tE B W (mMake c F mr)) := by
  obtain ⟨f, fd, ps, FO, M, hm, bd⟩ := ck
  exact PE.cut (pe_mk M FO (hr.mono hk) hg hm bd (fun σ => passAt tk σ) ha hdb he hpl) tMk_of
theorem de_makeR (ck : CalK X.prog X.w X.K X.mg X.base B x c k F) (hr : Room j X.A) (hk : k + 1 ≤ j) (tk : Takes X W) (ha : PA X (e :: es) (tA B W mr)) (hg : Gl X x := by rfl) (hdb : (x == ("__debug__" : Str)) = false := by decide)
    (he : starEach (e :: es) X.env = (false, eval e X.env) :: starEach es X.env := by rfl) (hpl : (backTo pos (starEach es X.env)).any (·.1) = false := by rfl) : PE X (.Call (.Name x p) (e :: es) [] pos) (tE B W (mMakeR c F mr)) := by
  obtain ⟨f, fd, ps, FO, M, hm, bd⟩ := ck
  exact PE.cut (pe_mk M FO (hr.mono hk) hg hm bd (fun σ => passAt tk σ) ha hdb he hpl) tMkR_of
end
/-! ### e.f = v -/
def putN (f : Str) : List Str → List Str
  | [] => [f]
  | n :: ns => if n = f then n :: ns else n :: putN f ns
def putD (f : Str) (d : D) : List Str → List D → List D
  | n :: ns, x :: ds => if n = f then d :: ds else x :: putD f d ns ds
  | _, _ => [d]
theorem putF_zip {B : Bas} {m : Mp} {f : Str} {d : D} {v : V} (rv : Rep B m d v) : ∀ {ns : List Str} {ds : List D} {vs : List V}, ns.length = vs.length → Reps B m ds vs →
    ∃ us, putF f v (ns.zip vs) = (putN f ns).zip us ∧ (putN f ns).length = us.length ∧ Reps B m (putD f d ns ds) us
  | [], ds, vs, hl, r => by
    have : vs = [] := List.eq_nil_of_length_eq_zero hl.symm
    subst this
    have : ds = [] := by
      cases ds with
      | nil => rfl
      | cons _ _ => simp only [Reps] at r; obtain ⟨_, _, z, _⟩ := r; cases z
    subst this
    exact ⟨[v], rfl, rfl, by simp only [putD, Reps]; exact ⟨v, [], rfl, rv, rfl⟩⟩
  | n :: ns, [], vs, hl, r => by
    simp only [Reps] at r
    subst r
    cases hl
  | n :: ns, x :: ds, vs, hl, r => by
    simp only [Reps] at r
    obtain ⟨u, vs', rfl, ru, rs⟩ := r
    have hl' : ns.length = vs'.length := by simpa using hl
    by_cases e : n = f
    · refine ⟨v :: vs', ?_, ?_, ?_⟩
      · rw [List.zip_cons_cons, putF, if_pos e, putN, if_pos e]
        rfl
      · rw [putN, if_pos e]
        simpa using hl'
      · rw [putD, if_pos e]
        simp only [Reps]
        exact ⟨v, vs', rfl, rv, rs⟩
    · obtain ⟨us, h1, h2, h3⟩ := putF_zip rv hl' rs
      refine ⟨u :: us, ?_, ?_, ?_⟩
      · rw [List.zip_cons_cons, putF, if_neg e, putN, if_neg e, h1]
        rfl
      · rw [putN, if_neg e]
        simpa using h2
      · rw [putD, if_neg e]
        simp only [Reps]
        exact ⟨u, us, rfl, ru, h3⟩
theorem zip_len {ns : List Str} {vs : List V} : (ns.zip vs).length ≤ ns.length := by
  rw [List.length_zip]
  exact Nat.min_le_left _ _
/-- o.f = e, o an object of the store -/
def sFldS (cs : List Nat) (f : Str) (o e : ME) : MS := fun en S => (e en S).bind fun d S1 => (o en S1).bind fun x S2 => match x with
  | .ref i => match S2[i]? with
    | some (.ins c ns ds) => if c ∈ cs ∧ ns.length < 1000 then .ok (.nx en) (S2.set i (.ins c (putN f ns) (putD f d ns ds))) else .bad
    | _ => .bad
  | _ => .bad
theorem ds_fld {X : Cx} {B : Bas} {W : WX} {o e : Expr} {f : Str} {pos pos' : Pos} {mo me : ME} {cs : List Nat} (hc : FldOk X.K B cs f) (ho : PE X o (tE B W mo)) (he : PE X e (tE B W me))
    (hs : swapsWith e (some (.Attribute o f pos')) pos.line X.env = pure false := by rfl) : PS X (.Assign [.Attribute o f pos'] e pos) (tS B W (sFldS cs f mo me)) :=
  PS.cut (ps_fld ho he hs) fun D σ H ⟨m, S, en, s, c, er, p⟩ => ⟨m, S, en, s, c, er, (Post.bind p).imp (by
    rintro v H1 ⟨d, S1, m1, _, l1, c1, r1, p1⟩
    refine ⟨m1, S1, en, l1.sub, c1, er.mono l1, (Post.bind p1).imp ?_⟩
    rintro u H2 ⟨x, S2, m2, _, l2, c2, r2, p2⟩
    split at p2
    · rename_i i _
      split at p2
      · rename_i c' ns ds hx
        split at p2
        · rename_i hm
          simp only [Rep] at r2
          obtain ⟨hi, rfl⟩ := r2
          obtain ⟨dx, vs, z, hl, rs⟩ := c2.ob _ _ hx
          obtain ⟨us, e1, e2, e3⟩ := putF_zip (f := f) (r1.mono l2) hl rs
          have l3 := Le.write (o := .ins (B.cls c') dx ((putN f ns).zip us)) c2 l2.sub hi
          refine ⟨m2.mu i, _, dx, _, rfl, l2.sub _ _ z, (hc c' hm.1).1, (hc c' hm.1).2, Nat.lt_of_le_of_lt zip_len hm.2, ?_⟩
          rw [e1]
          exact p2 _ _ (.nx σ) l3 (Cor.write c2 l2.sub hi ⟨dx, us, upd_same, e2, e3.mono l3⟩) (((er.mono l1).mono l2).mono l3)
        · exact p2.elim
      · exact p2.elim
    · exact p2.elim)⟩
end G
end
section
set_option Elab.async false
set_option linter.all false
set_option maxRecDepth 100000
set_option maxHeartbeats 2000000
/-! G20: dicts whose keys are tuples of numbers and texts -/
namespace G
open PySem L2
def lookT : List (List Key) → List D → List Key → Option D
  | q :: qs, d :: ds, k => if q = k then some d else lookT qs ds k
  | _, _, _ => none
theorem lookT_of {B : Bas} {m : Mp} {k : List Key} : ∀ {qs : List (List Key)} {ds : List D} {vs : List V}, Reps B m ds vs → (lookT qs ds k = none → valV (qs.zip vs) k = none) ∧ ∀ d, lookT qs ds k = some d → ∃ v, valV (qs.zip vs) k = some v ∧ Rep B m d v
  | [], ds, vs, r => ⟨fun _ => rfl, fun d h => by cases ds <;> simp [lookT] at h⟩
  | q :: qs, [], vs, r => by
    simp only [Reps] at r
    subst r
    exact ⟨fun _ => rfl, fun d h => by simp [lookT] at h⟩
  | q :: qs, x :: ds, vs, r => by
    simp only [Reps] at r
    obtain ⟨u, us, rfl, ru, rs⟩ := r
    obtain ⟨h1, h2⟩ := lookT_of (qs := qs) (k := k) rs
    rw [List.zip_cons_cons]
    by_cases e : q = k
    · refine ⟨fun h => ?_, fun d h => ?_⟩
      · simp [lookT, e] at h
      · simp only [lookT, if_pos e] at h
        cases h
        exact ⟨u, valV_pos e, ru⟩
    · have hv : valV ((q, u) :: qs.zip us) k = valV (qs.zip us) k := by simp [valV, List.find?_cons, e]
      rw [hv]
      simp only [lookT, if_neg e]
      exact ⟨h1, h2⟩
/-- what a dict holds at a key: none where the two are no dict and no key -/
def dGetO (S : Sto) (x y : D) : Option (Option D) := match dicOf S x, tkeyD y with
  | some (ks, ds), some k => match tkeysD ks with
    | some qs => some (lookT qs ds k)
    | none => none
  | _, _ => none
theorem keysD_vals {B : Bas} {m : Mp} : ∀ {ds : List D} {vs : List V} {k : List Key}, Reps B m ds vs → keysD ds = some k → vs = k.map kV
  | [], vs, k, r, h => by
    simp only [Reps] at r
    cases h
    exact r
  | d :: ds, vs, k, r, h => by
    simp only [Reps] at r
    obtain ⟨v, us, rfl, rv, rs⟩ := r
    simp only [keysD] at h
    cases h1 : keyD d with
    | none => rw [h1] at h; cases h
    | some a =>
      cases h2 : keysD ds with
      | none => rw [h1, h2] at h; cases h
      | some b =>
        rw [h1, h2] at h
        cases h
        rw [keysD_vals rs h2, List.map_cons]
        congr 1
        cases d <;> simp [keyD] at h1
        · subst h1; exact rv.int_eq
        · subst h1; exact rv.str_eq
theorem tkey_at {B : Bas} {m : Mp} {H : Hp} {y : D} {k : List Key} {v : V} (s : Sub m H) (r : Rep B m y v) (h : tkeyD y = some k) : ∃ b, v = .ref b ∧ H b = some (.tup (k.map kV)) := by
  cases y <;> simp only [tkeyD] at h <;> try (cases h)
  simp only [Rep] at r
  obtain ⟨a, vs, rfl, t, rs⟩ := r
  exact ⟨a, rfl, by rw [← keysD_vals rs h]; exact s _ _ t.1⟩
theorem dic_dT {o : Option HO} {ks : List D} {vs : List V} {qs : List (List Key)} (h : DicAt o ks vs) (e : tkeysD ks = some qs) : o = some (.dT (qs.zip vs)) := by
  rcases h with ⟨_, ⟨q, ne, hq, _⟩ | ⟨q, hq, z⟩⟩
  · cases ks with
    | nil => exact absurd rfl ne
    | cons k r =>
      simp only [keysD] at hq
      simp only [tkeysD] at e
      cases k <;> simp [keyD, tkeyD] at hq e
  · rw [e] at hq
    cases hq
    exact z
theorem dGet_of {B : Bas} {m : Mp} {H : Hp} {S : Sto} {x y : D} {v u : V} {o : Option D} (s : Sub m H) (c : Cor B m S) (rx : Rep B m x v) (ry : Rep B m y u) (h : dGetO S x y = some o) :
    ∃ a r, v = .ref a ∧ IsD H a ∧ DGet H a u r ∧ (o = none → r = none) ∧ ∀ d, o = some d → ∃ z, r = some z ∧ Rep B m d z := by
  unfold dGetO at h
  split at h
  · rename_i ks ds k hd hk
    split at h
    · rename_i qs hq
      cases h
      obtain ⟨a, vs, rfl, z, rs⟩ := repD s c rx hd
      obtain ⟨b, rfl, hb⟩ := tkey_at s ry hk
      have hz := dic_dT z hq
      obtain ⟨h1, h2⟩ := lookT_of (qs := qs) (k := k) rs
      exact ⟨a, _, rfl, .inr ⟨_, .inl hz⟩, DGet.t hz hb, h1, h2⟩
    · cases h
  · cases h
/-- d[k], the key being there -/
def mDGet (a b : ME) : ME := fun en S => (a en S).bind fun x S1 => (b en S1).bind fun y S2 => match dGetO S2 x y with
  | some (some d) => .ok d S2
  | _ => .bad
theorem de_dget {X : Cx} {B : Bas} {W : WX} {a b : Expr} {pos : Pos} {ma mb : ME} (hu : X.A.units + 1 < cLine) (ha : PE X a (tE B W ma)) (hb : PE X b (tE B W mb)) (hs : NoSl b := by intro _ _; rfl) :
    PE X (.Subscript a b pos) (tE B W (mDGet ma mb)) := PE.cut (pe_dget hu ha hb hs) fun σ H Q ⟨m, S, en, s, c, er, p⟩ => ⟨m, S, en, s, c, er, (Post.bind p).imp (by
  rintro v H1 ⟨x, S1, m1, _, l1, c1, r1, p1⟩
  refine ⟨m1, S1, en, l1.sub, c1, er.mono l1, (Post.bind p1).imp ?_⟩
  rintro u H2 ⟨y, S2, m2, _, l2, c2, r2, p2⟩
  split at p2
  · rename_i d hd
    obtain ⟨a, r, e1, _, g, _, h2⟩ := dGet_of l2.sub c2 (r1.mono l2) r2 hd
    obtain ⟨z, rfl, rz⟩ := h2 d rfl
    exact ⟨a, z, e1, g, p2 m2 H2 z (Le.refl l2.sub) c2 rz⟩
  · exact p2.elim)⟩
/-- d.get(k, z) -/
def mDGet2 (a b z : ME) : ME := fun en S => (a en S).bind fun x S1 => match dicOf S1 x with
  | some (ks, _) => match tkeysD ks with
    | some _ => (b en S1).bind fun y S2 => (z en S2).bind fun w S3 => match dGetO S3 x y with
      | some (some d) => .ok d S3
      | some none => .ok w S3
      | none => .bad
    | none => .bad
  | none => .bad
theorem de_dget2 {X : Cx} {B : Bas} {W : WX} {a b z : Expr} {apos cpos : Pos} {ma mb mz : ME} (hu : X.A.units + 1 < cLine) (ha : PE X a (tE B W ma)) (hb : PE X b (tE B W mb)) (hz : PE X z (tE B W mz)) (hm : M2 X a "get" apos b z cpos) :
    PE X (.Call (.Attribute a "get" apos) [b, z] [] cpos) (tE B W (mDGet2 ma mb mz)) := PE.cut (pe_dget2 hu ha hb hz hm) fun σ H Q ⟨m, S, en, s, c, er, p⟩ => ⟨m, S, en, s, c, er, (Post.bind p).imp (by
  rintro v H1 ⟨x, S1, m1, _, l1, c1, r1, p1⟩
  split at p1
  · rename_i ks ds hd
    split at p1
    · rename_i qs hq
      obtain ⟨a, vs, rfl, za, rs⟩ := repD l1.sub c1 r1 hd
      refine ⟨a, rfl, .inr ⟨_, .inl (dic_dT za hq)⟩, m1, S1, en, l1.sub, c1, er.mono l1, (Post.bind p1).imp ?_⟩
      rintro u H2 ⟨y, S2, m2, _, l2, c2, r2, p2⟩
      refine ⟨m2, S2, en, l2.sub, c2, (er.mono l1).mono l2, (Post.bind p2).imp ?_⟩
      rintro t H3 ⟨w, S3, m3, _, l3, c3, r3, p3⟩
      split at p3
      · rename_i d hg
        obtain ⟨a', r, e1, _, g, _, h2⟩ := dGet_of l3.sub c3 ((r1.mono l2).mono l3) (r2.mono l3) hg
        cases e1
        obtain ⟨z, rfl, rz⟩ := h2 d rfl
        exact ⟨_, g, p3 m3 H3 z (Le.refl l3.sub) c3 rz⟩
      · rename_i hg
        obtain ⟨a', r, e1, _, g, h2, _⟩ := dGet_of l3.sub c3 ((r1.mono l2).mono l3) (r2.mono l3) hg
        cases e1
        obtain rfl := h2 rfl
        exact ⟨_, g, p3 m3 H3 t (Le.refl l3.sub) c3 r3⟩
      · exact p3.elim
    · exact p1.elim
  · exact p1.elim)⟩
/-- {}, a dict of the store -/
def mDNew : ME := fun _ S => .ok (.ref S.length) (S ++ [.dic [] []])
theorem de_dnew {X : Cx} {B : Bas} {W : WX} {pos : Pos} : PE X (.Dict [] [] pos) (tE B W mDNew) := PE.cut pe_dnewT fun σ H Q ⟨m, S, en, s, c, er, p⟩ => fun q hq => by
  have ob : ObR B (m.add q (.dT [])) q (.dic [] []) := ⟨[], ⟨rfl, .inr ⟨[], rfl, upd_same⟩⟩, Reps.nil⟩
  exact p _ _ _ (Le.add c s hq) (Cor.add c s hq ob) (rp_ref c)
/-- {}, changed no more -/
def mDEmp : ME := fun _ S => .ok (.dic [] []) S
theorem de_demp {X : Cx} {B : Bas} {W : WX} {pos : Pos} : PE X (.Dict [] [] pos) (tE B W mDEmp) := PE.cut pe_dnewT fun σ H Q ⟨m, S, en, s, c, er, p⟩ => fun q hq => by
  have ob : ObR B (m.add q (.dT [])) q (.dic [] []) := ⟨[], ⟨rfl, .inr ⟨[], rfl, upd_same⟩⟩, Reps.nil⟩
  have h : Post B (Rep B) (at' W σ) m H Q (.ok (.ref S.length) (S ++ [.dic [] []])) := by
    refine Post.frz c ?_
    simp only [Res.frz, Nat.lt_irrefl, if_false, List.getElem?_append_right (Nat.le_refl _), Nat.sub_self, List.getElem?_cons_zero]
    rw [if_pos ⟨Cl.app _ _, by simp [Ob.bel, D.bels]⟩, List.take_left']
    · exact p
    · rfl
  exact h _ _ _ (Le.add c s hq) (Cor.add c s hq ob) (rp_ref c)
end G
end
section
set_option Elab.async false
set_option linter.all false
set_option maxRecDepth 100000
set_option maxHeartbeats 2000000
/-! G21: d[k] = v -/
namespace G
open PySem L2
def replT (k : List Key) (d : D) : List (List Key) → List D → List D
  | q :: qs, x :: ds => (if q = k then d else x) :: replT k d qs ds
  | _, _ => []
theorem replT_of {B : Bas} {m : Mp} {k : List Key} {d : D} {v : V} (rv : Rep B m d v) : ∀ {qs : List (List Key)} {ds : List D} {vs : List V}, qs.length = vs.length → Reps B m ds vs →
    ∃ us, (qs.zip vs).map (fun kv => if kv.1 = k then (kv.1, v) else kv) = qs.zip us ∧ qs.length = us.length ∧ Reps B m (replT k d qs ds) us
  | [], ds, vs, hl, r => by
    have : vs = [] := List.eq_nil_of_length_eq_zero hl.symm
    subst this
    exact ⟨[], rfl, rfl, by simp only [replT, Reps]⟩
  | q :: qs, [], vs, hl, r => by
    simp only [Reps] at r
    subst r
    cases hl
  | q :: qs, x :: ds, vs, hl, r => by
    simp only [Reps] at r
    obtain ⟨u, us, rfl, ru, rs⟩ := r
    obtain ⟨ws, h1, h2, h3⟩ := replT_of rv (by simpa using hl) rs
    refine ⟨(if q = k then v else u) :: ws, ?_, by simpa using h2, ?_⟩
    · rw [List.zip_cons_cons, List.map_cons, h1, List.zip_cons_cons]
      by_cases e : q = k <;> simp [e]
    · simp only [replT, Reps]
      refine ⟨_, _, rfl, ?_, h3⟩
      by_cases e : q = k
      · simp only [e, if_true]; exact rv
      · simp only [e, if_false]; exact ru
theorem Reps.snoc {B : Bas} {m : Mp} {d : D} {v : V} (rv : Rep B m d v) : ∀ {ds : List D} {vs : List V}, Reps B m ds vs → Reps B m (ds ++ [d]) (vs ++ [v])
  | [], vs, r => by
    simp only [Reps] at r
    subst r
    simp only [List.nil_append, Reps]
    exact ⟨v, [], rfl, rv, rfl⟩
  | x :: ds, vs, r => by
    simp only [Reps] at r
    obtain ⟨u, us, rfl, ru, rs⟩ := r
    simp only [List.cons_append, Reps]
    exact ⟨u, us ++ [v], rfl, ru, Reps.snoc rv rs⟩
theorem tkeysD_snoc {y : D} {k : List Key} (hy : tkeyD y = some k) : ∀ {ks : List D} {qs : List (List Key)}, tkeysD ks = some qs → tkeysD (ks ++ [y]) = some (qs ++ [k])
  | [], qs, h => by
    cases h
    simp [tkeysD, hy]
  | x :: ks, qs, h => by
    simp only [tkeysD] at h
    cases h1 : tkeyD x with
    | none => rw [h1] at h; cases h
    | some a =>
      cases h2 : tkeysD ks with
      | none => rw [h1, h2] at h; cases h
      | some b =>
        rw [h1, h2] at h
        cases h
        simp only [List.cons_append, tkeysD, h1, tkeysD_snoc hy h2]
def hasK (k : List Key) (qs : List (List Key)) : Bool := qs.any fun q => decide (q = k)
/-- the dict behind d[k] = v -/
def putT (ks : List D) (qs : List (List Key)) (ds : List D) (y : D) (k : List Key) (d : D) : Ob := if hasK k qs = true then .dic ks (replT k d qs ds) else .dic (ks ++ [y]) (ds ++ [d])
theorem putT_of {B : Bas} {m : Mp} {ks ds : List D} {vs : List V} {qs : List (List Key)} {y d : D} {k : List Key} {v : V} (hq : tkeysD ks = some qs) (hl : ks.length = vs.length) (hy : tkeyD y = some k) (rs : Reps B m ds vs) (rv : Rep B m d v) :
    ∃ ks' ds' qs' us, putT ks qs ds y k d = .dic ks' ds' ∧ putK (qs.zip vs) k v = qs'.zip us ∧ tkeysD ks' = some qs' ∧ ks'.length = us.length ∧ Reps B m ds' us := by
  have hl2 : qs.length = vs.length := by rw [tkeysD_length hq, hl]
  have any : ((qs.zip vs).any fun kv => decide (kv.1 = k)) = hasK k qs := by
    have : ∀ (qs : List (List Key)) (vs : List V), qs.length = vs.length → ((qs.zip vs).any fun kv => decide (kv.1 = k)) = hasK k qs := by
      intro qs
      induction qs with
      | nil => intro vs _; rfl
      | cons q qs ih =>
        intro vs h
        cases vs with
        | nil => cases h
        | cons v vs =>
          rw [List.zip_cons_cons, List.any_cons, ih vs (by simpa using h)]
          rfl
    exact this qs vs hl2
  unfold putT putK
  rw [any]
  by_cases hk : hasK k qs = true
  · obtain ⟨us, h1, h2, h3⟩ := replT_of (k := k) rv hl2 rs
    exact ⟨ks, _, qs, us, if_pos hk, by rw [if_pos hk, h1], hq, by rw [← tkeysD_length hq, h2], h3⟩
  · refine ⟨ks ++ [y], ds ++ [d], qs ++ [k], vs ++ [v], if_neg hk, ?_, tkeysD_snoc hy hq, by simp [hl], rs.snoc rv⟩
    rw [if_neg hk, List.zip_append hl2]
    rfl
def sDPutS (o k e : ME) : MS := fun en S => (e en S).bind fun d S1 => (o en S1).bind fun x S2 => (k en S2).bind fun y S3 => match x, tkeyD y with
  | .ref i, some k => match S3[i]? with
    | some (.dic ks ds) => match tkeysD ks with
      | some qs => if ks.length < sizeLine then .ok (.nx en) (S3.set i (putT ks qs ds y k d)) else .bad
      | none => .bad
    | _ => .bad
  | _, _ => .bad
theorem ds_dput {X : Cx} {B : Bas} {W : WX} {o k e : Expr} {pos pos' : Pos} {mo mk me : ME} (hu : X.A.units + 1 < cLine) (ho : PE X o (tE B W mo)) (hk : PE X k (tE B W mk)) (he : PE X e (tE B W me))
    (hs : swapsWith e (some (.Subscript o k pos')) pos.line X.env = pure false := by rfl) : PS X (.Assign [.Subscript o k pos'] e pos) (tS B W (sDPutS mo mk me)) :=
  PS.cut (ps_dput hu ho hk he hs) fun D σ H ⟨m, S, en, s, c, er, p⟩ => ⟨m, S, en, s, c, er, (Post.bind p).imp (by
    rintro v H1 ⟨d, S1, m1, _, l1, c1, r1, p1⟩
    refine ⟨m1, S1, en, l1.sub, c1, er.mono l1, (Post.bind p1).imp ?_⟩
    rintro u H2 ⟨x, S2, m2, _, l2, c2, r2, p2⟩
    refine ⟨m2, S2, en, l2.sub, c2, (er.mono l1).mono l2, (Post.bind p2).imp ?_⟩
    rintro t H3 ⟨y, S3, m3, _, l3, c3, r3, p3⟩
    split at p3
    · rename_i i kk hy _
      split at p3
      · rename_i ks ds hx
        split at p3
        · rename_i qs hq
          split at p3
          · rename_i hz
            have r2' := r2.mono l3
            simp only [Rep] at r2'
            obtain ⟨hi, rfl⟩ := r2'
            obtain ⟨vs, z, rs⟩ := c3.ob _ _ hx
            have hl : ks.length = vs.length := z.1
            have hz' := dic_dT z hq
            obtain ⟨b, rfl, hb⟩ := tkey_at l3.sub r3 hy
            obtain ⟨ks', ds', qs', us, e1, e2, e3, e4, e5⟩ := putT_of hq hl hy rs ((r1.mono l2).mono l3)
            have l4 := Le.write (o := .dT (qs'.zip us)) c3 l3.sub hi
            refine ⟨m3.mu i, _, rfl, DPut.t (l3.sub _ _ hz') hb ?_, ?_⟩
            · rw [List.length_zip, tkeysD_length hq, ← hl, Nat.min_self]
              exact hz
            · rw [e2]
              rw [e1] at p3
              have ob : ObR B (m3.put (m3.mu i) (.dT (qs'.zip us))) (m3.mu i) (.dic ks' ds') := ⟨us, ⟨e4, .inr ⟨qs', e3, upd_same⟩⟩, e5.mono l4⟩
              exact p3 _ _ (.nx σ) l4 (Cor.write c3 l3.sub hi ob) ((((er.mono l1).mono l2).mono l3).mono l4)
          · exact p3.elim
        · exact p3.elim
      · exact p3.elim
    · exact p3.elim)⟩
end G
end
section
set_option Elab.async false
set_option linter.all false
set_option maxRecDepth 100000
set_option maxHeartbeats 2000000
/-! G22: == of dicts whose keys are tuples -/
namespace G
open PySem L2 PyProof.Rows
section
variable {P : Program} {w : World} {K : Type} [DecidableEq K] {knd : HeapKind P w K} {A : Around} {E : Value → Shared → Prop} {s : Shared}
abbrev Ent (K : Type) := List (K × Addr × Value)
/-- the pairs of one dict stand in the other, by f -/
def pairsIn (f : Value → Value → Bool) (xb : Ent K) (xa : Ent K) : Bool := xa.all fun x => match atKey xb x.1 with
  | some p => f x.2.2 p.2
  | none => false
theorem same_pairs {nm : String} {a b : Addr} {xa xb : Ent K} {f : Value → Value → Bool} {Q : Bool → Shared → Prop} (hu : knd.room A) (ha : (a == sysModules) = false) (hb : (b == sysModules) = false) (da : s.heap.DictOfH knd a xa) (db : s.heap.DictOfH knd b xb)
    (he : ∀ x ∈ xa, ∀ y ∈ xb, SeqAt.EqAt A s x.2.2 y.2.2 (f x.2.2 y.2.2)) (q : Q (xa.length == xb.length && pairsIn f xb xa) s) : wpAny (model P w) A (Builtin.Dict.samePairs nm a b) Q E s := by
  obtain ⟨oa, es, ep, hoa, _, hda, hka, hia, _⟩ := da
  obtain ⟨ob, es', ep', hob, _, hdb, hkb, hib, hnb⟩ := db
  have la : xa.length = es.size := by simpa using (congrArg List.length hka).symm
  have lb : xb.length = es'.size := by simpa using (congrArg List.length hkb).symm
  rw [la, lb] at q
  unfold Builtin.Dict.samePairs Builtin.Dict.showsAll
  rw [if_neg (by rw [ha]; exact Bool.false_ne_true), if_neg (by rw [hb]; exact Bool.false_ne_true)]
  refine wpAny_bind (wpAny_pure (wpAny_bind (wpAny_pure (wpAny_bind (wpAny_dictEntries hoa hda ?_)))))
  dsimp only
  refine wpAny_bind (wpAny_dictEntries hob hdb ?_)
  by_cases hsz : es.size = es'.size
  · have q' : Q (pairsIn f xb xa) s := by simpa [hsz] using q
    rw [if_neg (by rw [hsz]; simp)]
    refine wpAny_bind (wpAny_dictEpoch hoa hda (wpAny_bind ?_))
    rw [Std.Legacy.Range.forIn_eq_forIn_range']
    simp only [Std.Legacy.Range.size, Nat.sub_zero, Nat.add_sub_cancel, Nat.div_one]
    refine wpAny_forIn_list _ (fun l r z => z = s ∧ r = (none, ()) ∧ ∃ i, l = List.range' i (es.size - i) ∧ i ≤ es.size ∧ pairsIn f xb (xa.take i) = true) _ ?_ ?_ _ _ ⟨rfl, rfl, 0, by simp, Nat.zero_le _, rfl⟩
    · rintro x l r z ⟨rfl, rfl, i, hr, hi, pre⟩
      have hlt : i < es.size := by
        rcases Nat.lt_or_ge i es.size with h | h
        · exact h
        · rw [Nat.sub_eq_zero_of_le h] at hr
          cases hr
      rw [show es.size - i = (es.size - (i + 1)) + 1 by omega, List.range'_succ] at hr
      injection hr with h1 h2
      subst h1
      refine wpAny_bind (wpAny_dictEntries hoa hda ?_)
      have hx : x < xa.length := by omega
      have e1 : es[x]? = some (entryOfKey knd xa[x]) := by rw [entry_at hka, List.getElem?_eq_getElem hx]; rfl
      rw [e1]
      dsimp only
      have mx : xa[x] ∈ xa := List.getElem_mem hx
      have split : pairsIn f xb xa = ((match atKey xb xa[x].1 with
          | some p => f xa[x].2.2 p.2
          | none => false) && pairsIn f xb (xa.drop (x + 1))) := by
        unfold pairsIn at pre ⊢
        conv => lhs; rw [← List.take_append_drop x xa, List.all_append, pre, Bool.true_and, List.drop_eq_getElem_cons hx, List.all_cons]
      have no : (match atKey xb xa[x].1 with
          | some p => f xa[x].2.2 p.2
          | none => false) = false → Q false z := fun e => by
        rw [split, e, Bool.false_and] at q'
        exact q'
      have yes : (match atKey xb xa[x].1 with
          | some p => f xa[x].2.2 p.2
          | none => false) = true → pairsIn f xb (xa.take (x + 1)) = true := fun e => by
        unfold pairsIn at pre ⊢
        rw [List.take_succ, List.getElem?_eq_getElem hx, List.all_append, pre, Bool.true_and]
        simpa using e
      refine wpAny_bind (wpAny_holding (wpAny_bind (wpAny_dictFind_heap hu (hia _ mx) hob hdb hkb hib hnb (fun miss => ?_) fun j p hj => ?_)))
      · rw [atKey_none_of_get miss] at no
        refine wpAny_pure ?_
        show wpAny _ _ (if (!false) = true then _ else _) _ _ _
        rw [if_pos (by decide)]
        exact wpAny_pure (wpAny_pure (no rfl))
      · rw [atKey_of_get hnb hj] at no yes
        refine wpAny_bind (wpAny_dictEntries hob hdb ?_)
        rw [entry_at hkb j, hj]
        refine wpAny_holding (he _ mx _ (List.mem_of_getElem? hj) P w _ _ ?_)
        cases e : f xa[x].2.2 p.2 with
        | false =>
          rw [if_pos (by decide)]
          exact wpAny_pure (wpAny_pure (no e))
        | true =>
          rw [if_neg (by decide)]
          refine wpAny_bind (wpAny_dictEpoch hoa hda ?_)
          rw [if_neg (by simp)]
          exact wpAny_pure ⟨rfl, rfl, x + 1, h2, hlt, yes e⟩
    · rintro r z ⟨rfl, rfl, i, hr, hi, pre⟩
      have hin : i = es.size := by
        rcases Nat.lt_or_ge i es.size with h | h
        · rw [show es.size - i = (es.size - (i + 1)) + 1 by omega, List.range'_succ] at hr
          cases hr
        · omega
      rw [hin, ← la, List.take_length] at pre
      rw [pre] at q'
      exact wpAny_pure q'
  · rw [if_pos (by simpa using hsz)]
    have hbf : (es.size == es'.size) = false := by simpa using hsz
    rw [hbf, Bool.false_and] at q
    exact wpAny_bind (wpAny_rule (wpAny_pure q))
theorem eq_dicts {a b : Addr} {xa xb : Ent K} {f : Value → Value → Bool} {Q : Value → Shared → Prop} (hu : knd.room A.in1) (hu2 : A.units < cLine) (ha : (a == sysModules) = false) (hb : (b == sysModules) = false) (da : s.heap.DictOfH knd a xa) (db : s.heap.DictOfH knd b xb)
    (he : ∀ x ∈ xa, ∀ y ∈ xb, SeqAt.EqAt A.in1 s x.2.2 y.2.2 (f x.2.2 y.2.2)) (q : Q (.bool (xa.length == xb.length && pairsIn f xb xa)) s) : wpAny (model P w) A (richCompare .Eq (.ref a) (.ref b)) Q E s := by
  refine wpAny_richCompare_same_room (op := .Eq) da.typeIs db.typeIs PySem.F.slot_dict_eq (wpAny_call_entry PySem.F.slot_dict_eq da.typeIs PySem.F.entry_dict_eq ?_ (PySem.F.args_dict_eq_2 _ _)) hu2
  refine wpAny_bind (m := Builtin.Dict.dictSlotArgs "__eq__" ⟨[.ref a, .ref b], []⟩) ?_
  unfold Builtin.Dict.dictSlotArgs
  refine wpAny_bind (wpAny_notOrdered_dict da.typeIs (wpAny_pure (wpAny_bind (wpAny_isInstance (T := "dict") db.typeIs PySem.F.sub_dict_dict ?_))))
  simp only [Bool.not_true, Bool.false_eq_true, if_false]
  refine wpAny_bind (wpAny_pure (wpAny_bind (wpAny_pure (wpAny_bind (same_pairs hu ha hb da db he (wpAny_pure ⟨_, rfl, ⟨(fun z => Value.noConfusion z), by simpa using q⟩⟩))))))
theorem ne_dicts {a b : Addr} {xa xb : Ent K} {f : Value → Value → Bool} {Q : Value → Shared → Prop} (hu : knd.room A.in1) (hu2 : A.units < cLine) (ha : (a == sysModules) = false) (hb : (b == sysModules) = false) (da : s.heap.DictOfH knd a xa) (db : s.heap.DictOfH knd b xb)
    (he : ∀ x ∈ xa, ∀ y ∈ xb, SeqAt.EqAt A.in1 s x.2.2 y.2.2 (f x.2.2 y.2.2)) (q : Q (.bool (!(xa.length == xb.length && pairsIn f xb xa))) s) : wpAny (model P w) A (richCompare .NotEq (.ref a) (.ref b)) Q E s := by
  refine wpAny_richCompare_same_room (op := .NotEq) da.typeIs db.typeIs PySem.F.slot_dict_ne (wpAny_call_entry PySem.F.slot_dict_ne da.typeIs PySem.F.entry_dict_ne ?_ (PySem.F.args_dict_ne_2 _ _)) hu2
  refine wpAny_bind (m := Builtin.Dict.dictSlotArgs "__ne__" ⟨[.ref a, .ref b], []⟩) ?_
  unfold Builtin.Dict.dictSlotArgs
  refine wpAny_bind (wpAny_notOrdered_dict da.typeIs (wpAny_pure (wpAny_bind (wpAny_isInstance (T := "dict") db.typeIs PySem.F.sub_dict_dict ?_))))
  simp only [Bool.not_true, Bool.false_eq_true, if_false]
  refine wpAny_bind (wpAny_pure (wpAny_bind (wpAny_pure (wpAny_bind (same_pairs hu ha hb da db he (wpAny_pure ⟨_, rfl, ⟨(fun z => Value.noConfusion z), by simpa using q⟩⟩))))))
end
end G
end
section
set_option Elab.async false
set_option linter.all false
set_option maxRecDepth 100000
set_option maxHeartbeats 2000000
/-! G23: == and != of dicts of numbers, over the layer and over data -/
namespace G
open PySem L2 PyProof.Rows
def fInt : Value → Value → Bool
  | .int i _, .int j _ => i == j
  | _, _ => false
def isI : V → Bool
  | .int _ => true
  | _ => false
def vEq : V → V → Bool
  | .int i, .int j => i == j
  | _, _ => false
abbrev KVs := List (List Key × V)
def eqT (ls ks : KVs) : Bool := ks.all fun p => match valV ls p.1 with
  | some v => vEq p.2 v
  | none => false
theorem valV_mem {ls : KVs} {k : List Key} {v : V} (h : valV ls k = some v) : ∃ p ∈ ls, p.2 = v := by
  unfold valV at h
  obtain ⟨p, h1, h2⟩ := Option.map_eq_some_iff.mp h
  exact ⟨p, List.mem_of_find?_eq_some h1, h2⟩
theorem eqT_pairs {H : Hp} {ls : KVs} {xb : List (List Key × Addr × Value)} (rb : KT H ls xb) (ib : ∀ p ∈ ls, isI p.2 = true) : ∀ {ks : KVs} {xa : List (List Key × Addr × Value)}, KT H ks xa → (∀ p ∈ ks, isI p.2 = true) → pairsIn fInt xb xa = eqT ls ks
  | [], _, .nil, _ => rfl
  | p :: ks, _, @Paired.cons _ _ _ _ x _ xa h t, hi => by
    unfold pairsIn eqT at *
    have ih := eqT_pairs rb ib t fun q hq => hi q (List.mem_cons_of_mem _ hq)
    unfold pairsIn eqT at ih
    rw [List.all_cons, List.all_cons, ih]
    congr 1
    obtain ⟨e1, _, rv⟩ := h
    have rel := KT.val rb p.1
    rw [← e1]
    have hp := hi p List.mem_cons_self
    cases hv : valV ls p.1 with
    | none =>
      rw [hv] at rel
      cases ha : atKey xb p.1 with
      | none => rfl
      | some q => rw [ha] at rel; exact rel.elim
    | some v =>
      rw [hv] at rel
      cases ha : atKey xb p.1 with
      | none => rw [ha] at rel; exact rel.elim
      | some q =>
        rw [ha] at rel
        have rq : RelV v q.2 := rel
        obtain ⟨p', hp', ev⟩ := valV_mem hv
        have hv' := ib p' hp'
        rw [ev] at hv'
        cases hpv : p.2 <;> rw [hpv] at hp rv <;> simp [isI] at hp
        cases v <;> simp [isI] at hv'
        obtain ⟨t1, e2⟩ := rv
        obtain ⟨t2, e3⟩ := rq
        simp only [e2, e3, fInt, vEq]
section
variable {X : Cx}
theorem kt_ints {H : Hp} : ∀ {ks : KVs} {xs : List (List Key × Addr × Value)}, KT H ks xs → (∀ p ∈ ks, isI p.2 = true) → ∀ x ∈ xs, ∃ i t, x.2.2 = .int i t
  | [], _, .nil, _, x, hx => absurd hx List.not_mem_nil
  | p :: ks, _, @Paired.cons _ _ _ _ y _ xs h t, hi, x, hx => by
    rcases List.mem_cons.mp hx with z | z
    · subst z
      have hp := hi p List.mem_cons_self
      obtain ⟨_, _, rv⟩ := h
      cases hpv : p.2 <;> rw [hpv] at hp rv <;> simp [isI] at hp
      obtain ⟨t1, e⟩ := rv
      exact ⟨_, t1, e⟩
    · exact kt_ints t (fun q hq => hi q (List.mem_cons_of_mem _ hq)) x z
def rEqT (neg : Bool) : R2 := fun x y H Q => ∃ a b ks ls, x = .ref a ∧ y = .ref b ∧ H a = some (.dT ks) ∧ H b = some (.dT ls) ∧ (∀ p ∈ ks, isI p.2 = true) ∧ (∀ p ∈ ls, isI p.2 = true) ∧ Q (.bl (neg ^^ (ks.length == ls.length && eqT ls ks))) H
theorem eqT_he {A : Around} {s : Shared} {xa xb : List (List Key × Addr × Value)} (h1 : ∀ x ∈ xa, ∃ i t, x.2.2 = .int i t) (h2 : ∀ x ∈ xb, ∃ i t, x.2.2 = .int i t) : ∀ x ∈ xa, ∀ y ∈ xb, SeqAt.EqAt A s x.2.2 y.2.2 (fInt x.2.2 y.2.2) := fun x hx y hy => by
  obtain ⟨i, t, e⟩ := h1 x hx
  obtain ⟨j, u, e'⟩ := h2 y hy
  rw [e, e']
  exact SeqAt.EqAt.int_int i t j u
theorem op_eqT (hu : X.A.units + 64 < cLine) : OpR X (compareOp .Eq) (rEqT false) := by
  intro pins s σ H x y v u Q I rx ry h
  obtain ⟨a, b, ks, ls, rfl, rfl, ea, eb, hk, hl, q⟩ := h
  cases rx
  cases ry
  obtain ⟨_, ya, xa, ra, da⟩ := dt_of I.hok ea
  obtain ⟨_, yb, xb, rb, db⟩ := dt_of I.hok eb
  refine eq_dicts (f := fInt) (tupleKind_room_in1 (by omega)) (by omega) ya yb da db (eqT_he (kt_ints ra hk) (kt_ints rb hl)) ?_
  rw [eqT_pairs rb hl ra hk, ← ra.length, ← rb.length]
  exact ⟨.bl _, H, I, rfl, by simpa using q⟩
theorem op_neT (hu : X.A.units + 64 < cLine) : OpR X (compareOp .NotEq) (rEqT true) := by
  intro pins s σ H x y v u Q I rx ry h
  obtain ⟨a, b, ks, ls, rfl, rfl, ea, eb, hk, hl, q⟩ := h
  cases rx
  cases ry
  obtain ⟨_, ya, xa, ra, da⟩ := dt_of I.hok ea
  obtain ⟨_, yb, xb, rb, db⟩ := dt_of I.hok eb
  refine ne_dicts (f := fInt) (tupleKind_room_in1 (by omega)) (by omega) ya yb da db (eqT_he (kt_ints ra hk) (kt_ints rb hl)) ?_
  rw [eqT_pairs rb hl ra hk, ← ra.length, ← rb.length]
  exact ⟨.bl _, H, I, rfl, by simpa using q⟩
end
end G
end
section
set_option Elab.async false
set_option linter.all false
set_option maxRecDepth 100000
set_option maxHeartbeats 2000000
/-! G24: == and != of dicts of numbers, over data -/
namespace G
open PySem L2 PyProof.Rows
def isID : D → Bool
  | .int _ => true
  | _ => false
def dvEq : D → D → Bool
  | .int i, .int j => i == j
  | _, _ => false
/-- the pairs (qs, ds) all stand in (rs, es) -/
def eqTD (rs : List (List Key)) (es : List D) : List (List Key) → List D → Bool
  | q :: qs, d :: ds => (match lookT rs es q with
    | some e => dvEq d e
    | none => false) && eqTD rs es qs ds
  | _, _ => true
def dEqTB (S : Sto) (x y : D) : Option Bool := match dicOf S x, dicOf S y with
  | some (ks, ds), some (ls, es) => match tkeysD ks, tkeysD ls with
    | some qs, some rs => if ds.all isID = true ∧ es.all isID = true then some (ks.length == ls.length && eqTD rs es qs ds) else none
    | _, _ => none
  | _, _ => none
def dEqT (S : Sto) (x y : D) : Option D := (dEqTB S x y).map .bl
def dNeT (S : Sto) (x y : D) : Option D := (dEqTB S x y).map fun b => .bl (!b)
theorem ints_zip {B : Bas} {m : Mp} : ∀ {ds : List D} {vs : List V}, Reps B m ds vs → ds.all isID = true → ∀ v ∈ vs, isI v = true
  | [], vs, r, _, v, hv => by
    simp only [Reps] at r
    subst r
    exact absurd hv List.not_mem_nil
  | d :: ds, vs, r, h, v, hv => by
    simp only [Reps] at r
    obtain ⟨u, us, rfl, ru, rs⟩ := r
    rw [List.all_cons, Bool.and_eq_true] at h
    rcases List.mem_cons.mp hv with z | z
    · subst z
      cases d <;> simp [isID] at h
      rw [ru.int_eq]
      rfl
    · exact ints_zip rs h.2 v z
theorem eqTD_of {B : Bas} {m : Mp} {rs : List (List Key)} {es : List D} {us : List V} (re : Reps B m es us) (he : es.all isID = true) : ∀ {qs : List (List Key)} {ds : List D} {vs : List V}, Reps B m ds vs → qs.length = vs.length → ds.all isID = true → eqT (rs.zip us) (qs.zip vs) = eqTD rs es qs ds
  | [], ds, vs, r, _, _ => by cases ds <;> rfl
  | q :: qs, [], vs, r, hl, _ => by
    simp only [Reps] at r
    subst r
    rfl
  | q :: qs, d :: ds, vs, r, hl, h => by
    simp only [Reps] at r
    obtain ⟨v, ws, rfl, rv, rs'⟩ := r
    rw [List.all_cons, Bool.and_eq_true] at h
    have ih := eqTD_of (rs := rs) re he rs' (by simpa using hl) h.2
    unfold eqT at ih ⊢
    rw [List.zip_cons_cons, List.all_cons, ih, eqTD]
    congr 1
    obtain ⟨h1, h2⟩ := lookT_of (qs := rs) (k := q) re
    cases hl' : lookT rs es q with
    | none => rw [h1 hl']
    | some e =>
      obtain ⟨z, e1, e2⟩ := h2 e hl'
      rw [e1]
      have : isID e = true := by
        have mem : ∀ {rs : List (List Key)} {es : List D}, lookT rs es q = some e → e ∈ es := by
          intro rs
          induction rs with
          | nil => intro es h; cases es <;> simp [lookT] at h
          | cons r rs ih =>
            intro es h
            cases es with
            | nil => simp [lookT] at h
            | cons x es =>
              simp only [lookT] at h
              split at h
              · cases h; exact List.mem_cons_self
              · exact List.mem_cons_of_mem _ (ih h)
        exact List.all_eq_true.mp he e (mem hl')
      cases d <;> simp [isID] at h
      cases e <;> simp [isID] at this
      rw [rv.int_eq, e2.int_eq]
      rfl
theorem dEqT_of {B : Bas} {m : Mp} {H : Hp} {S : Sto} {x y : D} {v u : V} {b neg : Bool} {Q : VK} (s : Sub m H) (c : Cor B m S) (rx : Rep B m x v) (ry : Rep B m y u) (h : dEqTB S x y = some b) (q : Q (.bl (neg ^^ b)) H) : rEqT neg v u H Q := by
  unfold dEqTB at h
  split at h
  · rename_i ks ds ls es hx hy
    split at h
    · rename_i qs rs hq hr
      split at h
      · rename_i hi
        cases h
        obtain ⟨a, vs, rfl, za, ra⟩ := repD s c rx hx
        obtain ⟨a', us, rfl, zb, rb⟩ := repD s c ry hy
        have l1 : ks.length = vs.length := za.1
        have l2 : ls.length = us.length := zb.1
        have l3 := tkeysD_length hq
        have l4 := tkeysD_length hr
        refine ⟨a, a', _, _, rfl, rfl, dic_dT za hq, dic_dT zb hr, fun p hp => ?_, fun p hp => ?_, ?_⟩
        · exact ints_zip ra hi.1 _ (List.of_mem_zip hp).2
        · exact ints_zip rb hi.2 _ (List.of_mem_zip hp).2
        · rw [eqTD_of rb hi.2 ra (by omega) hi.1, List.length_zip, List.length_zip, l3, l4, ← l1, ← l2, Nat.min_self, Nat.min_self]
          exact q
      · cases h
    · cases h
  · cases h
theorem op2_eqT {B : Bas} : Op2 B (rEqT false) dEqT := fun m S H x y d1 d2 d s c r1 r2 e Q q => by
  unfold dEqT at e
  obtain ⟨b, h, rfl⟩ := Option.map_eq_some_iff.mp e
  exact dEqT_of s c r1 r2 h (by simpa using q_val s c q (rp_bl m))
theorem op2_neT {B : Bas} : Op2 B (rEqT true) dNeT := fun m S H x y d1 d2 d s c r1 r2 e Q q => by
  unfold dNeT at e
  obtain ⟨b, h, rfl⟩ := Option.map_eq_some_iff.mp e
  exact dEqT_of s c r1 r2 h (by simpa using q_val s c q (rp_bl m))
end G
end
section
set_option Elab.async false
set_option linter.all false
set_option maxRecDepth 100000
set_option maxHeartbeats 2000000
/-! G25: dict(d), d a dict whose keys are tuples -/
namespace G
open PySem L2 PyProof.Rows
section
variable {P : Program} {w : World} {K : Type} [DecidableEq K] {knd : HeapKind P w K} {A : Around} {E : Value → Shared → Prop} {s : Shared}
theorem call_dict_copy {o : Addr} {xs : Ent K} {Q : Value → Shared → Prop} (hu : knd.room A.in1.in1) (hoS : (o == sysModules) = false) (ho : s.heap.DictOfH knd o xs) (hsz : xs.length ≤ sizeLine)
    (keep : ∀ (h' : Heap), (∀ b u, s.heap.get? b = some u → h'.get? b = some u) → ∀ x ∈ xs, knd.is h' x.1 x.2.1) (tup : ∀ x ∈ xs, s.TypeIs (.ref x.2.1) "tuple") (apart : (xs.map fun x => knd.hash x.1).Nodup)
    (q : ∀ h', h'.DictOfH knd s.heap.objs.size xs → (∀ b u, s.heap.get? b = some u → h'.get? b = some u) → Q (.ref s.heap.objs.size) { s with heap := h' }) :
    wpAny (model P w) A (call (.type "dict") [.ref o]) Q E s := by
  refine callType_codes (Q₁ := fun ob z => ob = .ref s.heap.objs.size ∧ z = { s with heap := s.heap.push { cls := .type "dict", data := .dict #[] } }) F.kt_called_dict (F.kt_typeCall_dict_1 _) F.entry_dict_init (kt_code_dict_new _ ⟨rfl, rfl⟩) ?_
  rintro ob z ⟨rfl, rfl⟩
  have up : ∀ b u, s.heap.get? b = some u → (s.heap.push { cls := .type "dict", data := .dict #[] }).get? b = some u := fun b u e => Heap.get?_push_of_some _ e
  have new : (s.heap.push { cls := .type "dict", data := .dict #[] }).DictOfH knd s.heap.objs.size [] := Heap.DictOfH.new s.heap
  obtain ⟨oo, es, ep, g1, g2, g3, g4, g5, g6⟩ := ho
  have ho' : (s.heap.push { cls := .type "dict", data := .dict #[] }).DictOfH knd o xs := ⟨oo, es, ep, up _ _ g1, g2, g3, g4, keep _ up, g6⟩
  have ne : s.heap.objs.size ≠ o := fun e => absurd (Heap.lt_size g1) (by rw [e]; exact Nat.lt_irrefl _)
  refine ⟨new.typeIs, F.args_dict_init_2 _ _, ?_⟩
  unfold Builtin.«dict.__init__»
  refine wpAny_bind (m := Builtin.Dict.selfAndRest "__init__" _) ?_
  unfold Builtin.Dict.selfAndRest
  refine wpAny_bind (wpAny_notOrdered_dict new.typeIs (wpAny_pure ?_))
  show wpAny _ _ (Builtin.Dict.updateFrom "dict.__init__" s.heap.objs.size (.ref o) [] .none) _ _ _
  refine updateFrom_dictH (A := A.in1) (s := { s with heap := s.heap.push { cls := .type "dict", data := .dict #[] } }) .none hu ne hoS new ho' (.inr ⟨fun x hx => ?_, apart⟩) (by simpa using hsz) fun h' d' _ sb => ⟨rfl, ?_⟩
  · obtain ⟨u, hu', hc⟩ := tup x hx
    exact ⟨u, up _ _ hu', hc⟩
  · rw [storedAllH_nil_of_nodup xs g6] at d'
    exact q h' d' fun b u e => (sb.2 b (Nat.ne_of_lt (Heap.lt_size e))).trans (up b u e)
end
end G
end
section
set_option Elab.async false
set_option linter.all false
set_option maxRecDepth 100000
set_option maxHeartbeats 2000000
/-! G26: dicts whose keys are numbers and texts -/
namespace G
open PySem L2
def lookK : List Key → List D → Key → Option D
  | q :: qs, d :: ds, k => if q = k then some d else lookK qs ds k
  | _, _, _ => none
theorem lookK_of {B : Bas} {m : Mp} {k : Key} : ∀ {qs : List Key} {ds : List D} {vs : List V}, Reps B m ds vs → (lookK qs ds k = none → valV (qs.zip vs) k = none) ∧ ∀ d, lookK qs ds k = some d → ∃ v, valV (qs.zip vs) k = some v ∧ Rep B m d v
  | [], ds, vs, r => ⟨fun _ => rfl, fun d h => by cases ds <;> simp [lookK] at h⟩
  | q :: qs, [], vs, r => by
    simp only [Reps] at r
    subst r
    exact ⟨fun _ => rfl, fun d h => by simp [lookK] at h⟩
  | q :: qs, x :: ds, vs, r => by
    simp only [Reps] at r
    obtain ⟨u, us, rfl, ru, rs⟩ := r
    obtain ⟨h1, h2⟩ := lookK_of (qs := qs) (k := k) rs
    rw [List.zip_cons_cons]
    by_cases e : q = k
    · refine ⟨fun h => ?_, fun d h => ?_⟩
      · simp [lookK, e] at h
      · simp only [lookK, if_pos e] at h
        cases h
        exact ⟨u, valV_pos e, ru⟩
    · have hv : valV ((q, u) :: qs.zip us) k = valV (qs.zip us) k := by simp [valV, List.find?_cons, e]
      rw [hv]
      simp only [lookK, if_neg e]
      exact ⟨h1, h2⟩
theorem key_at {B : Bas} {m : Mp} {y : D} {k : Key} {v : V} (r : Rep B m y v) (h : keyD y = some k) : v = kV k := by
  cases y <;> simp only [keyD] at h <;> try (cases h)
  · exact r.int_eq
  · exact r.str_eq
theorem dic_dK {o : Option HO} {ks : List D} {vs : List V} {qs : List Key} (h : DicAt o ks vs) (ne : ks ≠ []) (e : keysD ks = some qs) : o = some (.dK (qs.zip vs)) := by
  rcases h with ⟨_, ⟨q, _, hq, z⟩ | ⟨q, hq, z⟩⟩
  · rw [e] at hq
    cases hq
    exact z
  · cases ks with
    | nil => exact absurd rfl ne
    | cons k r =>
      simp only [keysD] at e
      simp only [tkeysD] at hq
      cases k <;> simp [keyD, tkeyD] at hq e
/-- what a dict of numbers and texts holds at a key -/
def kGetO (S : Sto) (x y : D) : Option (Option D) := match dicOf S x, keyD y with
  | some (ks, ds), some k => match keysD ks with
    | some qs => if ks.isEmpty then none else some (lookK qs ds k)
    | none => none
  | _, _ => none
theorem kGet_of {B : Bas} {m : Mp} {H : Hp} {S : Sto} {x y : D} {v u : V} {o : Option D} (s : Sub m H) (c : Cor B m S) (rx : Rep B m x v) (ry : Rep B m y u) (h : kGetO S x y = some o) :
    ∃ a r, v = .ref a ∧ IsD H a ∧ DGet H a u r ∧ (o = none → r = none) ∧ ∀ d, o = some d → ∃ z, r = some z ∧ Rep B m d z := by
  unfold kGetO at h
  split at h
  · rename_i ks ds k hd hk
    split at h
    · rename_i qs hq
      split at h
      · cases h
      · rename_i ne
        cases h
        obtain ⟨a, vs, rfl, z, rs⟩ := repD s c rx hd
        obtain rfl := key_at ry hk
        have hz := dic_dK z (by simpa using ne) hq
        obtain ⟨h1, h2⟩ := lookK_of (qs := qs) (k := k) rs
        exact ⟨a, _, rfl, .inl ⟨_, .inl hz⟩, DGet.k hz, h1, h2⟩
    · cases h
  · cases h
/-- d[k], the key being there -/
def mKGet (a b : ME) : ME := fun en S => (a en S).bind fun x S1 => (b en S1).bind fun y S2 => match kGetO S2 x y with
  | some (some d) => .ok d S2
  | _ => .bad
theorem de_kget {X : Cx} {B : Bas} {W : WX} {a b : Expr} {pos : Pos} {ma mb : ME} (hu : X.A.units + 1 < cLine) (ha : PE X a (tE B W ma)) (hb : PE X b (tE B W mb)) (hs : NoSl b := by intro _ _; rfl) :
    PE X (.Subscript a b pos) (tE B W (mKGet ma mb)) := PE.cut (pe_dget hu ha hb hs) fun σ H Q ⟨m, S, en, s, c, er, p⟩ => ⟨m, S, en, s, c, er, (Post.bind p).imp (by
  rintro v H1 ⟨x, S1, m1, _, l1, c1, r1, p1⟩
  refine ⟨m1, S1, en, l1.sub, c1, er.mono l1, (Post.bind p1).imp ?_⟩
  rintro u H2 ⟨y, S2, m2, _, l2, c2, r2, p2⟩
  split at p2
  · rename_i d hd
    obtain ⟨a, r, e1, _, g, _, h2⟩ := kGet_of l2.sub c2 (r1.mono l2) r2 hd
    obtain ⟨z, rfl, rz⟩ := h2 d rfl
    exact ⟨a, z, e1, g, p2 m2 H2 z (Le.refl l2.sub) c2 rz⟩
  · exact p2.elim)⟩
/-! d[k] = v -/
def replK (k : Key) (d : D) : List Key → List D → List D
  | q :: qs, x :: ds => (if q = k then d else x) :: replK k d qs ds
  | _, ds => ds
theorem replK_of {B : Bas} {m : Mp} {k : Key} {d : D} {v : V} (rv : Rep B m d v) : ∀ {qs : List Key} {ds : List D} {vs : List V}, qs.length = vs.length → Reps B m ds vs →
    ∃ us, (qs.zip vs).map (fun kv => if kv.1 = k then (kv.1, v) else kv) = qs.zip us ∧ qs.length = us.length ∧ Reps B m (replK k d qs ds) us
  | [], ds, vs, hl, r => by
    cases vs with
    | nil => exact ⟨[], rfl, rfl, by cases ds <;> simpa [replK] using r⟩
    | cons v vs => cases hl
  | q :: qs, ds, vs, hl, r => by
    cases vs with
    | nil => cases hl
    | cons u vs =>
      cases ds with
      | nil => simp only [Reps] at r; cases r
      | cons x ds =>
        simp only [Reps] at r
        obtain ⟨u', us', e, ru, rs⟩ := r
        cases e
        obtain ⟨ws, h1, h2, h3⟩ := replK_of (k := k) rv (qs := qs) (by simpa using hl) rs
        simp only [List.zip_cons_cons, List.map_cons, replK]
        by_cases e : q = k
        · rw [if_pos e, if_pos e]
          exact ⟨v :: ws, by rw [h1]; rfl, by simp [h2], Reps.cons rv h3⟩
        · rw [if_neg e, if_neg e]
          exact ⟨u :: ws, by rw [h1]; rfl, by simp [h2], Reps.cons ru h3⟩
theorem keysD_snoc {y : D} {k : Key} (hy : keyD y = some k) : ∀ {ks : List D} {qs : List Key}, keysD ks = some qs → keysD (ks ++ [y]) = some (qs ++ [k])
  | [], qs, h => by
    cases h
    simp [keysD, hy]
  | x :: ks, qs, h => by
    simp only [keysD] at h
    cases h1 : keyD x with
    | none => rw [h1] at h; cases h
    | some a =>
      cases h2 : keysD ks with
      | none => rw [h1, h2] at h; cases h
      | some b =>
        rw [h1, h2] at h
        cases h
        simp only [List.cons_append, keysD, h1, keysD_snoc hy h2]
def hasKK (k : Key) (qs : List Key) : Bool := qs.any fun q => decide (q = k)
def putKD (ks : List D) (qs : List Key) (ds : List D) (y : D) (k : Key) (d : D) : Ob := if hasKK k qs = true then .dic ks (replK k d qs ds) else .dic (ks ++ [y]) (ds ++ [d])
theorem putKD_of {B : Bas} {m : Mp} {ks ds : List D} {vs : List V} {qs : List Key} {y d : D} {k : Key} {v : V} (ne : ks ≠ []) (hq : keysD ks = some qs) (hl : ks.length = vs.length) (hy : keyD y = some k) (rs : Reps B m ds vs) (rv : Rep B m d v) :
    ∃ ks' ds' qs' us, putKD ks qs ds y k d = .dic ks' ds' ∧ putK (qs.zip vs) k v = qs'.zip us ∧ keysD ks' = some qs' ∧ ks'.length = us.length ∧ Reps B m ds' us ∧ ks' ≠ [] := by
  have hl2 : qs.length = vs.length := by rw [keysD_length hq, hl]
  have any : ((qs.zip vs).any fun kv => decide (kv.1 = k)) = hasKK k qs := by
    have : ∀ (qs : List Key) (vs : List V), qs.length = vs.length → ((qs.zip vs).any fun kv => decide (kv.1 = k)) = hasKK k qs := by
      intro qs
      induction qs with
      | nil => intro vs _; rfl
      | cons q qs ih =>
        intro vs h
        cases vs with
        | nil => cases h
        | cons v vs =>
          rw [List.zip_cons_cons, List.any_cons, ih vs (by simpa using h)]
          rfl
    exact this qs vs hl2
  unfold putKD putK
  rw [any]
  by_cases hk : hasKK k qs = true
  · obtain ⟨us, h1, h2, h3⟩ := replK_of (k := k) rv hl2 rs
    exact ⟨ks, _, qs, us, if_pos hk, by rw [if_pos hk, h1], hq, by rw [← keysD_length hq, h2], h3, ne⟩
  · refine ⟨ks ++ [y], ds ++ [d], qs ++ [k], vs ++ [v], if_neg hk, ?_, keysD_snoc hy hq, by simp [hl], rs.snoc rv, by simp⟩
    rw [if_neg hk, List.zip_append hl2]
    rfl
def sKPutS (o k e : ME) : MS := fun en S => (e en S).bind fun d S1 => (o en S1).bind fun x S2 => (k en S2).bind fun y S3 => match x, keyD y with
  | .ref i, some k => match S3[i]? with
    | some (.dic ks ds) => match keysD ks with
      | some qs => if ks.isEmpty = false ∧ ks.length < sizeLine then .ok (.nx en) (S3.set i (putKD ks qs ds y k d)) else .bad
      | none => .bad
    | _ => .bad
  | _, _ => .bad
theorem ds_kput {X : Cx} {B : Bas} {W : WX} {o k e : Expr} {pos pos' : Pos} {mo mk me : ME} (hu : X.A.units + 1 < cLine) (ho : PE X o (tE B W mo)) (hk : PE X k (tE B W mk)) (he : PE X e (tE B W me))
    (hs : swapsWith e (some (.Subscript o k pos')) pos.line X.env = pure false := by rfl) : PS X (.Assign [.Subscript o k pos'] e pos) (tS B W (sKPutS mo mk me)) :=
  PS.cut (ps_dput hu ho hk he hs) fun D σ H ⟨m, S, en, s, c, er, p⟩ => ⟨m, S, en, s, c, er, (Post.bind p).imp (by
    rintro v H1 ⟨d, S1, m1, _, l1, c1, r1, p1⟩
    refine ⟨m1, S1, en, l1.sub, c1, er.mono l1, (Post.bind p1).imp ?_⟩
    rintro u H2 ⟨x, S2, m2, _, l2, c2, r2, p2⟩
    refine ⟨m2, S2, en, l2.sub, c2, (er.mono l1).mono l2, (Post.bind p2).imp ?_⟩
    rintro t H3 ⟨y, S3, m3, _, l3, c3, r3, p3⟩
    split at p3
    · rename_i i kk hy _
      split at p3
      · rename_i ks ds hx
        split at p3
        · rename_i qs hq
          split at p3
          · rename_i hz
            have r2' := r2.mono l3
            simp only [Rep] at r2'
            obtain ⟨hi, rfl⟩ := r2'
            obtain ⟨vs, z, rs⟩ := c3.ob _ _ hx
            have hl : ks.length = vs.length := z.1
            have ne : ks ≠ [] := by simpa using hz.1
            have hz' := dic_dK z ne hq
            obtain rfl := key_at r3 hy
            obtain ⟨ks', ds', qs', us, e1, e2, e3, e4, e5, e6⟩ := putKD_of ne hq hl hy rs ((r1.mono l2).mono l3)
            have l4 := Le.write (o := .dK (qs'.zip us)) c3 l3.sub hi
            refine ⟨m3.mu i, _, rfl, DPut.k (l3.sub _ _ hz') ?_, ?_⟩
            · rw [List.length_zip, keysD_length hq, ← hl, Nat.min_self]
              exact hz.2
            · rw [e2]
              rw [e1] at p3
              have ob : ObR B (m3.put (m3.mu i) (.dK (qs'.zip us))) (m3.mu i) (.dic ks' ds') := ⟨us, ⟨e4, .inl ⟨qs', e6, e3, upd_same⟩⟩, e5.mono l4⟩
              exact p3 _ _ (.nx σ) l4 (Cor.write c3 l3.sub hi ob) ((((er.mono l1).mono l2).mono l3).mono l4)
          · exact p3.elim
        · exact p3.elim
      · exact p3.elim
    · exact p3.elim)⟩
/-! displays of written text keys -/
theorem upd_del' {H : Hp} {p : Addr} {o : HO} : upd (del H p) p o = upd H p o := by
  funext a
  by_cases e : a = p
  · subst e; rw [upd_same, upd_same]
  · rw [upd_ne e, upd_ne e, del_ne e]
inductive DPs (X : Cx) (B : Bas) (W : WX) : List (Option Expr) → List Expr → List Str → MA → Prop where
  | nil : DPs X B W [] [] [] aNil
  | cons {k j p v ks vs ss mv r} : PE X v (tE B W mv) → DPs X B W ks vs ss r → DPs X B W (some (.Constant (.str k) j p) :: ks) (v :: vs) (k :: ss) (aCons mv r)
theorem DPs.pps {X : Cx} {B : Bas} {W : WX} {pos : Pos} {ks : List (Option Expr)} {vs : List Expr} {ss : List Str} {r : MA} (h : DPs X B W ks vs ss r) :
    ∃ trs, PPs X pos ks vs trs ∧ ∀ (m : Mp) (S : Sto) (en : En) (σ : L2.St) (H : Hp) (Q : List (V × V) → Hp → Prop), Sub m H → Cor B m S → EnR B m en σ → Post B (Reps B) (at' W σ) m H (fun us H2 => ss.length = us.length → Q ((ss.zip us).map (fun x => (.str x.1, x.2))) H2) (r en S) →
      tPairs trs σ H Q := by
  induction h with
  | nil => exact ⟨[], pps_nil, fun m S en σ H Q s c er p => p m H [] (Le.refl s) c Reps.nil rfl⟩
  | @cons k j p v ks vs ss mv r hv _ ih =>
    obtain ⟨trs, hp, ih⟩ := ih
    refine ⟨_, pps_cons pe_str hv hp, fun m S en σ H Q s c er q => ?_⟩
    show tE B W mv σ H _
    refine ⟨m, S, en, s, c, er, (Post.bind q).imp ?_⟩
    rintro y H1 ⟨d, S1, m1, _, l1, c1, r1, p1⟩
    refine ih m1 S1 en σ H1 _ l1.sub c1 (er.mono l1) ((Post.bind p1).imp ?_)
    rintro us H2 ⟨ds, S2, m2, _, l2, c2, r2, p2⟩ hl
    exact p2 m2 H2 _ (Le.refl l2.sub) c2 (Reps.cons (r1.mono l2) r2) (by simp [hl])
theorem mergeK_new : ∀ (more acc : List (Key × V)), ((acc ++ more).map (·.1)).Nodup → mergeK acc more = acc ++ more
  | [], acc, _ => by simp [mergeK]
  | kv :: more, acc, h => by
    have hn : kv.1 ∉ acc.map (·.1) := by
      intro hm
      rw [List.map_append, List.nodup_append] at h
      exact h.2.2 _ hm _ (by simp) rfl
    have e : putK acc kv.1 kv.2 = acc ++ [kv] := by
      unfold putK
      rw [if_neg]
      simp only [List.any_eq_true, decide_eq_true_eq, not_exists, not_and]
      intro x hx he
      exact hn (by rw [← he]; exact List.mem_map_of_mem hx)
    show mergeK (putK acc kv.1 kv.2) more = _
    rw [e, mergeK_new more (acc ++ [kv]) (by simpa using h)]
    simp
theorem keysD_strs : ∀ ss : List Str, keysD (ss.map .str) = some (ss.map .inr)
  | [] => rfl
  | s :: ss => by simp only [List.map_cons, keysD, keyD, keysD_strs ss]
theorem Post.frameBind {α β γ δ : Type} {B : Bas} {R : Mp → α → β → Prop} {R2 : Mp → γ → δ → Prop} {W : XK} {m : Mp} {H Hf : Hp} {Q2 : δ → Hp → Prop} {r : Res α} {k : α → Sto → Res γ} (h : Post B R2 W m H Q2 (r.bind k)) (lf : Le m H m Hf) :
    Post B R W m Hf (fun v H1 => ∃ a S m1, r = .ok a S ∧ Le m Hf m1 H1 ∧ Cor B m1 S ∧ R m1 a v ∧ Post B R2 W m H Q2 (k a S)) r := by
  cases r with
  | ok a S => exact fun m' H' v l c x => ⟨a, S, m', rfl, l, c, x, h⟩
  | ex c ns vs S => exact fun m' H' dd l cc x => h m' H' dd (lf.trans l) cc x
  | bad => exact h
/-- {"a": x, ..}, a dict of the store -/
def mDisp (ss : List Str) (r : MA) : ME := fun en S => (r en S).bind fun ds S1 => .ok (.ref S1.length) (S1 ++ [.dic (ss.map .str) ds])
/-- .. changed no more -/
def mDispD (ss : List Str) (r : MA) : ME := fun en S => (r en S).bind fun ds S1 => .ok (.dic (ss.map .str) ds) S1
theorem tDisp_of {B : Bas} {W : WX} {ss : List Str} {r : MA} {trs : List (TE × TE)} {σ : L2.St} {H : Hp} {Q : VK} {K2 : List D → Sto → Res D}
    (ht : ∀ (m : Mp) (S : Sto) (en : En) (σ : L2.St) (H : Hp) (Q : List (V × V) → Hp → Prop), Sub m H → Cor B m S → EnR B m en σ → Post B (Reps B) (at' W σ) m H (fun us H2 => ss.length = us.length → Q ((ss.zip us).map (fun x => (.str x.1, x.2))) H2) (r en S) → tPairs trs σ H Q)
    (nd : ss.Nodup) (h15 : ss.length ≤ 15)
    (hK : ∀ (m : Mp) (S : Sto) (H1 : Hp) (ds : List D) (us : List V) (p : Addr), Sub m H1 → Cor B m S → H1 p = none → Reps B m ds us → ss.length = us.length → Post B (Rep B) (at' W σ) m H1 Q (K2 ds S) → Q (.ref p) (upd H1 p (.dK ((ss.map Sum.inr).zip us))))
    (t : tE B W (fun en S => (r en S).bind K2) σ H Q) : tDisp trs σ H Q := by
  obtain ⟨m, S, en, s, c, er, q⟩ := t
  intro p hp
  have lf : Le m H m (upd H p (.dK [])) := Le.frame s hp
  refine ht m S en σ _ _ lf.sub c er ((Post.frameBind q lf).imp ?_)
  rintro us H2 ⟨ds, S2, m2, _, l2, c2, r2, p2⟩ hl
  have hz : m.Z p = none := s.none hp
  obtain ⟨f1, f2⟩ := l2.fr p (.dK []) hz upd_same
  have l3 : Le m H m2 (G.del H2 p) := by
    have := Le.del (p := p) l2 hz ⟨_, upd_same⟩
    rwa [del_upd, del_new hp] at this
  have e1 : ((ss.zip us).map fun x => ((Sum.inr x.1 : Key), x.2)) = (ss.map Sum.inr).zip us := by
    rw [List.zip_map_left]
    rfl
  refine ⟨f1, (ss.map Sum.inr).zip us, by rw [← e1]; simp [kV, Function.comp_def], by simp [hl]; omega, ?_⟩
  rw [mergeK_new, List.nil_append, ← upd_del']
  · exact hK m2 S2 _ ds us p l3.sub c2 del_at r2 hl (p2.shift l3)
  · have : ((ss.map (Sum.inr : Str → Key)).zip us).map (·.1) = ss.map Sum.inr := List.map_fst_zip (by simp [hl])
    rw [List.nil_append, this]
    exact List.Pairwise.map _ (fun a b h e => h (Sum.inr.inj e)) nd
theorem disp_ob {B : Bas} {m : Mp} {ss : List Str} {ds : List D} {us : List V} {p : Addr} {o : HO} (h0 : ss ≠ []) (hl : ss.length = us.length) (r : Reps B m ds us) (hz : m.Z p = some (.dK ((ss.map Sum.inr).zip us))) : ObR B m p (.dic (ss.map .str) ds) :=
  ⟨us, ⟨by simpa using hl, .inl ⟨_, by simpa using h0, keysD_strs ss, hz⟩⟩, r⟩
theorem de_disp {X : Cx} {B : Bas} {W : WX} {pos : Pos} {keys : List (Option Expr)} {vs : List Expr} {ss : List Str} {r : MA} (h : DPs X B W keys vs ss r) (nd : ss.Nodup) (h15 : ss.length ≤ 15) (h0 : ss ≠ [])
    (ha : keys.all (·.isSome) = true) (hl : keys.length = vs.length) (hk0 : keys ≠ []) (hk15 : keys.length ≤ 15) : PE X (.Dict keys vs pos) (tE B W (mDisp ss r)) := by
  obtain ⟨trs, hp, ht⟩ := h.pps (pos := pos)
  refine PE.cut (pe_disp hp ha hl hk0 hk15) fun σ H Q t => tDisp_of ht nd h15 (fun m S H1 ds us p s c hp r hl q => ?_) t
  exact q _ _ _ (Le.add c s hp) (Cor.add c s hp (disp_ob (o := .dK []) h0 hl (r.mono (Le.add c s hp)) upd_same)) (rp_ref c)
theorem de_dispD {X : Cx} {B : Bas} {W : WX} {pos : Pos} {keys : List (Option Expr)} {vs : List Expr} {ss : List Str} {r : MA} (h : DPs X B W keys vs ss r) (nd : ss.Nodup) (h15 : ss.length ≤ 15) (h0 : ss ≠ [])
    (ha : keys.all (·.isSome) = true) (hl : keys.length = vs.length) (hk0 : keys ≠ []) (hk15 : keys.length ≤ 15) : PE X (.Dict keys vs pos) (tE B W (mDispD ss r)) := by
  obtain ⟨trs, hp, ht⟩ := h.pps (pos := pos)
  refine PE.cut (pe_disp hp ha hl hk0 hk15) fun σ H Q t => tDisp_of ht nd h15 (fun m S H1 ds us p s c hp r hl q => ?_) t
  refine q _ _ _ (Le.new c s hp) (Cor.new c s hp) ?_
  simp only [Rep]
  exact ⟨p, us, rfl, c.out_of (s.none hp), ⟨by simpa using hl, .inl ⟨_, by simpa using h0, keysD_strs ss, upd_same⟩⟩, r.mono (Le.new c s hp)⟩
end G
end
section
set_option Elab.async false
set_option linter.all false
set_option maxRecDepth 100000
set_option maxHeartbeats 2000000
/-! G27: enumerate and zip of lists and of tuples -/
namespace G
open PySem PySem.Spec PyProof.Rows L2 RZ
abbrev enO (it : Addr) : Obj := { cls := .type "enumerate", data := .fields #[.none, .bool false, .ref it, rawInt 0, .none, .none] }
/-- enumerate(v): v's iterator o is made, then the enumerate over it -/
theorem meets_enumT {v : Value} {o : Obj} {Ok : Heap → Prop} (B : Begins v o Ok) :
    Meets (Builtin.«enumerate.__new__» ⟨[.type "enumerate", v], []⟩) (fun _ R s => Ok s.heap ∧ R (.ok (.ret (.ref (s.heap.push o).objs.size))) { s with heap := (s.heap.push o).push (enO s.heap.objs.size) }) :=
  .of_wp fun prog w A R ⟨hp, g, d, tk, os⟩ ⟨ok, h⟩ => by
    have kind := sub_enumerate
    have begin_ : ∀ {A' : Around} {E : Value → Shared → Prop} {Q : Value → Shared → Prop} (_ : Q (.ref hp.objs.size) ⟨hp.push o, g, d, tk, os⟩), wpAny (model prog w) A' (pyIter v) Q E ⟨hp, g, d, tk, os⟩ := fun q => B.iter _ _ _ _ _ _ ok q
    wp_walk using begin_
    refine wpAny_stack_any fun st => wpAny_pure ?_
    split
    · rename_i c _ _ _ _ _
      cases (c == Value.type "enumerate") <;> (wp_walk using begin_; exact ⟨_, rfl, h⟩)
    · wp_walk using begin_
      exact ⟨_, rfl, h⟩
theorem call_enumT {prog : Program} {w : World} {A : Around} {E : Value → Shared → Prop} {s : Shared} {v : Value} {o : Obj} {Ok : Heap → Prop} {Q : Value → Shared → Prop} (B : Begins v o Ok) (ok : Ok s.heap)
    (q : ∀ h', IsEnum h' (s.heap.objs.size + 1) s.heap.objs.size 0 .none ∧ h'.get? s.heap.objs.size = some o → (∀ c x, s.heap.get? c = some x → h'.get? c = some x) → Q (.ref (s.heap.objs.size + 1)) { s with heap := h' }) :
    wpAny (model prog w) A (call (.type "enumerate") [v]) Q E s := by
  have size : (s.heap.push o).objs.size = s.heap.objs.size + 1 := Heap.size_push ..
  have made : IsEnum ((s.heap.push o).push (enO s.heap.objs.size)) (s.heap.objs.size + 1) s.heap.objs.size 0 .none := by
    rw [← size]
    exact Heap.get?_push_size _ rfl
  refine callType_new F.called_enumerate (by decide) (F.typeCall_enumerate_1 _) (F.newCall_enumerate_1 _) (fun x => F.args_object_init_2 x _) F.entry_enumerate_new (meets_enumT B) ⟨ok, ?_⟩
  show _ ∧ _
  rw [size]
  exact ⟨⟨_, made, rfl⟩, q _ ⟨made, Heap.get?_push_of_some _ (Heap.get?_push_size _ B.free)⟩ fun c x e => Heap.get?_push_of_some _ (Heap.get?_push_of_some _ e)⟩
theorem drawsT {prog : Program} {w : World} {A : Around} (hh : A.handled = none) (it l : Addr) (items : Array Value) (hne : it ≠ l) :
    Draws prog w A it [it, l] items.size (fun i v => items[i]? = some v) (fun i h => h.IsTupleIter it l i ∧ h.IsTuple l items) where
  live := fun _ _ st => let ⟨⟨o, ho, _⟩, _⟩ := st; ⟨o, ho⟩
  frame := fun _ _ _ st hk => let ⟨a, b⟩ := st; ⟨a.at fun o q => hk it (by simp) o q, b.at fun o q => hk l (by simp) o q⟩
  item := fun i s Q E hi st hQ => by
    refine nextOf_tuple_item st.1 st.2 (x := items[i]) (by simp [hi]) fun h' hit' hs' => ?_
    exact hQ _ h' s.toks (by simp [hi]) ⟨hit', st.2.at fun o q => (hs'.2 l (Ne.symm hne)).trans q⟩ hs'
  done := fun s Q E st hE => nextOf_tuple_end hh st.1 st.2 (by simp) hE
/-- the tuple at a, which stays as it is, each item in a new pair -/
def IteT (K : PySem.W.Frag) (a : Addr) (xs : List V) : It where
  go := fun i H => SqT K H a xs ∧ i < xs.length
  yld := fun i H v H' => ∃ T x, xs[i]? = some x ∧ (v = .ref T ∧ H T = none) ∧ H' = upd H T (.tup [.int (i : Nat), x])
  stop := fun i H => SqT K H a xs ∧ xs.length ≤ i
/-- the enumerate's cells behind i turns, n at most -/
structure EtAt (a e it : Addr) (n i : Nat) (h : Heap) : Prop where
  le : i ≤ n
  apart : e ≠ it ∧ it ≠ a ∧ e ≠ a
  inner : h.IsTupleIter it a i
  outer : ∃ old, IsEnum h e it ((i : Nat) : Int) old
theorem EtAt.objs {a e it : Addr} {n i : Nat} {h : Heap} (st : EtAt a e it n i h) {c : Addr} (hc : c ∈ [e, it]) : ∃ o, h.get? c = some o ∧ ∀ v, o.data ≠ .cell v := by
  obtain ⟨old, e1⟩ := st.outer
  obtain ⟨o2, e2, _, d2⟩ := st.inner
  simp only [List.mem_cons, List.not_mem_nil, or_false] at hc
  rcases hc with rfl | rfl
  · exact ⟨_, e1, by intro v z; cases z⟩
  · exact ⟨o2, e2, by intro v z; rw [d2] at z; cases z⟩
theorem EtAt.lt {a e it : Addr} {n i : Nat} {h : Heap} (st : EtAt a e it n i h) {c : Addr} (hc : c ∈ [e, it]) : c < h.objs.size := by
  obtain ⟨_, z, _⟩ := st.objs hc
  exact Heap.lt_size z
theorem turn_enumT {P : Program} {w : World} {K : PySem.W.Frag} {elts : List Expr} {kk : Nat} {tpos : Pos} {xs : List V} (a e it : Addr) : Turn P w K (.Tuple elts kk tpos) (IteT K a xs) [e, it] e (EtAt a e it xs.length) where
  mem := List.mem_cons_self
  obj := fun _ _ st _ hc => st.objs hc
  keep := fun _ _ _ st k => by
    obtain ⟨old, e1⟩ := st.outer
    exact ⟨st.le, st.apart, st.inner.at (k it (by simp)), old, k e (by simp) _ e1⟩
  self := fun _ _ _ _ _ st q => by
    obtain ⟨_, e1⟩ := st.outer
    exact wpAny_pyIter_enum e1 q
  item := by
    rintro X rfl rfl rfl hc i pins s σ H E I hf st ⟨sq, lt⟩
    obtain ⟨vs, rx, px, _⟩ := I.tuple sq
    have lx := rx.length
    obtain ⟨old, e1⟩ := st.outer
    obtain ⟨n1, n2, n3⟩ := st.apart
    obtain ⟨x, ex⟩ : ∃ x, xs[i]? = some x := ⟨_, List.getElem?_eq_getElem lt⟩
    obtain ⟨u, eu, ru⟩ := rx.get ex
    have el := st.lt (c := e) (by simp)
    refine wpAny_pyNext_enum_itemD (drawsT (A := X.A.in1) (I.ok.hd hc) it a vs.toArray n2) e1 ⟨st.inner, px⟩ (by rw [List.size_toArray]; omega) n1 (by simp [n1, n3]) fun u' h' tk e2 out inner new _ hk => ?_
    have : u' = u := Option.some.inj (e2.symm.trans (by simpa using eu))
    subst this
    refine ⟨_, rfl, wpAny_letOwnedTupleGo_enum (s := { s with heap := h', toks := tk + 1 }) out fun h2 e3 sb => ?_⟩
    have pair : h2.get? s.heap.objs.size = some { cls := .type "tuple", data := .seq #[.int i tk, u'] } := (sb.2 _ (Nat.ne_of_gt el)).trans new
    have J : Inv X pins σ (upd H s.heap.objs.size (.tup [.int (i : Nat), x])) { s with heap := h2, toks := tk + 1 } := by
      refine I.turnedNew (ch := [e, it]) (fun c o hb q => ?_) hf (Nat.le_refl _) ⟨by show 2 ≤ sizeLine; decide, [.int i tk, u'], .cons ⟨_, rfl⟩ (.cons ru .nil), _, pair, rfl, _, rfl⟩
      simp only [List.mem_cons, List.not_mem_nil, or_false, not_or] at hb
      exact (sb.2 c hb.1).trans (hk c o hb.1 hb.2 q)
    refine ⟨.ref s.heap.objs.size, _, J, rfl, ⟨_, x, ex, ⟨rfl, I.hok.fresh (Nat.le_refl _)⟩, rfl⟩, ⟨by omega, st.apart, inner.1.at fun o q => (sb.2 it n1.symm).trans q, u', ?_⟩, fun c hb => (upd_ne (Nat.ne_of_lt (st.lt hb))).trans (hf c hb).1⟩
    rw [show ((i + 1 : Nat) : Int) = (i : Int) + 1 from rfl]
    exact e3
  done := by
    rintro X rfl rfl rfl hc i pins s σ H E I hf st ⟨sq, le⟩
    obtain ⟨vs, rx, px, _⟩ := I.tuple sq
    have lx := rx.length
    have here : i = vs.toArray.size := by
      have := st.le
      rw [List.size_toArray]
      omega
    obtain ⟨old, e1⟩ := st.outer
    have f := hf it (by simp)
    refine wpAny_pyNext_enum_endD (drawsT (A := X.A.in1) (I.ok.hd hc) it a vs.toArray st.apart.2.1) e1 ⟨here ▸ st.inner, px⟩ fun h' eb => ⟨rfl, ?_⟩
    exact I.turned (t' := s.toks) (fun c o hb q => eb c o hb q) f.1 f.2.1 f.2.2.2.1 f.2.2.2.2.1 f.2.2.2.2.2
def iEnumU (K : PySem.W.Frag) (ta : TA) : TI := fun σ H R => ta σ H fun vs H1 => ∃ a xs, vs = [.ref a] ∧ ((SqL K H1 a xs ∧ R (Ite K a) H1) ∨ (SqT K H1 a xs ∧ R (IteT K a xs) H1))
theorem pi_enumU {X : Cx} {e : Expr} {ta : TA} {p pos tpos : Pos} {elts : List Expr} {kk : Nat} (hg : Gl X "enumerate") (hm : X.mg "enumerate" = none) (ha : PA X [e] ta) (hs : starEach [e] X.env = [(false, eval e X.env)] := by rfl) :
    PI X (.Tuple elts kk tpos) (.Call (.Name "enumerate" p) [e] [] pos) (iEnumU X.K ta) := ⟨fun pins s σ H R I h => by
  refine Call_ (ld_blt I hg hm boot_enumerate (PyProof.Rows.callWith_type1 (thn (ha.run pos pins s σ H _ I h) fun us s1 ⟨vs, H1, I1, r1, a, xs, ev, q1⟩ => ?_) hs rfl))
  subst ev
  rw [Vals.ref1 r1]
  have new : ∀ c ∈ [s1.heap.objs.size + 1, s1.heap.objs.size], FpOk X pins H1 c := fun c hc => by
    have le : s1.heap.objs.size ≤ c := by
      simp only [List.mem_cons, List.not_mem_nil, or_false] at hc
      rcases hc with rfl | rfl
      · exact Nat.le_succ _
      · exact Nat.le_refl _
    exact I1.fpOk le (I1.hok.fresh le)
  rcases q1 with ⟨sq, q⟩ | ⟨sq, q⟩
  · obtain ⟨its, _, pl, _⟩ := I1.list sq
    exact call_enumerate_list pl.isList fun h' e1 e2 _ hk => wpAny_pyIter_enum e1 ⟨_, _, _, _, H1, rfl, I1.kept (t' := s1.toks) hk, turn_enum a _ _, ⟨⟨.none, e1⟩, e2, Nat.succ_ne_self _⟩, new, q⟩
  · obtain ⟨its, _, pt, _⟩ := I1.tuple sq
    obtain ⟨o, eo, _⟩ := id pt
    have la := Heap.lt_size eo
    exact call_enumT (begins_tuple a its.toArray) (show s1.heap.IsTuple a its.toArray from pt) fun h' ⟨e1, e2⟩ hk => wpAny_pyIter_enum e1
      ⟨_, _, _, _, H1, rfl, I1.kept (t' := s1.toks) hk, turn_enumT a _ _, ⟨Nat.zero_le _, ⟨Nat.succ_ne_self _, Nat.ne_of_gt la, Nat.ne_of_gt (Nat.lt_succ_of_lt la)⟩, ⟨_, e2, rfl, rfl⟩, .none, e1⟩, new, q⟩⟩
/-! ### over data -/
def enumD : Nat → List D → List D
  | _, [] => []
  | n, d :: ds => .tup [.int (n : Nat), d] :: enumD (n + 1) ds
theorem enumD_len : ∀ (n : Nat) (ds : List D), (enumD n ds).length = ds.length
  | _, [] => rfl
  | n, d :: ds => by simp [enumD, enumD_len (n + 1) ds]
theorem enumD_get : ∀ (n i : Nat) (ds : List D), (enumD n ds)[i]? = ds[i]?.map fun d => .tup [.int ((n + i : Nat) : Int), d]
  | _, _, [] => by simp [enumD]
  | n, 0, d :: ds => by simp [enumD]
  | n, i + 1, d :: ds => by
    simp only [enumD, List.getElem?_cons_succ, enumD_get (n + 1) i ds]
    congr 1
    funext d
    rw [show n + 1 + i = n + (i + 1) by omega]
def iEnum (e : ME) : MI := fun en S => (e en S).bind fun d S1 => match seqL S1 d, seqT d with
  | some ds, _ => .ok ⟨enumD 0 ds, fun S => seqL S d = some ds⟩ S1
  | none, some ds => .ok ⟨enumD 0 ds, fun _ => True⟩ S1
  | none, none => .bad
theorem enum_item {B : Bas} {m' : Mp} {H' : Hp} {S : Sto} {i : Nat} {d : D} {ds : List D} {vs : List V} {v : V} {T : Addr} (s : Sub m' H') (c : Cor B m' S) (rs : Reps B m' ds vs) (hd : (enumD 0 ds)[i]? = some d) (hT : H' T = none) (hv : vs[i]? = some v) :
    ∃ m'', Le m' H' m'' (upd H' T (.tup [.int (i : Nat), v])) ∧ Cor B m'' S ∧ Rep B m'' d (.ref T) := by
  rw [enumD_get] at hd
  cases e : ds[i]? with
  | none => rw [e] at hd; cases hd
  | some y =>
    rw [e] at hd
    simp only [Option.map_some, Option.some.injEq, Nat.zero_add] at hd
    subst hd
    obtain ⟨w, hw, rw'⟩ := rs.get e
    rw [hv] at hw
    cases hw
    exact ⟨_, Le.new c s hT, Cor.new c s hT, rp_tup c s hT (Reps.cons (rp_int _) (Reps.cons rw' Reps.nil))⟩
theorem enum_at {i : Nat} {d : D} {ds : List D} (hd : (enumD 0 ds)[i]? = some d) : i < ds.length := by
  have := (List.getElem?_eq_some_iff.mp hd).1
  rwa [enumD_len] at this
theorem itr_enumL {B : Bas} {m : Mp} {a : Addr} {d : D} {ds : List D} (r : Rep B m d (.ref a)) : ItR B m ⟨enumD 0 ds, fun S => seqL S d = some ds⟩ (Ite B.K a) := fun m' H' S k s c p => by
  obtain ⟨a', vs, e, q, rs⟩ := repL s c (r.monoK k) p
  cases e
  refine ⟨fun i x hx => ?_, fun i hi => ⟨vs, q, by rw [← rs.length]; simpa [enumD_len] using hi⟩⟩
  have hi := enum_at hx
  obtain ⟨v, hv, _⟩ := rs.get (List.getElem?_eq_getElem hi)
  refine ⟨⟨vs, v, q, hv⟩, ?_⟩
  rintro y H'' ⟨T, z, rfl, hT, rfl, hz⟩
  exact enum_item s c rs hx hT (hz vs q)
theorem itr_enumT {B : Bas} {m : Mp} {a : Addr} {ds : List D} {vs : List V} (q : ∀ m' H', Kp m m' → Sub m' H' → SqT B.K H' a vs) (rs : Reps B m ds vs) : ItR B m ⟨enumD 0 ds, fun _ => True⟩ (IteT B.K a vs) := fun m' H' S k s c _ => by
  have ln := rs.length
  refine ⟨fun i x hx => ?_, fun i hi => ⟨q m' H' k s, by rw [← ln]; simpa [enumD_len] using hi⟩⟩
  have hi := enum_at hx
  refine ⟨⟨q m' H' k s, by omega⟩, ?_⟩
  rintro y H'' ⟨T, z, hz, ⟨rfl, hT⟩, rfl⟩
  exact enum_item s c (rs.monoK k) hx hT hz
theorem seqT_sq {B : Bas} {m : Mp} {d : D} {ds : List D} {v : V} (r : Rep B m d v) (p : seqT d = some ds) : ∃ a vs, v = .ref a ∧ Reps B m ds vs ∧ ∀ m' H', Kp m m' → Sub m' H' → SqT B.K H' a vs := by
  cases d with
  | tup xs =>
    cases p
    simp only [Rep] at r
    obtain ⟨a, vs, rfl, t, rs⟩ := r
    exact ⟨a, vs, rfl, rs, fun m' H' k s => (t.mono k).sq s⟩
  | ktp xs =>
    cases p
    simp only [Rep] at r
    obtain ⟨a, vs, rfl, t, rs⟩ := r
    exact ⟨a, vs, rfl, rs, fun m' H' k s => t.sq⟩
  | _ => cases p
theorem di_enum {X : Cx} {B : Bas} {W : WX} {e : Expr} {me : ME} {p pos tpos : Pos} {elts : List Expr} {kk : Nat} (hm : X.mg "enumerate" = none) (he : PE X e (tE B W me)) (hK : B.K = X.K := by rfl) (hg : Gl X "enumerate" := by rfl) (hs : starEach [e] X.env = [(false, eval e X.env)] := by rfl) :
    PI X (.Tuple elts kk tpos) (.Call (.Name "enumerate" p) [e] [] pos) (tI B W (iEnum me)) :=
  PI.cut (pi_enumU hg hm (da_cons he da_nil (by rw [hs]; rfl)) hs) fun σ H R ⟨m, S, en, s, c, er, q⟩ => by
    refine ⟨m, S, en, s, c, er, ?_⟩
    have q1 : Post B (ItR B) (at' W σ) m H R ((aCons me aNil en S).bind fun xs S1 => match xs with
        | [d] => (match seqL S1 d, seqT d with
          | some ds, _ => .ok ⟨enumD 0 ds, fun S => seqL S d = some ds⟩ S1
          | none, some ds => .ok ⟨enumD 0 ds, fun _ => True⟩ S1
          | none, none => .bad)
        | _ => .bad) := by
      simp only [aCons, aNil]
      unfold iEnum at q
      cases h : me en S with
      | ok d S1 => rw [h] at q; exact q
      | ex c ns vs S1 => rw [h] at q; exact q
      | bad => rw [h] at q; exact q
    refine (Post.bind q1).imp ?_
    rintro vs H1 ⟨ds, S1, m1, _, l1, c1, r1, p1⟩
    match ds, p1, r1 with
    | [], p1, _ => exact p1.elim
    | _ :: _ :: _, p1, _ => exact p1.elim
    | [d], p1, r1 =>
      obtain ⟨v, rfl, rv⟩ := r1.one
      cases h1 : seqL S1 d with
      | some ds =>
        simp only [h1] at p1
        obtain ⟨a, us, rfl, q, rs⟩ := repL l1.sub c1 rv h1
        exact ⟨a, us, rfl, .inl ⟨hK ▸ q, p1 m1 H1 _ (Le.refl l1.sub) c1 (hK ▸ itr_enumL rv)⟩⟩
      | none =>
        cases h2 : seqT d with
        | none => simp only [h1, h2] at p1; exact p1.elim
        | some ds =>
          simp only [h1, h2] at p1
          obtain ⟨a, us, rfl, rs, q⟩ := seqT_sq rv h2
          exact ⟨a, us, rfl, .inr ⟨hK ▸ q m1 H1 (Kp.refl m1) l1.sub, p1 m1 H1 _ (Le.refl l1.sub) c1 (hK ▸ itr_enumT q rs)⟩⟩
end G
end
section
set_option Elab.async false
set_option linter.all false
set_option maxRecDepth 100000
set_option maxHeartbeats 2000000
/-! G28: a <= b of data; a < b < c; zip -/
namespace PySem.SeqAt
open Sem (wp)
open AutoSeq1 (wpAny_loadPart')
open MeetsSeq MeetsSeq2 MeetsSeq3 SeqRoads2
def RcLe (A : Around) (s : Shared) (x y : Value) (b : Bool) : Prop := ∀ (prog : Program) (w : World) (E : Value → Shared → Prop) (Q : Value → Shared → Prop), Q (.bool b) s → wpAny (model prog w) A (richCompare .LtE x y) Q E s
theorem tuple_leF (l b : Addr) (items items2 : Array Value) (n n2 : Nat) (dd dd2 : Option Addr) (sl sl2 : Array (Option Value)) (e r : Nat → Bool) :
    Meets (Builtin.«tuple.__le__» ⟨[.ref l, .ref b], []⟩)
      (fun A R s => (s.heap.get? l = some { cls := .type "tuple", dict := dd, data := .seq items n, slots := sl } ∧ s.heap.get? b = some { cls := .type "tuple", dict := dd2, data := .seq items2 n2, slots := sl2 }) ∧
        ((∀ j (h1 : j < items.size) (h2 : j < items2.size), EqAt A.in1 s items[j] items2[j] (e j)) ∧ (∀ j (h1 : j < items.size) (h2 : j < items2.size), (∀ i, i < j → e i = true) → e j = false → RcLe A.in1 s items[j] items2[j] (r j))) ∧
        R (.ok (.ret (.bool (firstLt e r (decide (items.size ≤ items2.size)) (List.range (min items.size items2.size)))))) s) :=
  .of_wp fun prog w A R s h => by
    obtain ⟨hp, g, d, tk, os⟩ := s; obtain ⟨⟨hl, hb⟩, ⟨he, hr⟩, h⟩ := h
    have f2 := AutoSeq1.sub_tuple_tuple
    have lenZ : (items.toList.zip items2.toList).length = min items.size items2.size := by simp
    wp_walk using wpAny_loadPart' hl, wpAny_loadPart' hb, wpAny_forIn_list _ (fun rest b s' => b.1 = none ∧ s' = ⟨hp, g, d, tk, os⟩ ∧ ∃ i, (∀ k, k < i → e k = true) ∧ rest = (items.toList.zip items2.toList).drop i ∧
      R (.ok (.ret (.bool (firstLt e r (decide (items.size ≤ items2.size)) ((List.range (min items.size items2.size)).drop i))))) ⟨hp, g, d, tk, os⟩) _
    case turn =>
      rintro ⟨y, x⟩ rest b s' ⟨hb', rfl, i, hpre, hz, hR⟩
      have hlt : i < (items.toList.zip items2.toList).length := by
        apply Nat.lt_of_not_le
        intro h'
        rw [List.drop_of_length_le h'] at hz
        cases hz
      have hm : i < min items.size items2.size := lenZ ▸ hlt
      have h1 : i < items.size := Nat.lt_of_lt_of_le hm (Nat.min_le_left _ _)
      have h2 : i < items2.size := Nat.lt_of_lt_of_le hm (Nat.min_le_right _ _)
      rw [List.drop_eq_getElem_cons hlt] at hz
      injection hz with hyx hrest
      obtain rfl : y = items[i] := by simpa using congrArg Prod.fst hyx
      obtain rfl : x = items2[i] := by simpa using congrArg Prod.snd hyx
      have hd : (List.range (min items.size items2.size)).drop i = i :: (List.range (min items.size items2.size)).drop (i + 1) := by simp [List.drop_eq_getElem_cons, hm]
      rw [hd] at hR
      refine wpAny_bind (he i h1 h2 prog w _ _ ?_)
      cases hy : e i with
      | true =>
        rw [firstLt_yes hy] at hR
        wp_walk
        refine ⟨rfl, rfl, i + 1, fun k hk => ?_, hrest, hR⟩
        rcases Nat.lt_succ_iff_lt_or_eq.mp hk with z | z
        · exact hpre k z
        · rw [z]; exact hy
      | false =>
        rw [firstLt_no hy] at hR
        have hrc := hr i h1 h2 hpre hy
        unfold RcLe at hrc
        generalize richCompare CmpOp.LtE items[i] items2[i] = rc at hrc ⊢
        wp_walk
        refine hrc prog w _ _ ?_
        wp_walk
        exact ⟨_, rfl, hR⟩
    case fin =>
      rintro ⟨b1, b2⟩ s' ⟨hb', rfl, i, _, hz, hR⟩
      simp only at hb'
      subst hb'
      have hge : min items.size items2.size ≤ i := by
        apply Nat.le_of_not_lt
        intro h'
        rw [List.drop_eq_getElem_cons (by rw [lenZ]; exact h')] at hz
        cases hz
      rw [List.drop_of_length_le (by simpa using hge)] at hR
      wp_walk
      exact ⟨_, rfl, by simpa [Builtin.Tuple.tupleCompareSizes, firstLt] using hR⟩
    case h => exact ⟨rfl, rfl, 0, fun k hk => absurd hk (Nat.not_lt_zero _), rfl, by simpa using h⟩
theorem RcLe_tupF {A : Around} {s : Shared} {l b : Addr} {items items2 : Array Value} {e r : Nat → Bool} (hl : s.heap.IsTuple l items) (hb : s.heap.IsTuple b items2) (hu : A.units < cLine)
    (he : ∀ j (h1 : j < items.size) (h2 : j < items2.size), EqAt A.in1 s items[j] items2[j] (e j)) (hr : ∀ j (h1 : j < items.size) (h2 : j < items2.size), (∀ i, i < j → e i = true) → e j = false → RcLe A.in1 s items[j] items2[j] (r j)) :
    RcLe A s (.ref l) (.ref b) (firstLt e r (decide (items.size ≤ items2.size)) (List.range (min items.size items2.size))) := fun prog w E Q h => by
  obtain ⟨⟨cls, dd, data, sl⟩, ho, hc, n, hd⟩ := id hl
  obtain ⟨⟨cls2, dd2, data2, sl2⟩, ho2, hc2, n2, hd2⟩ := id hb
  simp only at hc hd hc2 hd2
  subst hc hd hc2 hd2
  exact richCompare_meets_room (op := .LtE) ⟨_, ho, rfl⟩ ⟨_, ho2, rfl⟩ F.slot_tuple_le F.entry_tuple_le (F.args_tuple_le_2 _ _) (tuple_leF l b items items2 n n2 dd dd2 sl sl2 e r)
    ⟨⟨ho, ho2⟩, ⟨he, hr⟩, ⟨(fun x => nomatch x), h⟩⟩ hu
end PySem.SeqAt
namespace G
open PySem L2
mutual
def pLe : PyData → PyData → Option Bool
  | .int i, .int j => some (decide (i ≤ j))
  | .str x, .str y => some (!(decide (y.cps.toList < x.cps.toList)))
  | .tuple xs, .tuple ys => pLes xs ys
  | _, _ => none
def pLes : List PyData → List PyData → Option Bool
  | [], [] => some true
  | [], _ :: _ => some true
  | _ :: _, [] => some false
  | x :: xs, y :: ys => if PyData.eqv x y = true then pLes xs ys else pLe x y
end
open SeqAt in
theorem firstLt_pLes : ∀ (xs ys : List PyData) (k : Bool) (r : Nat → Bool), pLes xs ys = some k →
    (∀ j, j < xs.length → j < ys.length → (∀ i, i < j → pairEq xs ys i = true) → pairEq xs ys j = false → pLe (xs.getD j .none) (ys.getD j .none) = some (r j)) →
    firstLt (pairEq xs ys) r (decide (xs.length ≤ ys.length)) (List.range (min xs.length ys.length)) = k
  | [], [], k, r, h, _ => by
    simp only [pLes] at h
    cases h
    simp [firstLt]
  | [], y :: ys, k, r, h, _ => by
    simp only [pLes] at h
    cases h
    simp [firstLt]
  | x :: xs, [], k, r, h, _ => by
    simp only [pLes] at h
    cases h
    simp [firstLt]
  | x :: xs, y :: ys, k, r, h, hr => by
    have e0 : pairEq (x :: xs) (y :: ys) 0 = PyData.eqv x y := rfl
    have e1 : ∀ j, pairEq (x :: xs) (y :: ys) (j + 1) = pairEq xs ys j := fun _ => rfl
    simp only [List.length_cons, Nat.succ_min_succ, firstLt_shift, e0, e1]
    simp only [pLes] at h
    split at h
    · rename_i hq
      rw [if_pos hq]
      have ih := firstLt_pLes xs ys k (fun j => r (j + 1)) h fun j h1 h2 hpre hj => by
        have := hr (j + 1) (by simpa using h1) (by simpa using h2) (fun i hi => by
          cases i with
          | zero => exact hq
          | succ i => exact hpre i (by omega)) hj
        simpa using this
      simpa using ih
    · rename_i hq
      rw [if_neg hq]
      have := hr 0 (by simp) (by simp) (fun i hi => absurd hi (Nat.not_lt_zero _)) (by rw [e0]; simpa using hq)
      simp only [List.getD_cons_zero] at this
      rw [h] at this
      exact (Option.some.inj this).symm
theorem pLes_at : ∀ (xs ys : List PyData) (k : Bool), pLes xs ys = some k → ∀ j, j < xs.length → j < ys.length → (∀ i, i < j → SeqAt.pairEq xs ys i = true) → SeqAt.pairEq xs ys j = false → ∃ q, pLe (xs.getD j .none) (ys.getD j .none) = some q
  | [], _, _, _, j, h1, _, _, _ => absurd h1 (Nat.not_lt_zero _)
  | _ :: _, [], _, _, j, _, h2, _, _ => absurd h2 (Nat.not_lt_zero _)
  | x :: xs, y :: ys, k, h, j, h1, h2, hpre, hj => by
    simp only [pLes] at h
    cases j with
    | zero =>
      have hj' : PyData.eqv x y = false := hj
      rw [hj'] at h
      simp only [Bool.false_eq_true, if_false] at h
      exact ⟨k, h⟩
    | succ j =>
      have h0 : PyData.eqv x y = true := hpre 0 (Nat.succ_pos _)
      rw [if_pos h0] at h
      exact pLes_at xs ys k h j (by simpa using h1) (by simpa using h2) (fun i hi => hpre (i + 1) (by omega)) hj
mutual
theorem rcLe_p : ∀ (da db : PyData) (A : Around) (s : Shared) (a b : Value) (as bs : List Addr) (k : Bool), Reads s.heap a da as → Reads s.heap b db bs → da.canLay0 = true → db.canLay0 = true → A.units + min da.depth db.depth < cLine → pLe da db = some k → SeqAt.RcLe A s a b k
  | .int x, db, A, s, a, b, as, bs, k, ra, rb, ha, hb, hu, h => by
    cases db with
    | int y =>
      simp only [pLe] at h
      cases h
      cases ra
      cases rb
      exact fun prog w E Q hq => P.le_int hq
    | _ => simp [pLe] at h
  | .str x, db, A, s, a, b, as, bs, k, ra, rb, ha, hb, hu, h => by
    cases db with
    | str y =>
      simp only [pLe] at h
      cases h
      cases ra
      cases rb
      exact fun prog w E Q hq => P.le_str hq
    | _ => simp [pLe] at h
  | .tuple xs, db, A, s, a, b, as, bs, k, ra, rb, ha, hb, hu, h => by
    cases db with
    | tuple ys =>
      simp only [pLe] at h
      have ha' : PyData.canLayAll0 xs = true := by simpa [PyData.canLay0] using ha
      have hb' : PyData.canLayAll0 ys = true := by simpa [PyData.canLay0] using hb
      cases ra with
      | @tuple l o vs n _ as₁ h1 h2 h3 h4 =>
        cases rb with
        | @tuple l' o' vs' n' _ bs₁ k1 k2 k3 k4 =>
          have hl : s.heap.IsTuple l vs := ⟨_, h1, h2, _, h3⟩
          have hl' : s.heap.IsTuple l' vs' := ⟨_, k1, k2, _, k3⟩
          have n1 : vs.size = xs.length := PySem.W.readsAll_len h4
          have n2 : vs'.size = ys.length := PySem.W.readsAll_len k4
          have hu1 : (A.in1).units + min (PyData.depthAll xs) (PyData.depthAll ys) < cLine := SeqAt.room_in hu
          rw [← firstLt_pLes xs ys k (fun j => (pLe (xs.getD j .none) (ys.getD j .none)).getD false) h (fun j h1 h2 hpre hj => by
            obtain ⟨q, hq⟩ := pLes_at xs ys k h j h1 h2 hpre hj
            rw [hq]
            rfl), ← n1, ← n2]
          refine SeqAt.RcLe_tupF hl hl' (SeqAt.room_here hu) (fun j j1 j2 => ?_) fun j j1 j2 hpre hj => ?_
          · have := SeqAt.eqAt_readsAll xs ys A.in1 s vs.toList vs'.toList _ _ h4 k4 ha' hb' hu1 j (by simpa using j1) (by simpa using j2)
            simpa using this
          · obtain ⟨q, hq⟩ := pLes_at xs ys k h j (by omega) (by omega) hpre hj
            have := rcLe_ps xs ys A.in1 s vs.toList vs'.toList _ _ h4 k4 ha' hb' hu1 j (by simpa using j1) (by simpa using j2) q hq
            rw [hq]
            simpa using this
    | _ => simp [pLe] at h
  | .none, db, _, _, _, _, _, _, _, _, _, _, _, _, h => by simp [pLe] at h
  | .bool _, db, _, _, _, _, _, _, _, _, _, _, _, _, h => by simp [pLe] at h
  | .list _, db, _, _, _, _, _, _, _, _, _, _, _, _, h => by simp [pLe] at h
  | .dict _, db, _, _, _, _, _, _, _, _, _, _, _, _, h => by simp [pLe] at h
theorem rcLe_ps : ∀ (xs ys : List PyData) (A : Around) (s : Shared) (vs ws : List Value) (as bs : List Addr), ReadsAll s.heap vs xs as → ReadsAll s.heap ws ys bs → PyData.canLayAll0 xs = true → PyData.canLayAll0 ys = true →
    A.units + min (PyData.depthAll xs) (PyData.depthAll ys) < cLine → ∀ j (h1 : j < vs.length) (h2 : j < ws.length) (q : Bool), pLe (xs.getD j .none) (ys.getD j .none) = some q → SeqAt.RcLe A s vs[j] ws[j] q
  | [], _, _, _, _, _, _, _, ra, _, _, _, _, j, h1, _, _, _ => by cases ra; exact absurd h1 (Nat.not_lt_zero _)
  | _ :: _, [], _, _, _, _, _, _, _, rb, _, _, _, j, _, h2, _, _ => by cases rb; exact absurd h2 (Nat.not_lt_zero _)
  | x :: xs, y :: ys, A, s, _, _, _, _, ra, rb, ha, hb, hu, j, h1, h2, q, hq => by
    have ha' : x.canLay0 = true ∧ PyData.canLayAll0 xs = true := by simpa [PyData.canLayAll0] using ha
    have hb' : y.canLay0 = true ∧ PyData.canLayAll0 ys = true := by simpa [PyData.canLayAll0] using hb
    cases ra with
    | cons r rs =>
      cases rb with
      | cons r' rs' =>
        cases j with
        | zero => exact rcLe_p x y A s _ _ _ _ q r r' ha'.1 hb'.1 (SeqAt.room_head hu) (by simpa using hq)
        | succ j => exact rcLe_ps xs ys A s _ _ _ _ rs rs' ha'.2 hb'.2 (SeqAt.room_tail hu) j (Nat.lt_of_succ_lt_succ h1) (Nat.lt_of_succ_lt_succ h2) q (by simpa using hq)
end
def rLeP (K : PySem.W.Frag) : R2 := fun x y H Q => ∃ p q k, Dp K H x p ∧ Dp K H y q ∧ SeqAt.shaped p = true ∧ SeqAt.shaped q = true ∧ pLe p q = some k ∧ Q (.bl k) H
theorem op_leP {X : Cx} (hu : X.A.units + 64 < cLine) : OpR X (compareOp .LtE) (rLeP X.K) := by
  intro pins s σ H x y v u Q I rx ry h
  obtain ⟨p, q, k, hp, hq, sp, sq, e, qq⟩ := h
  obtain ⟨as, r1⟩ := Dp.reads I p x v hp rx
  obtain ⟨bs, r2⟩ := Dp.reads I q y u hq ry
  exact rcLe_p p q X.A s v u as bs k r1 r2 (SeqAt.canLay_of_shaped sp) (SeqAt.canLay_of_shaped sq) (room_sh sp hu) e X.prog X.w X.xe _ ⟨.bl k, H, I, rfl, qq⟩
def dLe (S : Sto) (x y : D) : Option D := match pdv S x, pdv S y with
  | some p, some q => if SeqAt.shaped p = true ∧ SeqAt.shaped q = true then (pLe p q).map .bl else none
  | _, _ => none
theorem op2_le {B : Bas} : Op2 B (rLeP B.K) dLe := fun m S H x y d1 d2 d s c r1 r2 e Q q => by
  unfold dLe at e
  split at e
  · rename_i p z h1 h2
    split at e
    · rename_i hs
      cases h : pLe p z with
      | none => rw [h] at e; cases e
      | some k => rw [h] at e; cases e; exact ⟨p, z, k, r1.dpv s c h1, r2.dpv s c h2, hs.1, hs.2, h, q_val s c q (rp_bl m)⟩
    · cases e
  · cases e
end G
end
section
set_option Elab.async false
set_option linter.all false
set_option maxRecDepth 100000
set_option maxHeartbeats 2000000
/-! G29: {k: v for ..} with tuple keys -/
namespace G
open PySem PySem.Spec PyProof.Rows L2
section
variable {X : Cx}
theorem d_dictSetT {pins : List (Addr × Obj)} {σ : L2.St} {H : Hp} {s : Shared} {E : Value → Shared → Prop} {D b : Addr} {kvs : List (List Key × V)} {k : List Key} {v : V} {u r : Value} {Q : Unit → Shared → Prop} (hu : X.A.units + 1 < cLine) (I : Inv X pins σ H s) (hD : H D = some (.dT kvs)) (hb : H b = some (.tup (k.map kV))) (hz : kvs.length < sizeLine)
    (ry : RelV (.ref b) u) (rv : RelV v r) (h : ∀ s', Inv X pins σ (upd H D (.dT (putK kvs k v))) s' → Q () s') : wpAny (model X.prog X.w) X.A (dictSet D u r) Q E s := by
  cases (show u = Value.ref b from ry)
  obtain ⟨z, hd, xs, rel, dd⟩ := dt_of I.hok hD
  have hzv : xs.length ≤ sizeLine := by rw [← rel.length]; exact z
  have hl : (putK kvs k v).length ≤ sizeLine := by have := length_putK kvs k v; omega
  have hne : b ≠ D := ne_of hb hD (by intro q; cases q)
  refine wpAny_dictSet_heap (hsz := hzv) (show (tupleKind (mixKind X.prog X.w)).room X.A from by show X.A.units < cLine; omega) (key_of I.hok hb) dd fun h' dd' hs => h _ ?_
  obtain ⟨q, es, ep, hq, h2, h3, h4, _, h5⟩ := dd'
  refine d_write I (by rw [hD]; exact True.intro) hs ⟨q, hq⟩ ⟨hl, hd, _, (rel.put k hb rv).keeps fun c ys ec => ?_, q, es, ep, hq, h2, h3, h4, h5⟩
  rw [upd_ne (ne_of ec hD (by intro z; cases z))]
  exact ec
/-- of each block of this scope -/
abbrev InBlk (X : Cx) (scope : Scope) (Φ : Cx → Prop) : Prop := ∀ (s : Shared) (H : Hp) (C : Addr) (cl : List (Str × Addr)) (fp : List Addr), Φ (X.blk s H scope (compEnvC scope cl C X.env) fp)
/-- a pair is laid into the dict at D -/
def DcPut (D : Addr) (Nx : Hp → Prop) (y z : V) (H : Hp) : Prop := ∃ kvs k bk, y = .ref bk ∧ H bk = some (.tup (k.map kV)) ∧ H D = some (.dT kvs) ∧ kvs.length < sizeLine ∧ Nx (upd H D (.dT (putK kvs k z)))
/-- what one item wants: the target, the test, then the key, the value and the pair, or nothing -/
def DcItem (g : TG) (tt : TT) (tk tv : TE) (σ0 : L2.St) (vs : List Nat) (D : Addr) (Nx : Hp → Prop) (x : V) (H : Hp) : Prop :=
  g x σ0 H fun σ2 H2 => wipe σ2 vs = σ0 ∧ tt σ2 H2 fun b H3 => if b = true then tk σ2 H3 fun y H4 => tv σ2 H4 fun z H5 => DcPut D Nx y z H5 else Nx H3
def tDcT (wi : TI) (g : TG) (tt : TT) (tk tv : TE) (vs : List Nat) : TE := fun σ H Q => wi σ H fun J H1 => ∀ D, H1 D = none → ∃ W : Nat → Nat → Hp → Prop, (∃ m, W 0 m (upd H1 D (.dT []))) ∧
  ∀ i m H, W i m H → (J.stop i H ∧ Q (.ref D) H) ∨ (J.go i H ∧ ∃ Nx : Hp → Prop, (∀ H', Nx H' → ∃ m', m' < m ∧ W (i + 1) m' H') ∧ ∀ x H', J.yld i H x H' → DcItem g tt tk tv (wipe σ vs) vs D Nx x H')
/-- a turn begins: the block's state, the iterator's, and nothing is known of what the iterator stands on -/
structure Stand (Y : Cx) (fp : List Addr) (tn : Nat → Heap → Prop) (σ0 : L2.St) (i : Nat) (H : Hp) (s : Shared) : Prop where
  inv : Inv Y [] σ0 H s
  at_ : tn i s.heap
  no : ∀ b ∈ fp, H b = none
section
variable {s0 : Shared} {H0 : Hp} {scope : Scope} {ce : Env} {fp : List Addr} {tn : Nat → Heap → Prop} {σ0 : L2.St} {tg : Expr} {J : It} {it : Addr}
theorem fp_blk {σ : L2.St} {H : Hp} {s : Shared} (I : Inv (X.blk s0 H0 scope ce fp) [] σ H s) (no : ∀ b ∈ fp, H b = none) {b : Addr} (hb : b ∈ fp) : FpOk (X.blk s0 H0 scope ce fp) [] H b := by
  have e1 := I.ok.exf b hb
  refine ⟨no b hb, e1.1, I.ok.exfs b hb, .inl hb, fun _ _ e => e1.2 _ _ e, fun p hp => ?_⟩
  have : p ∈ ([] : List (Addr × Obj)) ++ [] := hp
  exact absurd this (by simp)
/-- behind an item's work: the next turn -/
theorem Stand.after {vs : List Nat} {i : Nat} {σ' : L2.St} {H' : Hp} {s' s7 : Shared} (T : Turn X.prog X.w X.K tg J fp it tn) (t7 : tn (i + 1) s7.heap) (I' : Inv (X.blk s0 H0 scope ce fp) ([] ++ pinsAt fp s7.heap) σ' H' s') (hw : wipe σ' vs = σ0) : Stand (X.blk s0 H0 scope ce fp) fp tn σ0 (i + 1) H' s' := by
  have held : ∀ b ∈ fp, ∀ o, s7.heap.get? b = some o → s'.heap.get? b = some o ∧ H' b = none := fun b hb o e => by
    have z := I'.pin (b, o) (List.mem_append_right _ (List.mem_append_right _ (mem_pinsAt hb e)))
    exact ⟨z.1, z.2.1⟩
  subst hw
  refine ⟨I'.unpinned.weak (wipe_length σ' vs) fun j v e => (wipe_some e).1, T.keep _ _ _ t7 fun b hb o e => (held b hb o e).1, fun b hb => ?_⟩
  obtain ⟨o, e, _⟩ := T.obj _ _ t7 b hb
  exact (held b hb o e).2
/-- one item, laid into the dict or left out -/
theorem Stand.item {vs : List Nat} {i : Nat} {H : Hp} {s : Shared} {D : Addr} {Nx : Hp → Prop} {g : TG} {tt : TT} {tk tv : TE} {kx vx : Expr} {ifs : List Expr} {R : Shared → Prop} {F : Value → Shared → Prop} (hu : X.A.units + 1 < cLine) (hc : X.calm = true) (T : Turn X.prog X.w X.K tg J fp it tn) (S : Stand (X.blk s0 H0 scope ce fp) fp tn σ0 i H s)
    (pg : PG (X.blk s0 H0 scope ce fp) tg g) (pt : PTs (X.blk s0 H0 scope ce fp) ifs tt) (pk : PE (X.blk s0 H0 scope ce fp) kx tk) (pe : PE (X.blk s0 H0 scope ce fp) vx tv)
    (go : J.go i H) (step : ∀ x H', J.yld i H x H' → DcItem g tt tk tv σ0 vs D Nx x H') (r : ∀ H' s', Stand (X.blk s0 H0 scope ce fp) fp tn σ0 (i + 1) H' s' → Nx H' → R s') :
    wpAny (model X.prog X.w) X.A (pyNext (.ref it)) (fun o s1 => ∃ u, o = some u ∧ wpAny (model X.prog X.w) X.A (letOwnedTupleGo tg (.ref it) u) (fun _ s2 => wpAny (model X.prog X.w) X.A (assign tg ce u) (fun _ s3 =>
      wpAny (model X.prog X.w) X.A (forIn ifs true fun c r => if r = true then do let ok ← isTrue c ce (eval c ce); pure (ForInStep.yield ok) else pure (ForInStep.yield r)) (fun b s4 =>
        if b = true then wpAny (model X.prog X.w) X.A (eval kx ce) (fun kv s5 => wpAny (model X.prog X.w) X.A (eval vx ce) (fun vv s6 => wpAny (model X.prog X.w) X.A (dictSet D kv vv) (fun _ s7 => R s7) F s6) F s5) F s4 else R s4) F s3) F s2) F s1) F s := by
  refine thnF (T.item (X.blk s0 H0 scope ce fp) rfl rfl rfl hc i [] s σ0 H (fun _ _ => False) S.inv (fun b hb => fp_blk S.inv S.no hb) S.at_ go) fun o s1 ⟨u, ho, w1⟩ => ⟨u, ho, thnF w1 fun _ s2 ⟨x, H2, I2, rx, y2, t2, n2⟩ => ?_⟩
  have P2 := I2.pinned (fun b hb => fp_blk I2 n2 hb) (T.obj _ _ t2)
  refine thnF (pg.run _ s2 σ0 H2 x u _ P2 rx (step x H2 y2)) fun _ s3 ⟨σ3, H3, I3, w3, q3⟩ => thnF (pt.run _ s3 σ3 H3 _ I3 q3) fun b s4 ⟨H4, I4, q4⟩ => ?_
  cases b with
  | false => exact r H4 s4 (Stand.after T t2 I4 w3) q4
  | true =>
    rw [if_pos rfl]
    refine thnF (pk.run _ s4 σ3 H4 _ I4 q4) fun kv s5 ⟨y, H5, I5, r5, q5⟩ => thnF (pe.run _ s5 σ3 H5 _ I5 q5) fun vv s6 ⟨z, H6, I6, r6, q6⟩ => ?_
    obtain ⟨kvs, k, bk, rfl, hb, hD, few, nx⟩ := q6
    exact d_dictSetT (X := X.blk s0 H0 scope ce fp) hu I6 hD hb few r5 r6 fun s7 I7 => r _ s7 (Stand.after T t2 I7 w3) nx
end
/-- the whole comprehension -/
theorem dcT_core {pins : List (Addr × Obj)} {s : Shared} {σ : L2.St} {H : Hp} {Q : VK} {kx vx tg iter : Expr} {ifs : List Expr} {scope : Scope} {own : List (Str × Nat)} {pos pos' : Pos} {wi : TI} {g : TG} {tt : TT} {tk tv : TE} {use : Option (Value → Sem Unit)} {Qf : Value → Shared → Prop}
    (hu : X.A.units + 1 < cLine) (hc : X.calm = true) (hN : X.N.Nodup) (I : Inv X pins σ H s) (hi : PI X tg iter wi) (ok : BlkOk X.N X.env.scope scope own)
    (hg : InBlk X scope fun Y => PG Y tg g) (ht : InBlk X scope fun Y => PTs Y ifs tt) (hk : InBlk X scope fun Y => PE Y kx tk) (he : InBlk X scope fun Y => PE Y vx tv) (hs : ∀ x, foldedSetIterable iter X.env x = pure x) (h : tDcT wi g tt tk tv (own.map (·.2)) σ H Q)
    (hRR : ∀ D C s' m H', Inv X pins σ H' s' → Q (.ref D) H' → s'.heap.Ns C m → FpOk X pins H' C → compPost (model X.prog X.w) X.A X.xe use Qf (.ref D) C (.ok .next) s') :
    wpAny (model X.prog X.w) X.A (comprehension (.DictComp kx vx [⟨tg, iter, ifs, 0⟩] scope pos) scope X.env pos' newDict false (eval iter X.env) use) Qf X.xe s := by
  have cells : ∀ y ∈ scope.names, y.2 = .free → ∃ c, X.env.cells.lookup y.1 = some c := fun y hy e => I.ok.has _ ((ok.free y hy e).elim .inl .inr)
  refine wpAny_comprehension_free (use := use) rfl hs (closure_ok cells) ok.kind (fun y hy e => (ok.uniq y hy).trans (congrArg some e)) (thn (hi.run pins s σ H _ I h) fun v s1 hv => thn hv fun w s2 hw => ?_)
  obtain ⟨it, fp, tn, J, H2, rfl, I2, T, t2, f2, q⟩ := hw
  refine wpAny_newObj_type (newEnv_comp ?_)
  obtain ⟨W, ⟨m0, w0⟩, turn⟩ := q s2.heap.objs.size (I2.hok.fresh (Nat.le_refl _))
  -- the dict is laid
  generalize hS : ({ s2 with heap := s2.heap.push { cls := .type "dict", data := .dict #[] } } : Shared) = s3
  have e3 : s3.heap = s2.heap.push { cls := .type "dict", data := .dict #[] } := by rw [← hS]
  have grow : ∀ b o, s2.heap.get? b = some o → s3.heap.get? b = some o := fun b o e => by rw [e3]; exact Heap.get?_push_of_some _ e
  have below : ∀ b ∈ fp, b < s2.heap.objs.size := fun b hb => by
    obtain ⟨_, e, _⟩ := T.obj _ _ t2 b hb
    exact Heap.lt_size e
  have I3 : Inv X pins σ (upd H2 s2.heap.objs.size (.dT [])) s3 := by
    rw [← hS]
    exact I2.laid (t' := s2.toks) (fun _ _ e => Heap.get?_push_of_some _ e) (Nat.le_refl _) (dt_empty s2.heap I2.big)
  have f3 : ∀ b ∈ fp, FpOk X pins (upd H2 s2.heap.objs.size (.dT [])) b ∧ b < s3.heap.objs.size := fun b hb => by
    refine ⟨⟨(upd_ne (Nat.ne_of_lt (below b hb))).trans (f2 b hb).1, (f2 b hb).2⟩, ?_⟩
    rw [e3, Heap.size_push]
    exact Nat.lt_succ_of_lt (below b hb)
  -- the block is entered
  have B0 := block_start I3 ok hN f3
  generalize upd H2 s2.heap.objs.size (.dT []) = H3 at I3 f3 B0 w0
  generalize hC : cellsFrom (s3.heap.objs.size + 1) scope.names (cloFrom X.env.cells scope.names []) = cl at B0
  have S0 : Stand (X.blk s3 H3 scope (compEnvC scope cl s3.heap.objs.size X.env) fp) fp tn (wipe σ (own.map (·.2))) 0 H3 { s3 with heap := pushCells (s3.heap.push { cls := .type "dict", data := .dict #[] }) scope.names } :=
    ⟨B0, T.keep _ _ _ t2 fun b _ o e => pushCells_keeps _ _ _ _ (Heap.get?_push_of_some _ (grow b o e)), fun b hb => (f3 b hb).1.1⟩
  have all : codeAny (model X.prog X.w) X.A (.compLoop (.DictComp kx vx [⟨tg, iter, ifs, 0⟩] scope pos) 0 (.ref it) (.ref s2.heap.objs.size) (compEnvC scope cl s3.heap.objs.size X.env)) (compPost (model X.prog X.w) X.A X.xe use Qf (.ref s2.heap.objs.size) s3.heap.objs.size) { s3 with heap := pushCells (s3.heap.push { cls := .type "dict", data := .dict #[] }) scope.names } := by
    refine compLoop_anyD (fun n s' => ∃ i H', Stand (X.blk s3 H3 scope (compEnvC scope cl s3.heap.objs.size X.env) fp) fp tn (wipe σ (own.map (·.2))) i H' s' ∧ W i n H') (fun n s5 ⟨i, H5, S5, w5⟩ => ?_) m0 ⟨0, H3, S0, w0⟩
    rcases turn i n H5 w5 with ⟨stop, fin⟩ | ⟨go, Nx, less, step⟩
    · refine thnF (T.done (X.blk s3 H3 scope (compEnvC scope cl s3.heap.objs.size X.env) fp) rfl rfl rfl hc i [] s5 _ H5 (fun _ _ => False) S5.inv (fun b hb => fp_blk S5.inv S5.no hb) S5.at_ stop) fun o s6 ⟨ho, I6⟩ => ?_
      subst ho
      obtain ⟨m, ns, _⟩ := I6.loc
      have back : Inv X pins σ H5 s6 := I3.call' (ch := fp) I6.os I6.base I6.hok I6.bare fun b hb => by
        have z := (f3 b hb).1.2
        exact ⟨z.2.2.1, z.1, z.2.2.2.1, z.2.2.2.2⟩
      exact hRR _ _ s6 m H5 back fin ns (I3.fpOk (Nat.le_refl _) I6.free)
    · refine thnF (Stand.item (R := fun s' => ∃ m, m < n ∧ ∃ i H', Stand (X.blk s3 H3 scope (compEnvC scope cl s3.heap.objs.size X.env) fp) fp tn (wipe σ (own.map (·.2))) i H' s' ∧ W i m H') (F := fun _ _ => False) hu hc T S5 (hg _ _ _ _ _) (ht _ _ _ _ _) (hk _ _ _ _ _) (he _ _ _ _ _) go step fun H' s' S' nx => ?_) fun o s6 ⟨u, ho, w6⟩ => ?_
      · obtain ⟨m', hm, w'⟩ := less H' nx
        exact ⟨m', hm, i + 1, H', S', w'⟩
      · subst ho
        exact thnF w6 fun _ s7 w7 => thnF w7 fun _ s8 w8 => thnF w8 fun b s9 w9 => by
          cases b with
          | false => exact w9
          | true => exact thnF w9 fun _ s10 w10 => thnF w10 fun _ s11 w11 => thnF w11 fun _ s12 w12 => w12
  subst hC
  exact codeAny_compStart_dict all (T.self X.A 0 _ _ _ S0.at_ all)
/-- as a value -/
theorem pe_dcT {kx vx tg iter : Expr} {ifs : List Expr} {scope : Scope} {own : List (Str × Nat)} {pos : Pos} {wi : TI} {g : TG} {tt : TT} {tk tv : TE} (hu : X.A.units + 1 < cLine) (hc : X.calm = true) (hN : X.N.Nodup) (hi : PI X tg iter wi) (ok : BlkOk X.N X.env.scope scope own)
    (hg : InBlk X scope fun Y => PG Y tg g) (ht : InBlk X scope fun Y => PTs Y ifs tt) (hk : InBlk X scope fun Y => PE Y kx tk) (he : InBlk X scope fun Y => PE Y vx tv) (hs : ∀ x, foldedSetIterable iter X.env x = pure x := by intro _; rfl) :
    PE X (.DictComp kx vx [⟨tg, iter, ifs, 0⟩] scope pos) (tDcT wi g tt tk tv (own.map (·.2))) := ⟨fun pins s σ H Q I h => by
  rw [arm_eval_DictComp]
  exact dcT_core hu hc hN I hi ok hg ht hk he hs h fun D C s' m H' I' q ns f => ⟨m, ns, fun _ sb => ⟨.ref D, H', I'.turned (t' := s'.toks) (fun b o hb e => (sb.2 b hb).trans e) f.1 f.2.1 f.2.2.2.1 f.2.2.2.2.1 f.2.2.2.2.2, rfl, q⟩⟩⟩
end
end G
end
section
set_option Elab.async false
set_option linter.all false
set_option maxRecDepth 100000
set_option maxHeartbeats 2000000
/-! G30: over data: dict comprehensions with tuple keys, zip, a < b < c, dict(d) -/
namespace G
open PySem PySem.Spec PyProof.Rows L2 RZ
section
variable {X : Cx}
theorem ps_setDcT {i : Nat} {y : Str} {py : Pos} {kx vx tg iter : Expr} {ifs : List Expr} {scope : Scope} {own : List (Str × Nat)} {pos spos : Pos} {wi : TI} {g : TG} {tt : TT} {tk tv : TE} (hu : X.A.units + 1 < cLine) (hc : X.calm = true) (hN : X.N.Nodup) (hy : X.N[i]? = some y) (hyl : X.env.scope.names.lookup y = some .local)
    (hsw : swapsWith (.DictComp kx vx [⟨tg, iter, ifs, 0⟩] scope pos) (some (.Name y py)) spos.line X.env = pure true) (hi : PI X tg iter wi) (ok : BlkOk X.N X.env.scope scope own)
    (hg : ∀ (s : Shared) (H : Hp) (C : Addr) (cl : List (Str × Addr)) (fp : List Addr), PG (X.blk s H scope (compEnvC scope cl C X.env) fp) tg g) (ht : ∀ (s : Shared) (H : Hp) (C : Addr) (cl : List (Str × Addr)) (fp : List Addr), PTs (X.blk s H scope (compEnvC scope cl C X.env) fp) ifs tt)
    (hk : ∀ (s : Shared) (H : Hp) (C : Addr) (cl : List (Str × Addr)) (fp : List Addr), PE (X.blk s H scope (compEnvC scope cl C X.env) fp) kx tk)
    (he : ∀ (s : Shared) (H : Hp) (C : Addr) (cl : List (Str × Addr)) (fp : List Addr), PE (X.blk s H scope (compEnvC scope cl C X.env) fp) vx tv) (hs : ∀ x, foldedSetIterable iter X.env x = pure x := by intro _; rfl) :
    PS X (.Assign [.Name y py] (.DictComp kx vx [⟨tg, iter, ifs, 0⟩] scope pos) spos) (tAsg (tDcT wi g tt tk tv (own.map (·.2))) (gName i)) := by
  refine ⟨fun pins s σ H D I h => ?_⟩
  rw [exec_Assign_Name_used _ _ _ _ hsw]
  refine wpAny_bind (wpAny_standAt (wpAny_bind ?_))
  show wpAny _ X.A (do let _ ← comprehension (.DictComp kx vx [⟨tg, iter, ifs, 0⟩] scope pos) scope X.env (firstIterPos [⟨tg, iter, ifs, 0⟩] pos) newDict false (eval iter X.env) (some (assign (.Name y py) X.env))) _ _ s
  have h : tDcT wi g tt tk tv (own.map (·.2)) σ H (fun x H1 => gName i x σ H1 D.nx) := h
  refine wpAny_bind (thn (dcT_core (Qf := fun _ s' => SP X pins D .next s') hu hc hN I hi ok hg ht hk he hs h fun L C s' m H' I' q hn f => ?_) fun _ s' hq => wpAny_pure (wpAny_pure hq))
  show wpAny _ _ (assign (.Name y py) X.env (.ref L)) _ _ _
  refine wpAny_assign_Name (store_ok2 (v := V.ref L) I' hN hy (.inl hyl) rfl (fun s2 I2 ⟨a, sb, ha⟩ => ?_) (.inr hyl))
  obtain ⟨f0, f1, f2, f3, f4, f5⟩ := f
  have haC : C ≠ a := by
    rcases ha with z | z
    · rw [z]; exact f1
    · exact fun e => f4 y a z e.symm
  refine ⟨m, hn.sameBut sb haC, fun h3 sb3 => ?_⟩
  exact ⟨_, H', I2.turned (t' := s2.toks) (fun b o hb e => (sb3.2 b hb).trans e) f0 f1 f3 f4 f5, q⟩
theorem sw_trueD {kx vx : Expr} {gs : List Comprehension} {scope : Scope} {pos py : Pos} {y : Str} {l : Nat} {env : Env} (hk : env.scope.kind = .function) (hy : env.scope.names.lookup y = some .local) (hl : (py.line == pos.line) = true)
    (ha : (scope.names.any fun (n, k) => n == y && (k == .local || k == .cell)) = false) : swapsWith (.DictComp kx vx gs scope pos) (some (.Name y py)) l env = pure true := by
  have ky : env.kindOf y = some .local := hy
  have hb : env.blockKind = .function := by unfold Env.blockKind; rw [hk]; rfl
  unfold swapsWith
  simp only [hb, ky, ha, Expr.pos, hl]
  rfl
end
/-- the pairs behind one more -/
def putP (ks ds : List D) (y d : D) : Option (List D × List D) := match tkeysD ks, tkeyD y with
  | some qs, some k => some (if hasK k qs = true then (ks, replT k d qs ds) else (ks ++ [y], ds ++ [d]))
  | _, _ => none
open Classical in
noncomputable def dcomp (g : MG) (t : MT) (k v : ME) (P : Sto → Prop) (en : En) : List D → List D × List D → Sto → Res (List D × List D)
  | [], acc, S => if P S then .ok acc S else .bad
  | d :: ds, acc, S => if P S then (match g d en with
    | none => .bad
    | some en1 => (t en1 S).noex.bind fun b S1 => match b with
      | false => dcomp g t k v P en ds acc S1
      | true => (k en1 S1).noex.bind fun y S2 => (v en1 S2).noex.bind fun x S3 => if acc.1.length < sizeLine then (match putP acc.1 acc.2 y x with
        | some acc' => dcomp g t k v P en ds acc' S3
        | none => .bad) else .bad) else .bad
/-- {k: v for ..}, a dict of the store -/
noncomputable def mDcN (i : MI) (g : MG) (t : MT) (k v : ME) (vs : List Nat) : ME := fun en S => (i en S).bind fun its S1 => (dcomp g t k v its.P (wipeE en vs) its.ds ([], []) S1).bind fun acc S2 => .ok (.ref S2.length) (S2 ++ [.dic acc.1 acc.2])
/-- what the dict being made is -/
def DcAt (B : Bas) (m : Mp) (acc : List D × List D) (o : Option HO) : Prop := ∃ qs us, tkeysD acc.1 = some qs ∧ acc.1.length = us.length ∧ o = some (.dT (qs.zip us)) ∧ Reps B m acc.2 us
theorem dcomp_run {B : Bas} {W : WX} {m1 : Mp} {H1 : Hp} {S1 : Sto} {its : Its} {J : It} {en : En} {σ : L2.St} {vs own : List Nat} {g : TG} {t : MG} {tt : MT} {tk tv : ME} {Q : VK} {K2 : List D × List D → Sto → Res D}
    (sub1 : Sub m1 H1) (c1 : Cor B m1 S1) (er : EnR B m1 en σ) (ir : ItR B m1 its J) (ht : TgR B own g t) (hown : ∀ j ∈ own, j ∈ vs) (D : Addr) (hD : H1 D = none)
    (hend : ∀ (m' : Mp) (H' : Hp) (S' : Sto) (acc : List G.D × List G.D), Le m1 H1 m' (del H' D) → Cor B m' S' → DcAt B m' acc (H' D) → Post B (Rep B) (at' W σ) m' (del H' D) Q (K2 acc S') → Q (.ref D) H')
    (p1 : Post B (Rep B) (at' W σ) m1 H1 Q ((dcomp t tt tk tv its.P (wipeE en vs) its.ds ([], []) S1).bind K2)) :
    ∃ Wt : Nat → Nat → Hp → Prop, (∃ k, Wt 0 k (upd H1 D (.dT []))) ∧ ∀ i k H, Wt i k H →
      (J.stop i H ∧ Q (.ref D) H) ∨ (J.go i H ∧ ∃ Nx : Hp → Prop, (∀ H', Nx H' → ∃ m', m' < k ∧ Wt (i + 1) m' H') ∧ ∀ x H', J.yld i H x H' → g x (wipe σ vs) H' fun σ2 H2 => wipe σ2 vs = wipe σ vs ∧ tT B W0 tt σ2 H2 fun b H3 =>
        if b = true then tE B W0 tk σ2 H3 fun y H4 => tE B W0 tv σ2 H4 fun z H5 => ∃ kvs k bk, y = .ref bk ∧ H5 bk = some (.tup (k.map kV)) ∧ H5 D = some (.dT kvs) ∧ kvs.length < sizeLine ∧ Nx (upd H5 D (.dT (putK kvs k z))) else Nx H3) := by
  refine ⟨fun i k H' => k = its.ds.length - i ∧ ∃ m' S' acc, Le m1 H1 m' (del H' D) ∧ Cor B m' S' ∧ DcAt B m' acc (H' D) ∧ Post B (Rep B) (at' W σ) m' (del H' D) Q ((dcomp t tt tk tv its.P (wipeE en vs) (its.ds.drop i) acc S').bind K2),
    ⟨_, rfl, m1, S1, ([], []), by rw [del_upd, del_new hD]; exact Le.refl sub1, c1, ⟨[], [], rfl, rfl, upd_same, Reps.nil⟩, by rw [del_upd, del_new hD]; exact p1⟩, ?_⟩
  rintro i k H' ⟨rfl, m', S', acc, l', c', hDc, p'⟩
  obtain ⟨qs, us, hq, hlen, hDa, ra⟩ := id hDc
  have zD : m'.Z D = none := l'.sub.none del_at
  have sub' : Sub m' H' := fun a o h => by
    have e : a ≠ D := fun z => by rw [z, zD] at h; cases h
    have := l'.sub a o h
    rwa [del_ne e] at this
  by_cases hP : its.P S'
  · obtain ⟨hg, hs⟩ := ir m' H' S' l'.toKp sub' c' hP
    cases hd : its.ds[i]? with
    | none =>
      have hi : its.ds.length ≤ i := List.getElem?_eq_none_iff.mp hd
      rw [List.drop_eq_nil_of_le hi, dcomp, if_pos hP] at p'
      exact .inl ⟨hs i hi, hend m' H' S' acc l' c' hDc p'⟩
    | some d =>
      have hi : i < its.ds.length := (List.getElem?_eq_some_iff.mp hd).1
      obtain ⟨go, yl⟩ := hg i d hd
      have e1 : its.ds.drop i = d :: its.ds.drop (i + 1) := by
        rw [List.drop_eq_getElem_cons hi]
        congr 1
        exact (List.getElem?_eq_some_iff.mp hd).2
      rw [e1, dcomp, if_pos hP] at p'
      refine .inr ⟨go, fun H2 => its.ds.length - (i + 1) = its.ds.length - (i + 1) ∧ ∃ m2 S2 acc2, Le m1 H1 m2 (del H2 D) ∧ Cor B m2 S2 ∧ DcAt B m2 acc2 (H2 D) ∧ Post B (Rep B) (at' W σ) m2 (del H2 D) Q ((dcomp t tt tk tv its.P (wipeE en vs) (its.ds.drop (i + 1)) acc2 S2).bind K2),
        fun H2 n2 => ⟨its.ds.length - (i + 1), by omega, n2⟩, fun x H'' y => ?_⟩
      obtain ⟨m2, l2, c2, r2⟩ := yl x H'' y
      have l2d := l2.del zD ⟨_, hDa⟩
      obtain ⟨hD2, zD2⟩ := l2.fr D _ zD hDa
      cases e2 : t d (wipeE en vs) with
      | none => rw [e2] at p'; exact p'.elim
      | some en1 =>
        rw [e2] at p'
        refine ht m2 H'' (wipeE en vs) en1 (wipe σ vs) d x l2.sub r2 (((er.wipe vs).mono l').mono l2d) e2 _ fun σ2 er2 on => ⟨wipe_only on hown, ?_⟩
        simp only [] at p'
        have key : ∀ (m3 : Mp) (H3 : Hp), Le m2 H'' m3 H3 → H3 D = some (.dT (qs.zip us)) ∧ m3.Z D = none ∧ Le m1 H1 m3 (del H3 D) := fun m3 H3 l3 => by
          obtain ⟨a1, a2⟩ := l3.fr D _ zD2 hD2
          exact ⟨a1, a2, (l'.trans l2d).trans (l3.del zD2 ⟨_, hD2⟩)⟩
        have p2 := p'.shift l2d
        cases hk : tt en1 S' with
        | bad => rw [hk] at p2; exact p2.elim
        | ex c ns vs S3 => rw [hk] at p2; exact p2.elim
        | ok kk S3 =>
          rw [hk] at p2
          refine ⟨m2, S', en1, l2.sub, c2, er2, ?_⟩
          rw [hk]
          intro m3 H3 b l3 c3 rb
          cases rb
          obtain ⟨hD3, zD3, l13⟩ := key m3 H3 l3
          have p3 := p2.shift (l3.del zD2 ⟨_, hD2⟩)
          cases kk with
          | false => exact iteF ⟨rfl, m3, S3, acc, l13, c3, ⟨qs, us, hq, hlen, hD3, (ra.mono l2d).mono l3⟩, p3⟩
          | true =>
            refine iteT ?_
            cases hy : tk en1 S3 with
            | bad => simp only [Res.noex, Res.bind_ok, hy] at p3; exact p3.elim
            | ex c ns vs S4 => simp only [Res.noex, Res.bind_ok, hy] at p3; exact p3.elim
            | ok yy S4 =>
              simp only [Res.noex, Res.bind_ok, hy] at p3
              refine ⟨m3, S3, en1, l3.sub, c3, er2.mono l3, ?_⟩
              rw [hy]
              intro m4 H4 yv l4 c4 ry
              obtain ⟨hD4, zD4⟩ := l4.fr D _ zD3 hD3
              have l34 := l4.del zD3 ⟨_, hD3⟩
              cases hx : tv en1 S4 with
              | bad => rw [hx] at p3; exact p3.elim
              | ex c ns vs S5 => rw [hx] at p3; exact p3.elim
              | ok xx S5 =>
                rw [hx] at p3
                refine ⟨m4, S4, en1, l4.sub, c4, (er2.mono l3).mono l4, ?_⟩
                rw [hx]
                intro m5 H5 xv l5 c5 rx
                obtain ⟨hD5, zD5⟩ := l5.fr D _ zD4 hD4
                have l45 := l5.del zD4 ⟨_, hD4⟩
                simp only [Res.bind_ok] at p3
                split at p3
                · rename_i hsz
                  unfold putP at p3
                  rw [hq] at p3
                  cases hyk : tkeyD yy with
                  | none => simp only [hyk] at p3; exact p3.elim
                  | some kk =>
                    simp only [hyk] at p3
                    obtain ⟨bk, rfl, hbk⟩ := tkey_at l5.sub (ry.mono l5) hyk
                    have ra5 := (((ra.mono l2d).mono l3).mono l4).mono l5
                    obtain ⟨ks', ds', qs', us', e1, e2, e3, e4, e5⟩ := putT_of hq hlen hyk ra5 rx
                    refine ⟨qs.zip us, kk, bk, rfl, hbk, hD5, ?_, rfl, m5, S5, (ks', ds'), by rw [del_upd]; exact (l13.trans l34).trans l45, c5, ⟨qs', us', e3, e4, by rw [upd_same, e2], e5⟩, ?_⟩
                    · rw [List.length_zip, tkeysD_length hq, ← hlen, Nat.min_self]
                      exact hsz
                    · rw [del_upd]
                      have e6 : (if hasK kk qs = true then (acc.1, replT kk xx qs acc.2) else (acc.1 ++ [yy], acc.2 ++ [xx])) = (ks', ds') := by
                        unfold putT at e1
                        split at e1
                        · rename_i h; rw [if_pos h]; cases e1; rfl
                        · rename_i h; rw [if_neg h]; cases e1; rfl
                      rw [e6] at p3
                      exact (p3.shift l34).shift l45
                · exact p3.elim
  · exfalso
    cases hl : its.ds.drop i with
    | nil => rw [hl, dcomp, if_neg hP] at p'; exact p'
    | cons d ds => rw [hl, dcomp, if_neg hP] at p'; exact p'
theorem tDcT_of {B : Bas} {W : WX} {mi : MI} {g : TG} {t : MG} {tt : MT} {tk tv : ME} {vs own : List Nat} (ht : TgR B own g t) (hown : ∀ j ∈ own, j ∈ vs) (σ : L2.St) (H : Hp) (Q : VK) (q : tE B W (mDcN mi t tt tk tv vs) σ H Q) : tDcT (tI B W mi) g (tT B W0 tt) (tE B W0 tk) (tE B W0 tv) vs σ H Q := by
  obtain ⟨m, S, en, s, c, er, p⟩ := q
  refine ⟨m, S, en, s, c, er, (Post.bind p).imp ?_⟩
  rintro J H1 ⟨its, S1, m1, _, l1, c1, ir, p1⟩
  intro D hD
  refine dcomp_run l1.sub c1 (er.mono l1) ir ht hown D hD (fun m' H' S' acc l' c' hDa pe => ?_) p1
  obtain ⟨qs, us, hq, hlen, hDo, ra⟩ := hDa
  have := pe (m'.add D (.dT (qs.zip us))) (upd (del H' D) D (.dT (qs.zip us))) (.ref D) (Le.add c' l'.sub del_at) (Cor.add c' l'.sub del_at ⟨us, ⟨hlen, .inr ⟨qs, hq, upd_same⟩⟩, ra.mono (Le.add c' l'.sub del_at)⟩) (rp_ref c')
  rwa [upd_del hDo] at this
section
variable {X : Cx} {B : Bas} {W : WX} {kx vx tg iter : Expr} {ifs : List Expr} {scope : Scope} {ow : List (Str × Nat)} {pos : Pos} {mi : MI} {g : TG} {t : MG} {tt : MT} {tk tv : ME} {own : List Nat}
theorem de_dcN (hu : X.A.units + 1 < cLine) (hc : X.calm = true) (hN : X.N.Nodup) (ht : TgR B own g t) (hown : ∀ j ∈ own, j ∈ ow.map (·.2)) (hi : PI X tg iter (tI B W mi)) (ok : BlkOk X.N X.env.scope scope ow)
    (hg : ∀ (s : Shared) (H : Hp) (C : Addr) (cl : List (Str × Addr)) (fp : List Addr), PG (X.blk s H scope (compEnvC scope cl C X.env) fp) tg g) (htt : ∀ (s : Shared) (H : Hp) (C : Addr) (cl : List (Str × Addr)) (fp : List Addr), PTs (X.blk s H scope (compEnvC scope cl C X.env) fp) ifs (tT B W0 tt))
    (hk : ∀ (s : Shared) (H : Hp) (C : Addr) (cl : List (Str × Addr)) (fp : List Addr), PE (X.blk s H scope (compEnvC scope cl C X.env) fp) kx (tE B W0 tk))
    (he : ∀ (s : Shared) (H : Hp) (C : Addr) (cl : List (Str × Addr)) (fp : List Addr), PE (X.blk s H scope (compEnvC scope cl C X.env) fp) vx (tE B W0 tv)) (hs : ∀ x, foldedSetIterable iter X.env x = pure x := by intro _; rfl) :
    PE X (.DictComp kx vx [⟨tg, iter, ifs, 0⟩] scope pos) (tE B W (mDcN mi t tt tk tv (ow.map (·.2)))) := PE.cut (pe_dcT hu hc hN hi ok hg htt hk he hs) (tDcT_of ht hown)
theorem ds_setDcN {i : Nat} {y : Str} {py spos : Pos} (hu : X.A.units + 1 < cLine) (hc : X.calm = true) (hN : X.N.Nodup) (hy : X.N[i]? = some y) (hyl : X.env.scope.names.lookup y = some .local)
    (hsw : swapsWith (.DictComp kx vx [⟨tg, iter, ifs, 0⟩] scope pos) (some (.Name y py)) spos.line X.env = pure true) (ht : TgR B own g t) (hown : ∀ j ∈ own, j ∈ ow.map (·.2)) (hi : PI X tg iter (tI B W mi)) (ok : BlkOk X.N X.env.scope scope ow)
    (hg : ∀ (s : Shared) (H : Hp) (C : Addr) (cl : List (Str × Addr)) (fp : List Addr), PG (X.blk s H scope (compEnvC scope cl C X.env) fp) tg g) (htt : ∀ (s : Shared) (H : Hp) (C : Addr) (cl : List (Str × Addr)) (fp : List Addr), PTs (X.blk s H scope (compEnvC scope cl C X.env) fp) ifs (tT B W0 tt))
    (hk : ∀ (s : Shared) (H : Hp) (C : Addr) (cl : List (Str × Addr)) (fp : List Addr), PE (X.blk s H scope (compEnvC scope cl C X.env) fp) kx (tE B W0 tk))
    (he : ∀ (s : Shared) (H : Hp) (C : Addr) (cl : List (Str × Addr)) (fp : List Addr), PE (X.blk s H scope (compEnvC scope cl C X.env) fp) vx (tE B W0 tv)) (hs : ∀ x, foldedSetIterable iter X.env x = pure x := by intro _; rfl) :
    PS X (.Assign [.Name y py] (.DictComp kx vx [⟨tg, iter, ifs, 0⟩] scope pos) spos) (tS B W (sAsg (mDcN mi t tt tk tv (ow.map (·.2))) (gN i))) :=
  PS.cut (ps_setDcT hu hc hN hy hyl hsw hi ok hg htt hk he hs) fun D σ H q => tDcT_of (W := W) ht hown σ H _ (tAsg_of (W := W) tg_name D σ H q)
end
/-! ### a < b < c -/
def mChain (g g' : Sto → D → D → Option D) (a b c : ME) : ME := fun en S => (a en S).bind fun x S1 => (b en S1).bind fun y S2 => match g S2 x y with
  | some (.bl true) => (c en S2).bind fun z S3 => (match g' S3 y z with
    | some d => .ok d S3
    | none => .bad)
  | some (.bl false) => .ok (.bl false) S2
  | _ => .bad
theorem tChain_of {B : Bas} {W : WX} {r r' : R2} {g g' : Sto → D → D → Option D} {a b c : ME} (h : Op2 B r g) (h' : Op2 B r' g') (σ : L2.St) (H : Hp) (Q : VK) (t : tE B W (mChain g g' a b c) σ H Q) : tChain r r' (tE B W a) (tE B W b) (tE B W c) σ H Q := by
  obtain ⟨m, S, en, s, cc, er, p⟩ := t
  refine ⟨m, S, en, s, cc, er, (Post.bind p).imp ?_⟩
  rintro x H1 ⟨d1, S1, m1, _, l1, c1, r1, p1⟩
  refine ⟨m1, S1, en, l1.sub, c1, er.mono l1, (Post.bind p1).imp ?_⟩
  rintro y H2 ⟨d2, S2, m2, _, l2, c2, r2, p2⟩
  cases e : g S2 d1 d2 with
  | none => rw [e] at p2; exact p2.elim
  | some d =>
    cases d with
    | bl k =>
      refine h m2 S2 H2 x y d1 d2 _ l2.sub c2 (r1.mono l2) r2 e _ fun m3 H3 v l3 c3 r3 => ⟨k, r3.bl_eq, ?_⟩
      rw [e] at p2
      cases k with
      | false => exact iteF (p2 m3 H3 _ l3 c3 (rp_bl _))
      | true =>
        refine iteT ⟨m3, S2, en, l3.sub, c3, ((er.mono l1).mono l2).mono l3, (Post.bind (p2.shift l3)).imp ?_⟩
        rintro z H4 ⟨d3, S4, m4, _, l4, c4, r4, p4⟩
        cases e' : g' S4 d2 d3 with
        | none => rw [e'] at p4; exact p4.elim
        | some d => rw [e'] at p4; exact h' m4 S4 H4 y z d2 d3 d l4.sub c4 ((r2.mono l3).mono l4) r4 e' Q p4
    | _ => rw [e] at p2; exact p2.elim
section
variable {X : Cx} {B : Bas} {W : WX} {a b c : Expr} {pos : Pos} {ma mb mc : ME} {r r' : R2} {g g' : Sto → D → D → Option D}
theorem de_chain {op op' : CmpOp} (ho : OpR X (compareOp op) r) (h : Op2 B r g) (ho' : OpR X (compareOp op') r') (h' : Op2 B r' g') (ha : PE X a (tE B W ma)) (hb : PE X b (tE B W mb)) (hc : PE X c (tE B W mc))
    (hm : lastMarks [op, op'] [b, c] = false := by with_unfolding_all rfl) : PE X (.Compare a [op, op'] [b, c] pos) (tE B W (mChain g g' ma mb mc)) := PE.cut (pe_chain ho ho' ha hb hc hm) (tChain_of h h')
theorem dt_chain {op op' : CmpOp} (ho : OpR X (compareOp op) r) (h : Op2 B r g) (ho' : OpR X (compareOp op') r') (h' : Op2 B r' g') (ha : PE X a (tE B W ma)) (hb : PE X b (tE B W mb)) (hc : PE X c (tE B W mc))
    (hm : lastMarks [op, op'] [b, c] = false := by with_unfolding_all rfl) : PT X (.Compare a [op, op'] [b, c] pos) (tT B W (mTest (mChain g g' ma mb mc))) :=
  PT.cut (pt_chain ho ho' ha hb hc hm) fun σ H Q t => tChain_of (W := W) h h' σ H _ (tTest_of σ H Q t)
end
end G
end
section
set_option Elab.async false
set_option linter.all false
set_option maxRecDepth 100000
set_option maxHeartbeats 2000000
/-! G31: a[b] of lists, tuples, texts and dicts; zip; sorted of ints; a, b, c = .. -/
namespace G
open PySem PySem.Spec PyProof.Rows L2 RZ
def rIxG : R2 := fun x y H Q => ∃ a v, x = .ref a ∧ DGet H a y (some v) ∧ Q v H
theorem ix_dict {X : Cx} (hu : X.A.units + 1 < cLine) : IxR X rIxG := by
  intro value slice pins s σ H x y v u Q I rx ry h hs
  obtain ⟨a, z, rfl, g, q⟩ := h
  obtain rfl : v = Value.ref a := rx
  exact tail_any (dict_typeIs I g) PySem.F.slot_dict_getitem.lookup (d_getItem hu I g ry fun w' s3 I3 rw' => ⟨z, H, I3, rw', q⟩) hs
theorem ix_all {X : Cx} (hu : X.A.units + 1 < cLine) : IxR X (fun x y H Q => rIx X.K x y H Q ∨ rIxG x y H Q) := ix_seq.or (ix_dict hu)
def dIdxG (S : Sto) (x y : D) : Option D := match dGetO S x y with
  | some o => o
  | none => match kGetO S x y with
    | some o => o
    | none => none
theorem op2_idxG {B : Bas} : Op2 B rIxG dIdxG := fun m S H x y d1 d2 d s c r1 r2 e Q q => by
  unfold dIdxG at e
  cases h : dGetO S d1 d2 with
  | some o =>
    rw [h] at e
    simp only at e
    subst e
    obtain ⟨a, r, rfl, _, g, _, h2⟩ := dGet_of s c r1 r2 h
    obtain ⟨z, rfl, rz⟩ := h2 d rfl
    exact ⟨a, z, rfl, g, q_val s c q rz⟩
  | none =>
    rw [h] at e
    simp only at e
    cases h' : kGetO S d1 d2 with
    | none => rw [h'] at e; cases e
    | some o =>
      rw [h'] at e
      simp only at e
      subst e
      obtain ⟨a, r, rfl, _, g, _, h2⟩ := kGet_of s c r1 r2 h'
      obtain ⟨z, rfl, rz⟩ := h2 d rfl
      exact ⟨a, z, rfl, g, q_val s c q rz⟩
def dIdxA (S : Sto) (x y : D) : Option D := match dIdx S x y with
  | some d => some d
  | none => dIdxG S x y
theorem op2_idxA {B : Bas} : Op2 B (fun x y H Q => rIx B.K x y H Q ∨ rIxG x y H Q) dIdxA := fun m S H x y d1 d2 d s c r1 r2 e Q q => by
  unfold dIdxA at e
  cases h : dIdx S d1 d2 with
  | some z => rw [h] at e; cases e; exact .inl (op2_idx m S H x y d1 d2 d s c r1 r2 h Q q)
  | none => rw [h] at e; exact .inr (op2_idxG m S H x y d1 d2 d s c r1 r2 e Q q)
/-! ### == and != of data and of dicts -/
def dEqA (S : Sto) (x y : D) : Option D := match dEq S x y with
  | some d => some d
  | none => dEqT S x y
def dNeA (S : Sto) (x y : D) : Option D := match dNe S x y with
  | some d => some d
  | none => dNeT S x y
theorem op2_eqA {B : Bas} : Op2 B (fun x y H Q => rEqU B.K x y H Q ∨ rEqT false x y H Q) dEqA := fun m S H x y d1 d2 d s c r1 r2 e Q q => by
  unfold dEqA at e
  cases h : dEq S d1 d2 with
  | some z => rw [h] at e; cases e; exact .inl (op2_eq m S H x y d1 d2 d s c r1 r2 h Q q)
  | none => rw [h] at e; exact .inr (op2_eqT m S H x y d1 d2 d s c r1 r2 e Q q)
/-! ### zip -/
def iZip (r : MA) : MI := fun en S => (r en S).bind fun ds S1 => match ds with
  | [x, y] => match seqL S1 x, seqL S1 y with
    | some xs, some ys => .ok ⟨(xs.zip ys).map fun p => .tup [p.1, p.2], fun S => seqL S x = some xs ∧ seqL S y = some ys⟩ S1
    | _, _ => match seqT x, seqT y with
      | some xs, some ys => .ok ⟨(xs.zip ys).map fun p => .tup [p.1, p.2], fun _ => True⟩ S1
      | _, _ => .bad
  | _ => .bad
theorem zip_item {B : Bas} {m' : Mp} {H' : Hp} {S : Sto} {i : Nat} {d : D} {xs ys : List D} {vs us : List V} {v u : V} {T : Addr} (s : Sub m' H') (c : Cor B m' S) (rs : Reps B m' xs vs) (rt : Reps B m' ys us)
    (hd : ((xs.zip ys).map fun p => D.tup [p.1, p.2])[i]? = some d) (hT : H' T = none) (hv : vs[i]? = some v) (hu : us[i]? = some u) :
    ∃ m'', Le m' H' m'' (upd H' T (.tup [v, u])) ∧ Cor B m'' S ∧ Rep B m'' d (.ref T) := by
  rw [List.getElem?_map] at hd
  cases e : (xs.zip ys)[i]? with
  | none => rw [e] at hd; cases hd
  | some p =>
    rw [e] at hd
    cases hd
    obtain ⟨x, y⟩ := p
    rw [List.getElem?_zip_eq_some] at e
    obtain ⟨w, hw, rw'⟩ := rs.get e.1
    obtain ⟨w2, hw2, rw2⟩ := rt.get e.2
    rw [hv] at hw
    rw [hu] at hw2
    cases hw
    cases hw2
    exact ⟨_, Le.new c s hT, Cor.new c s hT, rp_tup c s hT (Reps.cons rw' (Reps.cons rw2 Reps.nil))⟩
theorem zip_at {i : Nat} {d : D} {xs ys : List D} (hd : ((xs.zip ys).map fun p => D.tup [p.1, p.2])[i]? = some d) : i < xs.length ∧ i < ys.length := by
  have := (List.getElem?_eq_some_iff.mp hd).1
  simp only [List.length_map, List.length_zip] at this
  omega
theorem zip_end {i : Nat} {xs ys : List D} (hi : ((xs.zip ys).map fun p => D.tup [p.1, p.2]).length ≤ i) : xs.length ≤ i ∨ ys.length ≤ i := by
  simp only [List.length_map, List.length_zip] at hi
  omega
theorem itr_zipL {B : Bas} {m : Mp} {a b : Addr} {x y : D} {xs ys : List D} (r : Rep B m x (.ref a)) (r2 : Rep B m y (.ref b)) : ItR B m ⟨(xs.zip ys).map fun p => .tup [p.1, p.2], fun S => seqL S x = some xs ∧ seqL S y = some ys⟩ (Itz B.K a b) := fun m' H' S k s c p => by
  obtain ⟨a', vs, e, q, rs⟩ := repL s c (r.monoK k) p.1
  cases e
  obtain ⟨a', us, e, q2, rt⟩ := repL s c (r2.monoK k) p.2
  cases e
  have l1 := rs.length
  have l2 := rt.length
  refine ⟨fun i z hz => ?_, fun i hi => ⟨vs, us, q, q2, by have := zip_end hi; omega⟩⟩
  obtain ⟨h1, h2⟩ := zip_at hz
  obtain ⟨v, hv, _⟩ := rs.get (List.getElem?_eq_getElem h1)
  obtain ⟨u, hu, _⟩ := rt.get (List.getElem?_eq_getElem h2)
  refine ⟨⟨vs, us, v, u, q, q2, hv, hu⟩, ?_⟩
  rintro y H'' ⟨T, z1, z2, rfl, hT, rfl, hz1, hz2⟩
  exact zip_item s c rs rt hz hT (hz1 vs q) (hz2 us q2)
theorem itr_zipT {B : Bas} {m : Mp} {a b : Addr} {x y : D} {xs ys : List D} (r : Rep B m x (.ref a)) (r2 : Rep B m y (.ref b)) (p1 : seqT x = some xs) (p2 : seqT y = some ys) : ItR B m ⟨(xs.zip ys).map fun p => .tup [p.1, p.2], fun _ => True⟩ (ItzT B.K a b) := fun m' H' S k s c _ => by
  obtain ⟨a', vs, e, q, rs⟩ := repT s (r.monoK k) p1
  cases e
  obtain ⟨a', us, e, q2, rt⟩ := repT s (r2.monoK k) p2
  cases e
  have l1 := rs.length
  have l2 := rt.length
  refine ⟨fun i z hz => ?_, fun i hi => ⟨vs, us, q, q2, by have := zip_end hi; omega⟩⟩
  obtain ⟨h1, h2⟩ := zip_at hz
  obtain ⟨v, hv, _⟩ := rs.get (List.getElem?_eq_getElem h1)
  obtain ⟨u, hu, _⟩ := rt.get (List.getElem?_eq_getElem h2)
  refine ⟨⟨vs, us, v, u, q, q2, hv, hu⟩, ?_⟩
  rintro y H'' ⟨T, z1, z2, rfl, hT, rfl, hz1, hz2⟩
  exact zip_item s c rs rt hz hT (hz1 vs q) (hz2 us q2)
theorem di_zip {X : Cx} {B : Bas} {W : WX} {e e2 : Expr} {mr : MA} {p pos tpos : Pos} {elts : List Expr} {kk : Nat} (hm : X.mg "zip" = none) (ha : PA X [e, e2] (tA B W mr)) (hK : B.K = X.K := by rfl) (hg : Gl X "zip" := by rfl)
    (hs : starEach [e, e2] X.env = (false, eval e X.env) :: starEach [e2] X.env := by rfl) (hpl : (backTo pos (starEach [e2] X.env)).any (·.1) = false := by rfl) :
    PI X (.Tuple elts kk tpos) (.Call (.Name "zip" p) [e, e2] [] pos) (tI B W (iZip mr)) :=
  PI.cut (pi_zipA hg hm ha hs hpl) fun σ H R ⟨m, S, en, s, c, er, q⟩ => by
    refine ⟨m, S, en, s, c, er, (Post.bind q).imp ?_⟩
    rintro vs H1 ⟨ds, S1, m1, _, l1, c1, r1, p1⟩
    match ds, p1, r1 with
    | [], p1, _ => exact p1.elim
    | [_], p1, _ => exact p1.elim
    | _ :: _ :: _ :: _, p1, _ => exact p1.elim
    | [x, y], p1, r1 =>
      simp only [Reps] at r1
      obtain ⟨v, r, rfl, rv, w, r', rfl, rw', rfl⟩ := r1
      have tupCase : (∀ xs ys, seqT x = some xs → seqT y = some ys → Post B (ItR B) (at' W σ) m1 H1 R (.ok ⟨(xs.zip ys).map fun p => .tup [p.1, p.2], fun _ => True⟩ S1) → ∃ a b xs ys, [v, w] = [V.ref a, V.ref b] ∧ ((SqL X.K H1 a xs ∧ SqL X.K H1 b ys ∧ R (Itz X.K a b) H1) ∨ (SqT X.K H1 a xs ∧ SqT X.K H1 b ys ∧ R (ItzT X.K a b) H1))) := by
        intro xs ys h1 h2 p2
        obtain ⟨a, us, rfl, q, rs⟩ := repT l1.sub rv h1
        obtain ⟨b, ws, rfl, q2, rs2⟩ := repT l1.sub rw' h2
        exact ⟨a, b, us, ws, rfl, .inr ⟨hK ▸ q, hK ▸ q2, p2 m1 H1 _ (Le.refl l1.sub) c1 (hK ▸ itr_zipT rv rw' h1 h2)⟩⟩
      cases h1 : seqL S1 x with
      | some xs =>
        cases h2 : seqL S1 y with
        | some ys =>
          simp only [h1, h2] at p1
          obtain ⟨a, us, rfl, q, rs⟩ := repL l1.sub c1 rv h1
          obtain ⟨b, ws, rfl, q2, rs2⟩ := repL l1.sub c1 rw' h2
          exact ⟨a, b, us, ws, rfl, .inl ⟨hK ▸ q, hK ▸ q2, p1 m1 H1 _ (Le.refl l1.sub) c1 (hK ▸ itr_zipL rv rw')⟩⟩
        | none =>
          simp only [h1, h2] at p1
          cases h3 : seqT x with
          | none => simp only [h3] at p1; exact p1.elim
          | some xs =>
            cases h4 : seqT y with
            | none => simp only [h3, h4] at p1; exact p1.elim
            | some ys => simp only [h3, h4] at p1; exact tupCase xs ys h3 h4 p1
      | none =>
        simp only [h1] at p1
        cases h3 : seqT x with
        | none => simp only [h3] at p1; exact p1.elim
        | some xs =>
          cases h4 : seqT y with
          | none => simp only [h3, h4] at p1; exact p1.elim
          | some ys => simp only [h3, h4] at p1; exact tupCase xs ys h3 h4 p1
/-! ### sorted of a list of ints -/
def intsL : List D → Option (List Int)
  | [] => some []
  | .int i :: r => (intsL r).map (i :: ·)
  | _ => none
def insI (i : Int) : List Int → List Int
  | [] => [i]
  | j :: r => if i ≤ j then i :: j :: r else j :: insI i r
def sortI : List Int → List Int
  | [] => []
  | i :: r => insI i (sortI r)
theorem insI_perm (i : Int) : ∀ l, (insI i l).Perm (i :: l)
  | [] => .refl _
  | j :: r => by
    unfold insI
    split
    · exact .refl _
    · exact ((insI_perm i r).cons j).trans (.swap i j r)
theorem sortI_perm : ∀ l, (sortI l).Perm l
  | [] => .refl _
  | i :: r => (insI_perm i _).trans ((sortI_perm r).cons i)
theorem insI_asc {i : Int} : ∀ {l : List Int}, l.Pairwise (· ≤ ·) → (insI i l).Pairwise (· ≤ ·)
  | [], _ => by simp [insI]
  | j :: r, h => by
    unfold insI
    obtain ⟨h1, h2⟩ := List.pairwise_cons.mp h
    split
    · rename_i z
      refine List.pairwise_cons.mpr ⟨fun a ha => ?_, h⟩
      rcases List.mem_cons.mp ha with e | e
      · rw [e]; exact z
      · exact Int.le_trans z (h1 a e)
    · rename_i z
      refine List.pairwise_cons.mpr ⟨fun a ha => ?_, insI_asc h2⟩
      rcases List.mem_cons.mp ((insI_perm i r).mem_iff.mp ha) with e | e
      · rw [e]; omega
      · exact h1 a e
theorem sortI_asc : ∀ l : List Int, (sortI l).Pairwise (· ≤ ·)
  | [] => .nil
  | i :: r => insI_asc (sortI_asc r)
theorem sortI_uniq {l m : List Int} (hp : m.Perm l) (ha : m.Pairwise (· ≤ ·)) : m = sortI l :=
  List.Perm.eq_of_pairwise (fun a b _ _ h1 h2 => Int.le_antisymm h1 h2) ha (sortI_asc l) (hp.trans (sortI_perm l).symm)
def dSortI (S : Sto) : List D → Option D
  | [d] => match seqL S d with
    | some ds => (intsL ds).map fun l => .lst ((sortI l).map .int)
    | none => none
  | _ => none
theorem intsL_vals {B : Bas} {m : Mp} : ∀ {ds : List D} {vs : List V} {l : List Int}, Reps B m ds vs → intsL ds = some l → vs = l.map V.int
  | [], vs, l, r, h => by
    simp only [Reps] at r
    cases h
    exact r
  | d :: ds, vs, l, r, h => by
    simp only [Reps] at r
    obtain ⟨v, us, rfl, rv, rs⟩ := r
    cases d <;> simp only [intsL] at h <;> try (cases h)
    obtain ⟨l', e, rfl⟩ := Option.map_eq_some_iff.mp h
    rw [intsL_vals rs e, rv.int_eq]
    rfl
theorem reps_ints {B : Bas} {m : Mp} : ∀ l : List Int, Reps B m (l.map D.int) (l.map V.int)
  | [] => Reps.nil
  | i :: r => Reps.cons (rp_int m) (reps_ints r)
theorem opn_sortI {B : Bas} : OpN B (rSortedI B.K) dSortI := fun m S H xs ds d s c r e Q q => by
  unfold dSortI at e
  split at e
  · rename_i x
    split at e
    · rename_i its h
      obtain ⟨l, hl, rfl⟩ := Option.map_eq_some_iff.mp e
      obtain ⟨v, rfl, rv⟩ := r.one
      obtain ⟨a, vs, rfl, k, rs⟩ := repL s c rv h
      have hv := intsL_vals rs hl
      subst hv
      refine ⟨a, l, rfl, k, fun ns' p hp ha hn => ?_⟩
      rw [sortI_uniq hp ha]
      exact q_lst s c q (reps_ints _) p hn
    · cases e
  · cases e
/-! ### a, b, c = .. -/
def sPar3 (i j l : Nat) (r : MA) : MS := fun en S => (r en S).bind fun ds S1 => match ds with
  | [x, y, z] => .ok (.nx (((en.set i (some x)).set j (some y)).set l (some z))) S1
  | _ => .bad
theorem ds_par3 {X : Cx} {B : Bas} {W : WX} {mr : MA} {i j l : Nat} {x y z : Str} {a b c : Expr} {px py pz pt pos : Pos} {kt k2 pt2} (hc : X.calm = true) (hN : X.N.Nodup) (hi : X.N[i]? = some x) (hj : X.N[j]? = some y) (hl : X.N[l]? = some z) (hij : i ≠ j) (hil : i ≠ l) (hjl : j ≠ l)
    (hx : X.env.scope.names.lookup x = some .local) (hy : X.env.scope.names.lookup y = some .local) (hz : X.env.scope.names.lookup z = some .local) (ha : PA X [a, b, c] (tA B W mr))
    (hw : swappedStores [.Tuple [.Name x px, .Name y py, .Name z pz] kt pt] (.Tuple [a, b, c] k2 pt2) X.env = pure (some [x, y, z]))
    (hs : swapsWithSole [.Tuple [.Name x px, .Name y py, .Name z pz] kt pt] (.Tuple [a, b, c] k2 pt2) pos.line X.env = pure false := by rfl) :
    PS X (.Assign [.Tuple [.Name x px, .Name y py, .Name z pz] kt pt] (.Tuple [a, b, c] k2 pt2) pos) (tS B W (sPar3 i j l mr)) :=
  PS.cut (ps_par3 hc hN hi hj hl hij hil hjl hx hy hz ha hw hs) fun D σ H ⟨m, S, en, s, c, er, p⟩ => ⟨m, S, en, s, c, er, (Post.bind p).imp (by
    rintro vs H1 ⟨ds, S1, m1, _, l1, c1, r1, p1⟩
    match ds, p1, r1 with
    | [x, y, z], p1, r1 =>
      simp only [Reps] at r1
      obtain ⟨v, r, rfl, rv, w, r', rfl, rw', u, r'', rfl, ru, rfl⟩ := r1
      exact ⟨v, w, u, rfl, p1 m1 H1 (.nx _) (Le.refl l1.sub) c1 ((((er.mono l1).set i rv).set j rw').set l ru)⟩
    | [], p1, _ => exact p1.elim
    | [_], p1, _ => exact p1.elim
    | [_, _], p1, _ => exact p1.elim
    | _ :: _ :: _ :: _ :: _, p1, _ => exact p1.elim)⟩
end G
end
section
set_option Elab.async false
set_option linter.all false
set_option maxRecDepth 100000
set_option maxHeartbeats 2000000
/-! G32: dict(d) over data -/
namespace G
open PySem PySem.Spec PyProof.Rows L2 RZ
/-- the keys' hashes differ -/
def HApart (qs : List (List Key)) : Prop := ∀ w : World, (qs.map fun k => reduceHash (Builtin.Tuple.tupleHashOf (k.map (keyH w)))).Nodup
def rDictT : List V → Hp → VK → Prop := fun vs H Q => ∃ a kvs, vs = [V.ref a] ∧ H a = some (.dT kvs) ∧ HApart (kvs.map (·.1)) ∧ ∀ p, H p = none → Q (.ref p) (upd H p (.dT kvs))
theorem KT.fst {H : Hp} : ∀ {kvs : List (List Key × V)} {xs : List (List Key × Addr × Value)}, KT H kvs xs → kvs.map (·.1) = xs.map (·.1)
  | _, _, .nil => rfl
  | _, _, .cons h t => by simp only [List.map_cons, h.1, KT.fst t]
theorem KT.memb {H : Hp} : ∀ {kvs : List (List Key × V)} {xs : List (List Key × Addr × Value)}, KT H kvs xs → ∀ x ∈ xs, H x.2.1 = some (.tup (x.1.map kV))
  | _, _, .nil, x, hx => by cases hx
  | _, _, .cons h t, x, hx => by
    rcases List.mem_cons.mp hx with e | e
    · subst e; rw [← h.1]; exact h.2.1
    · exact KT.memb t x e
theorem cr_dictT {X : Cx} (hu : X.A.units + 4 < cLine) : CallR X (.type "dict") rDictT := by
  intro pins s σ H vs us Q I r h
  obtain ⟨a, kvs, rfl, ha, hp, q⟩ := h
  rw [Vals.ref1 r]
  obtain ⟨z, hd, xs, rel, dd⟩ := dt_of I.hok ha
  have hz : xs.length ≤ sizeLine := by rw [← rel.length]; exact z
  have keep : ∀ (h' : Heap), (∀ b u, s.heap.get? b = some u → h'.get? b = some u) → ∀ x ∈ xs, (tupleKind (mixKind X.prog X.w)).is h' x.1 x.2.1 := fun h' hk x hx => by
    obtain ⟨o, its, n, h1, h2, h3, h4⟩ := key_of I.hok (KT.memb rel x hx)
    exact ⟨o, its, n, hk _ _ h1, h2, h3, h4⟩
  refine call_dict_copy (knd := tupleKind (mixKind X.prog X.w)) (show X.A.in1.in1.units < cLine from ?_) hd dd hz keep (fun x hx => ?_) ?_ fun h' d' hk => ?_
  · have : X.A.in1.in1.units ≤ X.A.units + 4 := by
      first
        | (simp [Around.in1, Around.units]; done)
        | (show X.A.in1.in1.units ≤ _; simp only [Around.in1, Around.units]; omega)
    omega
  · obtain ⟨o, its, n, h1, h2, h3, h4⟩ := key_of I.hok (KT.memb rel x hx)
    exact ⟨o, h1, h2⟩
  · have := hp X.w
    rw [KT.fst rel, List.map_map] at this
    exact this
  · refine ⟨.ref s.heap.objs.size, _, I.laid (a := s.heap.objs.size) (o := .dT kvs) (t' := s.toks) hk (Nat.le_refl _) ⟨z, beq_eq_false_iff_ne.mpr (Ne.symm (Nat.ne_of_lt I.big)), xs, ?_, ?_⟩, rfl, q _ (I.hok.fresh (Nat.le_refl _))⟩
    · exact KT.keeps rel fun b ys e => by rw [upd_ne (ne_of_none e (I.hok.fresh (Nat.le_refl _)))]; exact e
    · obtain ⟨o, es, ep, g1, g2, g3, g4, g5, g6⟩ := d'
      exact ⟨o, es, ep, g1, g2, g3, g4, g6⟩
open Classical in
noncomputable def dictOfR (S1 : Sto) (x : D) : Res D := match dicOf S1 x with
  | some (ks, ds) => match tkeysD ks with
    | some qs => if HApart qs then .ok (.ref S1.length) (S1 ++ [.dic ks ds]) else .bad
    | none => .bad
  | none => .bad
/-- dict(d), a dict of the store -/
noncomputable def mDictOf (e : ME) : ME := fun en S => (e en S).bind fun x S1 => dictOfR S1 x
theorem de_dictOf {X : Cx} {B : Bas} {W : WX} {e : Expr} {p pos : Pos} {me : ME} (hu : X.A.units + 4 < cLine) (hm : X.mg "dict" = none) (he : PE X e (tE B W me)) (hg : Gl X "dict" := by rfl)
    (hs : starEach [e] X.env = [(false, eval e X.env)] := by rfl) : PE X (.Call (.Name "dict" p) [e] [] pos) (tE B W (mDictOf me)) :=
  PE.cut (pe_callTy (p := p) (pos := pos) (cr_dictT hu) hg hm (by decide +kernel) (da_cons (B := B) (W := W) he da_nil (by rw [hs]; rfl)) (by decide) (by decide) hs (by rfl)) fun σ H Q ⟨m, S, en, s, c, er, q⟩ => by
    refine ⟨m, S, en, s, c, er, ?_⟩
    have q1 : Post B (Rep B) (at' W σ) m H Q ((aCons me aNil en S).bind fun xs S1 => match xs with
        | [d] => dictOfR S1 d
        | _ => .bad) := by
      simp only [aCons, aNil]
      unfold mDictOf at q
      cases h : me en S with
      | ok d S1 => rw [h] at q; exact q
      | ex c ns vs S1 => rw [h] at q; exact q
      | bad => rw [h] at q; exact q
    refine (Post.bind q1).imp ?_
    rintro vs H1 ⟨ds, S1, m1, _, l1, c1, r1, p1⟩
    match ds, p1, r1 with
    | [], p1, _ => exact p1.elim
    | _ :: _ :: _, p1, _ => exact p1.elim
    | [d], p1, r1 =>
      obtain ⟨v, rfl, rv⟩ := r1.one
      simp only [dictOfR] at p1
      cases h1 : dicOf S1 d with
      | none => simp only [h1] at p1; exact p1.elim
      | some kd =>
        obtain ⟨ks, ds⟩ := kd
        simp only [h1] at p1
        cases h2 : tkeysD ks with
        | none => simp only [h2] at p1; exact p1.elim
        | some qs =>
          simp only [h2] at p1
          split at p1
          · rename_i hc
            obtain ⟨a, us, rfl, z, rs⟩ := repD l1.sub c1 rv h1
            have hz := dic_dT z h2
            have hl : qs.length = us.length := by rw [tkeysD_length h2]; exact z.1
            refine ⟨a, qs.zip us, rfl, hz, ?_, fun p hp => ?_⟩
            · rw [List.map_fst_zip (by omega)]; exact hc
            · refine p1 _ _ _ (Le.add c1 l1.sub hp) (Cor.add c1 l1.sub hp ?_) (rp_ref c1)
              exact ⟨us, ⟨z.1, .inr ⟨qs, h2, upd_same⟩⟩, rs.mono (Le.add c1 l1.sub hp)⟩
          · exact p1.elim
end G
end
section
set_option Elab.async false
set_option linter.all false
set_option maxRecDepth 100000
set_option maxHeartbeats 2000000
/-! GH: the head's facts, properties' getters among them -/
namespace G
open PySem PySem.Spec PyProof.Rows L2 He
/-- the getter of a class's property -/
def pAd (K : PySem.W.Frag) (C x : Str) : Addr := match PySem.W.recIn K (ma K (ga K C) x) "property" with
  | some (.ref g :: _) => g
  | _ => 0
def fnWA (K : PySem.W.Frag) (a : Addr) : FnW := match K.lookup a with
  | some ⟨_, _, .func fd, _⟩ => some (fd.name, fd.qualname, fd.params, fd.body, fd.scope, fd.globals, fd.closure, fd.builtins)
  | _ => none
structure GetD where
  c : Str
  x : Str
  d : DefD
def okA (K : PySem.W.Frag) (a : Addr) (d : DefD) : Bool := PySem.W.keepIn K (.ref a) && (match K.lookup a with
  | some ⟨_, _, .func fd, _⟩ => PySem.W.codeIn K fd.code d.qual && (dflB K fd.defaults (d.dvs K) && kwdB K fd.kwdefaults (d.kws K))
  | _ => false)
theorem funD_at {K : PySem.W.Frag} {a : Addr} {d : DefD} (e : fnWA K a = d.val) (c : okA K a d = true) : ∃ fd, FunD K d.name d.qual d.params d.body d.scope (d.dvs K) (d.kws K) a fd := by
  obtain ⟨kp, c2⟩ := ba c
  unfold fnWA at e
  cases q : K.lookup a with
  | none => rw [q] at c2; cases c2
  | some o =>
    obtain ⟨oc, od, dt, osl⟩ := o
    rw [q] at c2 e
    cases dt with
    | func fd =>
      obtain ⟨n1, n2, n3, n4, n5, n6, n7, n8, n9, n10, n11, n12, n13, n14, n15⟩ := fd
      have e2 : (some (n1, n2, n3, n4, n5, n6, n7, n15) : FnW) = some (d.name, d.qual, d.params, .stmts d.body, d.scope, mainGlobals, [], builtinsNs) := e
      simp only [Option.some.injEq, Prod.mk.injEq] at e2
      obtain ⟨h1, h2, h3, h4, h5, h6, h7, h8⟩ := e2
      subst h1 h2 h3 h4 h5 h6 h7 h8
      have c3 : (PySem.W.codeIn K n13 d.qual && (dflB K n8 (d.dvs K) && kwdB K n9 (d.kws K))) = true := c2
      obtain ⟨k1, k2⟩ := ba c3
      obtain ⟨k3, k4⟩ := ba k2
      exact ⟨_, ⟨oc, od, n8, n9, n10, n11, n12, n13, n14, osl, rfl, q, k1, dflB_ok k3, kwdB_ok k4⟩, kp⟩
    | _ => cases c2
def GetD.ok (K : PySem.W.Frag) (g : GetD) : Bool :=
  eqO (PySem.W.findIn K (.ref (ga K g.c)) g.x) (some (some (.ref (ma K (ga K g.c) g.x)))) && (eqO (PySem.W.specialIn K (.ref (ma K (ga K g.c) g.x)) "__get__") (some (some (.builtin "property.__get__"))) &&
    (decide (PySem.W.takesIn K (.ref (ma K (ga K g.c) g.x)) = some true) && ((match PySem.W.recIn K (ma K (ga K g.c) g.x) "property" with
      | some (.ref _ :: _) => true
      | _ => false) && okA K (pAd K g.c g.x) g.d)))
theorem GetD.prop {K : PySem.W.Frag} {g : GetD} (c : g.ok K = true) : PropOf K (ga K g.c) g.x (ma K (ga K g.c) g.x) (pAd K g.c g.x) := by
  obtain ⟨h1, c⟩ := ba c
  obtain ⟨h2, c⟩ := ba c
  obtain ⟨h3, c⟩ := ba c
  obtain ⟨h4, _⟩ := ba c
  refine ⟨eqO_ok h1, eqO_ok h2, of_decide_eq_true h3, ?_⟩
  unfold pAd
  revert h4
  cases PySem.W.recIn K (ma K (ga K g.c) g.x) "property" with
  | none => intro h; cases h
  | some l =>
    cases l with
    | nil => intro h; cases h
    | cons v r =>
      cases v with
      | ref a => intro _; exact ⟨r, rfl⟩
      | _ => intro h; cases h
theorem GetD.fun_ {K : PySem.W.Frag} {g : GetD} (c : g.ok K = true) (e : fnWA K (pAd K g.c g.x) = g.d.val) : ∃ fd, FunD K g.d.name g.d.qual g.d.params g.d.body g.d.scope (g.d.dvs K) (g.d.kws K) (pAd K g.c g.x) fd := by
  obtain ⟨_, c⟩ := ba c
  obtain ⟨_, c⟩ := ba c
  obtain ⟨_, c⟩ := ba c
  obtain ⟨_, c⟩ := ba c
  exact funD_at e c
abbrev AlP : Type := AlD × (Bool × List FnW)
def obsP (n : Nat) (fa : List Fa) (fn : List DefD) (gs : List GetD) (ex : PySem.W.Frag → Bool) (g : Addr → Option Obj) : AlP :=
  (fun K => (obsD fa fn K, (ex K && gs.all (GetD.ok K), gs.map fun d => fnWA K (pAd K d.c d.x)))) (frT g (asD g n))
def valP (fn : List DefD) (gs : List GetD) : AlP := (valD fn, (true, gs.map fun d => d.d.val))
structure SaysP (fa : List Fa) (fn : List DefD) (gs : List GetD) (ex : PySem.W.Frag → Bool) (K : PySem.W.Frag) : Prop where
  d : SaysD fa fn K
  more : ex K = true
  gok : ∀ g ∈ gs, g.ok K = true
  gfn : gs.map (fun d => fnWA K (pAd K d.c d.x)) = gs.map fun d => d.d.val
theorem saysP_of {n : Nat} {fa : List Fa} {fn : List DefD} {gs : List GetD} {ex : PySem.W.Frag → Bool} {h : Heap} (e : obsP n fa fn gs ex h.get? = valP fn gs) : SaysP fa fn gs ex (frT h.get? (asD h.get? n)) := by
  have e1 : obsD fa fn (frT h.get? (asD h.get? n)) = valD fn := congrArg (fun z : AlP => z.1) e
  have e2 : (ex (frT h.get? (asD h.get? n)) && gs.all (GetD.ok (frT h.get? (asD h.get? n)))) = true := congrArg (fun z : AlP => z.2.1) e
  have e3 : gs.map (fun d => fnWA (frT h.get? (asD h.get? n)) (pAd (frT h.get? (asD h.get? n)) d.c d.x)) = gs.map fun d => d.d.val := congrArg (fun z : AlP => z.2.2) e
  obtain ⟨h1, h2⟩ := ba e2
  exact ⟨e1, h1, fun g hg => List.all_eq_true.mp h2 g hg, e3⟩
def hookP (n : Nat) (fa : List Fa) (fn : List DefD) (gs : List GetD) (ex : PySem.W.Frag → Bool) : PySem.W.Hook where
  α := AlP
  obs := fun s => obsP n fa fn gs ex s.heap.get?
  val := fun _ => valP fn gs
  says := fun _ h => ∃ K : PySem.W.Frag, K.In h ∧ SaysP fa fn gs ex K
  of := fun _ _ e => ⟨_, frT_in, saysP_of e⟩
  keeps := fun _ _ _ ⟨K, hK, c⟩ k => ⟨K, PySem.W.Frag.In.keeps hK k, c⟩
theorem obsP_eq {n : Nat} {fa : List Fa} {fn : List DefD} {gs : List GetD} {ex : PySem.W.Frag → Bool} {g : Addr → Option Obj} {s : Shared} (h : ∀ a, g a = s.heap.get? a) : obsP n fa fn gs ex g = (hookP n fa fn gs ex).obs s := by
  have e : g = s.heap.get? := funext h
  rw [e] <;> rfl
theorem SaysP.get {fa : List Fa} {fn : List DefD} {gs : List GetD} {ex : PySem.W.Frag → Bool} {K : PySem.W.Frag} (c : SaysP fa fn gs ex K) (i : Nat) {g : GetD} (h : gs[i]? = some g := by rfl) :
    PropOf K (ga K g.c) g.x (ma K (ga K g.c) g.x) (pAd K g.c g.x) ∧ ∃ fd, FunD K g.d.name g.d.qual g.d.params g.d.body g.d.scope (g.d.dvs K) (g.d.kws K) (pAd K g.c g.x) fd := by
  have hg := c.gok g (List.mem_of_getElem? h)
  refine ⟨GetD.prop hg, GetD.fun_ hg ?_⟩
  have e2 : (gs.map fun d => fnWA K (pAd K d.c d.x))[i]? = (gs.map fun d => d.d.val)[i]? := by rw [c.gfn]
  rw [List.getElem?_map, List.getElem?_map, h] at e2
  exact Option.some.inj e2
end G
end
section
set_option Elab.async false
set_option linter.all false
set_option maxRecDepth 100000
set_option maxHeartbeats 2000000
/-! G33: raise C(..), C an own class whose __init__ stores its arguments, or without one -/
namespace G
open PySem PySem.Spec PyProof.Rows L2
theorem passNoX {X : Cx} : Passes (L2.CX X.prog X.w) X (fun _ _ _ => False) := fun pins σ H s e s' I h => by
  obtain ⟨_, _, _, _, _, _, _, _, _, _, _, _, z⟩ := h
  exact z.elim
/-! ### __init__ -/
def spI1 (C : Addr) (f : Str) : Sp := fun vs H Q _ => ∃ a y, vs = [.ref a, y] ∧ H a = some (exo a C none) ∧ ∀ dx, H dx = none → dx ≠ a → Q .non (upd (upd H dx (exd dx [(f, y)])) a (exo a C (some dx)))
def spI2 (C : Addr) (f g : Str) : Sp := fun vs H Q _ => ∃ a y z, vs = [.ref a, y, z] ∧ H a = some (exo a C none) ∧ ∀ dx, H dx = none → dx ≠ a → Q .non (upd (upd (upd H dx (exd dx [(f, y)])) a (exo a C (some dx))) dx (exd dx [(g, z), (f, y)]))
section
variable {P : Program} {w : World} {K : PySem.W.Frag} {mg : Str → Option Value} {base : Heap} {x qual : Str} {st : Stmt} {fI : Addr} {fd : FuncData} {C : Addr} {f g : Str} {N ps : List Str} {k : Nat}
theorem init1_ok (F : Fun K x qual st fI fd) (S : FnScope N ps (defScope st)) (hp : ps.length = 2) (T : OexC K C) (hno : PySem.W.findIn K (.ref C) f = some none) (hN : 2 ≤ N.length)
    (hb : ∀ (cdv : Value) (A : Around) (outer : List Env) (s : Shared) (H : Hp) (E : XK), PSs (cxOf (L2.CX P w) P w K mg base N qual (defScope st) fI cdv A outer s H E) (defBody st) (tOst K f (tVar 0) (tVar 1))) :
    FnOk P w K mg base (L2.CX P w) (k + 1) fI fd ps (spI1 C f) := by
  refine F.okX S (fun vs H Q E h => ?_) fun cdv A outer s H vs Q E hr h => ⟨_, hb cdv A outer s H E, ?_⟩
  · obtain ⟨a, y, rfl, _⟩ := h
    rw [hp]; rfl
  · obtain ⟨a, y, rfl, ha, q⟩ := h
    obtain ⟨n1, n2, N', rfl⟩ : ∃ n1 n2 N', N = n1 :: n2 :: N' := by
      match N, hN with
      | n1 :: n2 :: N', _ => exact ⟨n1, n2, N', rfl⟩
    refine ⟨y, rfl, .ref a, rfl, a, C, rfl, T, hno, .inl ⟨ha, fun dx h1 h2 => q dx h1 h2⟩⟩
theorem init2_ok (F : Fun K x qual st fI fd) (S : FnScope N ps (defScope st)) (hp : ps.length = 3) (T : OexC K C) (hno : PySem.W.findIn K (.ref C) f = some none) (hno2 : PySem.W.findIn K (.ref C) g = some none) (hN : 3 ≤ N.length)
    (hb : ∀ (cdv : Value) (A : Around) (outer : List Env) (s : Shared) (H : Hp) (E : XK), PSs (cxOf (L2.CX P w) P w K mg base N qual (defScope st) fI cdv A outer s H E) (defBody st) (tSeq (tOst K f (tVar 0) (tVar 1)) (tOst K g (tVar 0) (tVar 2)))) :
    FnOk P w K mg base (L2.CX P w) (k + 1) fI fd ps (spI2 C f g) := by
  refine F.okX S (fun vs H Q E h => ?_) fun cdv A outer s H vs Q E hr h => ⟨_, hb cdv A outer s H E, ?_⟩
  · obtain ⟨a, y, z, rfl, _⟩ := h
    rw [hp]; rfl
  · obtain ⟨a, y, z, rfl, ha, q⟩ := h
    obtain ⟨n1, n2, n3, N', rfl⟩ : ∃ n1 n2 n3 N', N = n1 :: n2 :: n3 :: N' := by
      match N, hN with
      | n1 :: n2 :: n3 :: N', _ => exact ⟨n1, n2, n3, N', rfl⟩
    refine ⟨y, rfl, .ref a, rfl, a, C, rfl, T, hno, .inl ⟨ha, fun dx h1 h2 => ?_⟩⟩
    refine ⟨z, rfl, .ref a, rfl, a, C, rfl, T, hno2, .inr ⟨dx, [(f, y)], upd_same, ?_, by simp, q dx h1 h2⟩⟩
    rw [upd_ne h2, upd_same]
end
/-! ### raise -/
/-- raise C(..): the fields' names, the last one first -/
def sRaise (c : Nat) (ns : List Str) (r : MA) : MS := fun en S => (r en S).bind fun ds S1 => if ds.length = ns.length then .ex c ns ds.reverse S1 else .bad
def CalE1 (P : Program) (w : World) (K : PySem.W.Frag) (mg : Str → Option Value) (base : Heap) (B : Bas) (x : Str) (c k : Nat) (f : Str) : Prop :=
  ∃ (fI : Addr) (fd : FuncData) (ps : List Str), FnOk P w K mg base (L2.CX P w) k fI fd ps (spI1 (B.cls c) f) ∧ OexC K (B.cls c) ∧ PySem.W.findIn K (.ref (B.cls c)) "__init__" = some (some (.ref fI)) ∧ PySem.W.typeIn K (.ref fI) = some (.type "function") ∧ Binds K fd ps [] ∧ mg x = some (.ref (B.cls c))
def CalE2 (P : Program) (w : World) (K : PySem.W.Frag) (mg : Str → Option Value) (base : Heap) (B : Bas) (x : Str) (c k : Nat) (f g : Str) : Prop :=
  ∃ (fI : Addr) (fd : FuncData) (ps : List Str), FnOk P w K mg base (L2.CX P w) k fI fd ps (spI2 (B.cls c) f g) ∧ OexC K (B.cls c) ∧ PySem.W.findIn K (.ref (B.cls c)) "__init__" = some (some (.ref fI)) ∧ PySem.W.typeIn K (.ref fI) = some (.type "function") ∧ Binds K fd ps [] ∧ mg x = some (.ref (B.cls c))
theorem exd_fin1 {H : Hp} {a dx : Addr} {u1 u2 u3 u4 : HO} (ha : H a = none) (hd : H dx = none) (ne : dx ≠ a) : upd (L2.del (upd (upd (upd H a u1) dx u2) a u3) a) dx u4 = upd H dx u4 := by
  funext b
  by_cases h : b = dx
  · subst h; rw [upd_same, upd_same]
  · rw [upd_ne h, upd_ne h]
    by_cases h2 : b = a
    · subst h2; rw [L2.del_same, ha]
    · rw [L2.del_ne h2, upd_ne h2, upd_ne h, upd_ne h2]
theorem exd_fin2 {H : Hp} {a dx : Addr} {u1 u2 u3 u4 u5 : HO} (ha : H a = none) (hd : H dx = none) (ne : dx ≠ a) : upd (L2.del (upd (upd (upd (upd H a u1) dx u2) a u3) dx u5) a) dx u4 = upd H dx u4 := by
  funext b
  by_cases h : b = dx
  · subst h; rw [upd_same, upd_same]
  · rw [upd_ne h, upd_ne h]
    by_cases h2 : b = a
    · subst h2; rw [L2.del_same, ha]
    · rw [L2.del_ne h2, upd_ne h, upd_ne h2, upd_ne h, upd_ne h2]
section
variable {X : Cx} {B : Bas} {W : WX} {e e2 : Expr} {x f g : Str} {p pos rpos : Pos} {mr : MA} {c k j : Nat}
theorem ds_raise1 (ce : CalE1 X.prog X.w X.K X.mg X.base B x c k f) (hc : X.calm = true) (tk : Takes X W) (hr : Room j X.A) (hk : k + 1 ≤ j) (ha : PA X [e] (tA B W mr)) (hg : Gl X x := by rfl) (hdb : (x == ("__debug__" : Str)) = false := by decide)
    (he : starEach [e] X.env = [(false, eval e X.env)] := by rfl) : PS X (.Raise (some (.Call (.Name x p) [e] [] pos)) none rpos) (tS B W (sRaise c [f] mr)) := by
  obtain ⟨fI, fd, ps, FO, T, iC, tI, bd, hm⟩ := ce
  refine PS.cut (ps_raise hc tk (pmk_oex T iC tI FO (hr.mono hk) bd .nil passNoX hg hm ha hdb he (by rfl))) fun D σ H ⟨m, S, en, s, cc, er, q⟩ => ?_
  refine ⟨m, S, en, s, cc, er, (Post.bind q).imp ?_⟩
  rintro vs H1 ⟨ds, S1, m1, _, l1, c1, r1, p1⟩
  match ds, p1, r1 with
  | [], p1, _ => exact p1.elim
  | _ :: _ :: _, p1, _ => exact p1.elim
  | [d], p1, r1 =>
    obtain ⟨v, rfl, rv⟩ := r1.one
    refine ⟨by simp, fun a hn => ⟨a, v, rfl, upd_same, fun dx h1 h2 => ⟨rfl, dx, [(f, v)], upd_same, ?_, ?_, ?_⟩⟩⟩
    · rw [upd_ne h2, upd_same]
    · rw [upd_ne h2] at h1; exact h1
    · rw [upd_ne h2] at h1
      rw [exd_fin1 hn h1 h2]
      refine p1 _ _ _ (Le.new c1 l1.sub h1) (Cor.new c1 l1.sub h1) (.inr ⟨dx, [v], rfl, upd_same, c1.out_of (l1.sub.none h1), rfl, ?_⟩)
      exact r1.mono (Le.new c1 l1.sub h1)
theorem ds_raise2 (ce : CalE2 X.prog X.w X.K X.mg X.base B x c k f g) (hc : X.calm = true) (tk : Takes X W) (hr : Room j X.A) (hk : k + 1 ≤ j) (ha : PA X [e, e2] (tA B W mr)) (hg : Gl X x := by rfl) (hdb : (x == ("__debug__" : Str)) = false := by decide)
    (he : starEach [e, e2] X.env = (false, eval e X.env) :: starEach [e2] X.env := by rfl) (hpl : (backTo pos (starEach [e2] X.env)).any (·.1) = false := by rfl) : PS X (.Raise (some (.Call (.Name x p) [e, e2] [] pos)) none rpos) (tS B W (sRaise c [g, f] mr)) := by
  obtain ⟨fI, fd, ps, FO, T, iC, tI, bd, hm⟩ := ce
  refine PS.cut (ps_raise hc tk (pmk_oex T iC tI FO (hr.mono hk) bd .nil passNoX hg hm ha hdb he hpl)) fun D σ H ⟨m, S, en, s, cc, er, q⟩ => ?_
  refine ⟨m, S, en, s, cc, er, (Post.bind q).imp ?_⟩
  rintro vs H1 ⟨ds, S1, m1, _, l1, c1, r1, p1⟩
  match ds, p1, r1 with
  | [], p1, _ => exact p1.elim
  | [_], p1, _ => exact p1.elim
  | _ :: _ :: _ :: _, p1, _ => exact p1.elim
  | [d, d2], p1, r1 =>
    simp only [Reps] at r1
    obtain ⟨v, r, rfl, rv, v2, r', rfl, rv2, rfl⟩ := r1
    refine ⟨by simp, fun a hn => ⟨a, v, v2, rfl, upd_same, fun dx h1 h2 => ⟨rfl, dx, [(g, v2), (f, v)], ?_, upd_same, ?_, ?_⟩⟩⟩
    · rw [upd_ne (Ne.symm h2), upd_same]
    · rw [upd_ne h2] at h1; exact h1
    · rw [upd_ne h2] at h1
      rw [exd_fin2 hn h1 h2]
      refine p1 _ _ _ (Le.new c1 l1.sub h1) (Cor.new c1 l1.sub h1) (.inr ⟨dx, [v2, v], rfl, upd_same, c1.out_of (l1.sub.none h1), rfl, ?_⟩)
      exact Reps.cons (rv2.mono (Le.new c1 l1.sub h1)) (Reps.cons (rv.mono (Le.new c1 l1.sub h1)) Reps.nil)
end
/-- X(), X an own exception class without own __init__ -/
theorem pmk_own0 {X : Cx} {C : Addr} {bmB : List Value} {B newId initId : String} {x : Str} {p pos : Pos} (F : ExcBaseFacts B newId initId bmB) (q : PySem.W.excIn X.K C bmB newId = true) (gC : X.mg x = some (.ref C))
    (kC : PySem.W.keepIn X.K (.ref C) = true) (r : Raises X (.ref C)) (hg : Gl X x) (hdb : (x == ("__debug__" : Str)) = false := by decide) : PMk X (.Call (.Name x p) [] [] pos) (fun σ H Q => Q (.ref C) none H) := by
  intro pins s σ H Q I h
  refine wpAny_Call_Name_kw (ld_glob I hg gC ?_ hdb)
  refine PySem.W.callWith_K0 I.kIn kC ?_
  show wpAny _ _ (call (.ref C) []) _ _ _
  obtain ⟨bm, N, nm, qn, bs, hdct, sn, sub, ab, col, dd, k0, k1, k2, k3, k5, mN, hC, hN, hni, T⟩ := exc_obj I.kIn q
  refine wpAny_call_exc_subT F T hC hN hni (fun h' e hm => ?_) (by show 0 ≤ sizeLine; exact Nat.zero_le _)
  exact mk_of I hm r h (I.hok.gone hm.new)
def CalE0 (K : PySem.W.Frag) (mg : Str → Option Value) (B : Bas) (x : Str) (c : Nat) : Prop := PySem.W.excIn K (B.cls c) He.veBase "ValueError.__new__" = true ∧ PySem.W.keepIn K (.ref (B.cls c)) = true ∧ PySem.W.subIn K (.ref (B.cls c)) (.type "BaseException") = some true ∧
    PySem.W.typeIn K (.ref (B.cls c)) = some (.type "type") ∧ mg x = some (.ref (B.cls c))
theorem ds_raise0 {X : Cx} {B : Bas} {W : WX} {x : Str} {p pos rpos : Pos} {c : Nat} (ce : CalE0 X.K X.mg B x c) (hc : X.calm = true) (tk : Takes X W) (hg : Gl X x := by rfl) (hdb : (x == ("__debug__" : Str)) = false := by decide) :
    PS X (.Raise (some (.Call (.Name x p) [] [] pos)) none rpos) (tS B W (sRaise c [] aNil)) := by
  obtain ⟨h1, h2, h3, h4, h5⟩ := ce
  refine PS.cut (ps_raise hc tk (pmk_own0 PySem.F.excBase_ValueError h1 h5 h2 (raises_own h3 h4) hg hdb)) fun D σ H ⟨m, S, en, s, cc, er, q⟩ => ?_
  exact q m H none (Le.refl s) cc (.inl ⟨rfl, rfl, rfl⟩)
end G
namespace G
open PySem PySem.Spec PyProof.Rows L2 He
/-! ### facts of classes -/
def oexB (K : PySem.W.Frag) (C : Addr) : Bool := (match K.lookup C with
  | some ⟨.type "type", _, .cls cd, sl⟩ => (match cd.mro, sl.toList with
    | .ref C' :: bm, [_, _, _, _, some (.builtin n), _] => C' == C && (n == "ValueError.__new__" && (!cd.hasDel && (cd.hasDict && PySem.HandSPX.refsVE bm)))
    | _, _ => false)
  | _ => false) && (eqO (PySem.W.findIn K (.ref C) "__setattr__") (some (some (.builtin "object.__setattr__"))) && (decide (PySem.W.subIn K (.ref C) (.type "BaseException") = some true) && (decide (PySem.W.typeIn K (.ref C) = some (.type "type")) && PySem.W.keepIn K (.ref C))))
theorem oexB_ok {K : PySem.W.Frag} {C : Addr} (h : oexB K C = true) : OexC K C := by
  unfold oexB at h
  obtain ⟨q, h⟩ := ba h
  obtain ⟨h1, h⟩ := ba h
  obtain ⟨h2, h⟩ := ba h
  obtain ⟨h3, h4⟩ := ba h
  refine ⟨?_, eqO_ok h1, of_decide_eq_true h2, of_decide_eq_true h3, h4⟩
  split at q
  · rename_i dd cd sl ho
    split at q
    · rename_i C' bm k0 k1 k2 k3 n k5 hm hs
      simp only [Bool.and_eq_true, beq_iff_eq, Bool.not_eq_true'] at q
      obtain ⟨rfl, rfl, hdel, hdict, hb⟩ := q
      obtain ⟨nm, bs, mro, ns, qn, hd, sn, sub, ab, col, del⟩ := cd
      dsimp only at hm hdel hdict
      subst hm hdel hdict
      have hsl : sl = #[k0, k1, k2, k3, some (.builtin "ValueError.__new__"), k5] := by
        obtain ⟨l⟩ := sl
        simp only at hs
        rw [hs]
      subst hsl
      exact ⟨nm, qn, ns, bs, bm, sn, sub, ab, col, dd, k0, k1, k2, k3, k5, ho, hb⟩
    · cases q
  · cases q
/-- the class's __init__ is a def at the place fAd tells -/
def iniB (K : PySem.W.Frag) (x : Str) : Bool := oexB K (ga K x) && (eqO (PySem.W.findIn K (.ref (ga K x)) "__init__") (some (some (.ref (ma K (ga K x) "__init__")))) && decide (PySem.W.typeIn K (.ref (ma K (ga K x) "__init__")) = some (.type "function")))
theorem iniB_ok {K : PySem.W.Frag} {x : Str} (h : iniB K x = true) : OexC K (ga K x) ∧ PySem.W.findIn K (.ref (ga K x)) "__init__" = some (some (.ref (ma K (ga K x) "__init__"))) ∧ PySem.W.typeIn K (.ref (ma K (ga K x) "__init__")) = some (.type "function") := by
  obtain ⟨h1, h⟩ := ba h
  obtain ⟨h2, h3⟩ := ba h
  exact ⟨oexB_ok h1, eqO_ok h2, of_decide_eq_true h3⟩
end G
end
section
set_option Elab.async false
set_option linter.all false
set_option maxRecDepth 100000
set_option maxHeartbeats 2000000
/-! G34: words for the printed derivations -/
namespace G
open PySem L2
theorem hu1 {A : Around} {k : Nat} (hr : Room k A) : A.units + 1 < cLine := by have := hr.un; omega
theorem hu4 {A : Around} {k : Nat} (hr : Room k A) : A.units + 4 < cLine := by have := hr.un; omega
end G
end
section
set_option Elab.async false
set_option linter.all false
set_option maxRecDepth 100000
set_option maxHeartbeats 2000000
/-! G35: the newer combinators' values, step by step -/
namespace G
open PySem L2
/-! dicts -/
def dispK (ss : List Str) (ds : List D) (S : Sto) : Res D := .ok (.ref S.length) (S ++ [.dic (ss.map .str) ds])
def dispDK (ss : List Str) (ds : List D) (S : Sto) : Res D := .ok (.dic (ss.map .str) ds) S
theorem mDisp_ap (ss : List Str) (r : MA) (en : En) (S : Sto) : mDisp ss r en S = (r en S).bind (dispK ss) := rfl
theorem mDispD_ap (ss : List Str) (r : MA) (en : En) (S : Sto) : mDispD ss r en S = (r en S).bind (dispDK ss) := rfl
theorem dispK_ap (ss : List Str) (ds : List D) (S : Sto) : dispK ss ds S = .ok (.ref S.length) (S ++ [.dic (ss.map .str) ds]) := rfl
theorem dispDK_ap (ss : List Str) (ds : List D) (S : Sto) : dispDK ss ds S = .ok (.dic (ss.map .str) ds) S := rfl
theorem mDEmp_ap (en : En) (S : Sto) : mDEmp en S = .ok (.dic [] []) S := rfl
theorem mDNew_ap (en : En) (S : Sto) : mDNew en S = .ok (.ref S.length) (S ++ [.dic [] []]) := rfl
noncomputable def dictK (x : D) (S : Sto) : Res D := dictOfR S x
theorem mDictOf_ap (e : ME) (en : En) (S : Sto) : mDictOf e en S = (e en S).bind dictK := rfl
theorem dictK_ok {x : D} {S : Sto} {ks ds : List D} {qs : List (List Key)} (h1 : dicOf S x = some (ks, ds)) (h2 : tkeysD ks = some qs) (h3 : HApart qs) : dictK x S = .ok (.ref S.length) (S ++ [.dic ks ds]) := by
  unfold dictK dictOfR
  rw [h1]
  simp only [h2]
  exact if_pos h3
theorem dicOf_dic (S : Sto) (ks ds : List D) : dicOf S (.dic ks ds) = some (ks, ds) := rfl
def dicO (o : Option Ob) : Option (List D × List D) := match o with
  | some (.dic ks ds) => some (ks, ds)
  | _ => none
theorem dicOf_ref (S : Sto) (i : Nat) : dicOf S (.ref i) = dicO S[i]? := by
  generalize h : S[i]? = x
  have e : dicOf S (.ref i) = dicO S[i]? := by
    first
      | (simp only [dicOf, dicO]; done)
      | (simp only [dicOf, dicO]; cases S[i]? with
          | none => rfl
          | some o => cases o <;> rfl)
  rw [e, h]
theorem dicO_dic (ks ds : List D) : dicO (some (.dic ks ds)) = some (ks, ds) := rfl
/-! d.get(k, z) -/
def g2K3 (x y w : D) (S : Sto) : Res D := match dGetO S x y with
  | some (some d) => .ok d S
  | some none => .ok w S
  | none => .bad
def g2K2 (x y : D) (w : D) (S : Sto) : Res D := g2K3 x y w S
def g2K1 (z : ME) (en : En) (x y : D) (S : Sto) : Res D := (z en S).bind (g2K2 x y)
def g2K0 (b z : ME) (en : En) (x : D) (S : Sto) : Res D := match dicOf S x with
  | some (ks, _) => match tkeysD ks with
    | some _ => (b en S).bind (g2K1 z en x)
    | none => .bad
  | none => .bad
theorem mDGet2_ap (a b z : ME) (en : En) (S : Sto) : mDGet2 a b z en S = (a en S).bind (g2K0 b z en) := rfl
theorem g2K0_ok {b z : ME} {en : En} {x : D} {S : Sto} {ks ds : List D} {qs : List (List Key)} (h1 : dicOf S x = some (ks, ds)) (h2 : tkeysD ks = some qs) : g2K0 b z en x S = (b en S).bind (g2K1 z en x) := by
  unfold g2K0
  rw [h1]
  simp only [h2]
theorem g2K0_emp (b z : ME) (en : En) (S : Sto) : g2K0 b z en (.dic [] []) S = (b en S).bind (g2K1 z en (.dic [] [])) := rfl
theorem g2K1_ap (z : ME) (en : En) (x y : D) (S : Sto) : g2K1 z en x y S = (z en S).bind (g2K2 x y) := rfl
theorem g2K2_ap (x y w : D) (S : Sto) : g2K2 x y w S = g2K3 x y w S := rfl
theorem g2K3_some {x y w d : D} {S : Sto} (h : dGetO S x y = some (some d)) : g2K3 x y w S = .ok d S := by
  unfold g2K3
  rw [h]
theorem g2K3_none {x y w : D} {S : Sto} (h : dGetO S x y = some none) : g2K3 x y w S = .ok w S := by
  unfold g2K3
  rw [h]
theorem dGetO_emp {S : Sto} {y : D} {k : List Key} (h : tkeyD y = some k) : dGetO S (.dic [] []) y = some none := by
  unfold dGetO
  simp only [dicOf, h, tkeysD, lookT]
/-! comprehensions -/
noncomputable def dcK1 (g : MG) (t : MT) (k v : ME) (en : En) (its : Its) (S : Sto) : Res (List D × List D) := dcomp g t k v its.P en its.ds ([], []) S
def dcK2 (acc : List D × List D) (S : Sto) : Res D := .ok (.ref S.length) (S ++ [.dic acc.1 acc.2])
noncomputable def dcK0 (g : MG) (t : MT) (k v : ME) (en : En) (its : Its) (S : Sto) : Res D := (dcK1 g t k v en its S).bind dcK2
theorem mDcN_ap (i : MI) (g : MG) (t : MT) (k v : ME) (vs : List Nat) (en : En) (S : Sto) : mDcN i g t k v vs en S = (i en S).bind (dcK0 g t k v (wipeE en vs)) := rfl
theorem dcK0_ap (g : MG) (t : MT) (k v : ME) (en : En) (ds : List D) (P : Sto → Prop) (S : Sto) : dcK0 g t k v en ⟨ds, P⟩ S = (dcomp g t k v P en ds ([], []) S).bind dcK2 := rfl
theorem dcK2_ap (a b : List D) (S : Sto) : dcK2 (a, b) S = .ok (.ref S.length) (S ++ [.dic a b]) := rfl
/-! d[k] = v -/
def kpK3 (en : En) (d x y : D) (S : Sto) : Res Fl := match x, keyD y with
  | .ref i, some k => match S[i]? with
    | some (.dic ks ds) => match keysD ks with
      | some qs => if ks.isEmpty = false ∧ ks.length < sizeLine then .ok (.nx en) (S.set i (putKD ks qs ds y k d)) else .bad
      | none => .bad
    | _ => .bad
  | _, _ => .bad
def kpK2 (k : ME) (en : En) (d x : D) (S : Sto) : Res Fl := (k en S).bind (kpK3 en d x)
def kpK1 (o k : ME) (en : En) (d : D) (S : Sto) : Res Fl := (o en S).bind (kpK2 k en d)
theorem sKPutS_ap (o k e : ME) (en : En) (S : Sto) : sKPutS o k e en S = (e en S).bind (kpK1 o k en) := rfl
theorem kpK1_ap (o k : ME) (en : En) (d : D) (S : Sto) : kpK1 o k en d S = (o en S).bind (kpK2 k en d) := rfl
theorem kpK2_ap (k : ME) (en : En) (d x : D) (S : Sto) : kpK2 k en d x S = (k en S).bind (kpK3 en d x) := rfl
theorem kpK3_ok {en : En} {d y : D} {i : Nat} {S : Sto} {ks ds : List D} {k : Key} {qs : List Key} (h1 : S[i]? = some (.dic ks ds)) (h2 : keyD y = some k) (h3 : keysD ks = some qs) (h4 : ks.isEmpty = false) (h5 : ks.length < 1000000) :
    kpK3 en d (.ref i) y S = .ok (.nx en) (S.set i (putKD ks qs ds y k d)) := by
  unfold kpK3
  simp only [h2, h1, h3]
  exact if_pos ⟨h4, Nat.lt_of_lt_of_le h5 (by decide)⟩
def dpK3 (en : En) (d x y : D) (S : Sto) : Res Fl := match x, tkeyD y with
  | .ref i, some k => match S[i]? with
    | some (.dic ks ds) => match tkeysD ks with
      | some qs => if ks.length < sizeLine then .ok (.nx en) (S.set i (putT ks qs ds y k d)) else .bad
      | none => .bad
    | _ => .bad
  | _, _ => .bad
def dpK2 (k : ME) (en : En) (d x : D) (S : Sto) : Res Fl := (k en S).bind (dpK3 en d x)
def dpK1 (o k : ME) (en : En) (d : D) (S : Sto) : Res Fl := (o en S).bind (dpK2 k en d)
theorem sDPutS_ap (o k e : ME) (en : En) (S : Sto) : sDPutS o k e en S = (e en S).bind (dpK1 o k en) := rfl
theorem dpK1_ap (o k : ME) (en : En) (d : D) (S : Sto) : dpK1 o k en d S = (o en S).bind (dpK2 k en d) := rfl
theorem dpK2_ap (k : ME) (en : En) (d x : D) (S : Sto) : dpK2 k en d x S = (k en S).bind (dpK3 en d x) := rfl
theorem dpK3_ok {en : En} {d y : D} {i : Nat} {S : Sto} {ks ds : List D} {k : List Key} {qs : List (List Key)} (h1 : S[i]? = some (.dic ks ds)) (h2 : tkeyD y = some k) (h3 : tkeysD ks = some qs) (h5 : ks.length < 1000000) :
    dpK3 en d (.ref i) y S = .ok (.nx en) (S.set i (putT ks qs ds y k d)) := by
  unfold dpK3
  simp only [h2, h1, h3]
  exact if_pos (Nat.lt_of_lt_of_le h5 (by decide))
/-! classes -/
def propK (c : Nat) (F : Fn) (d : D) (S : Sto) : Res D := match insOf S d with
  | some (c', _, _) => if c' = c ∧ F.n = 1 then (F.run [d] S).noex else .bad
  | none => .bad
theorem mProp_ap (c : Nat) (F : Fn) (e : ME) (en : En) (S : Sto) : mProp c F e en S = (e en S).bind (propK c F) := rfl
theorem propK_ins {c : Nat} {F : Fn} {ns : List Str} {ds : List D} {S : Sto} (h : F.n = 1) : propK c F (.ins c ns ds) S = (F.run [.ins c ns ds] S).noex := if_pos ⟨rfl, h⟩
def fldO (f : Str) (ns : List Str) (ds : List D) (S : Sto) : Res D := match lookF f ns ds with
  | some x => .ok x S
  | none => .bad
def fldK (cs : List Nat) (f : Str) (d : D) (S : Sto) : Res D := match insOf S d with
  | some (c, ns, ds) => if c ∈ cs then fldO f ns ds S else .bad
  | none => .bad
theorem mFld_ap (cs : List Nat) (f : Str) (e : ME) (en : En) (S : Sto) : mFld cs f e en S = (e en S).bind (fldK cs f) := by
  unfold mFld
  congr 1
theorem fldK_ins {c : Nat} {f : Str} {ns : List Str} {ds : List D} {S : Sto} : fldK [c] f (.ins c ns ds) S = fldO f ns ds S := if_pos (List.mem_singleton.mpr rfl)
theorem fldO_hd (f : Str) (ns : List Str) (d : D) (ds : List D) (S : Sto) : fldO f (f :: ns) (d :: ds) S = .ok d S := by
  unfold fldO
  rw [lookF, if_pos rfl]
def methK2 (F : Fn) (d : D) (ds : List D) (S : Sto) : Res D := if ds.length + 1 = F.n then F.run (d :: ds) S else .bad
def methK (c : Nat) (x : Str) (F : Fn) (r : MA) (en : En) (d : D) (S : Sto) : Res D := match insOf S d with
  | some (c', ns, _) => if c' = c ∧ x ∉ ns then (r en S).bind (methK2 F d) else .bad
  | none => .bad
theorem mMeth_ap (c : Nat) (x : Str) (F : Fn) (e : ME) (r : MA) (en : En) (S : Sto) : mMeth c x F e r en S = (e en S).bind (methK c x F r en) := rfl
theorem methK_ins {c : Nat} {x : Str} {F : Fn} {r : MA} {en : En} {ns : List Str} {ds : List D} {S : Sto} (h : x ∉ ns) : methK c x F r en (.ins c ns ds) S = (r en S).bind (methK2 F (.ins c ns ds)) := if_pos ⟨rfl, h⟩
theorem methK2_ok {F : Fn} {d : D} {ds : List D} {S : Sto} (h : ds.length + 1 = F.n) : methK2 F d ds S = F.run (d :: ds) S := if_pos h
noncomputable def makeK (c : Nat) (F : Fn) (ds : List D) (S : Sto) : Res D := (mkR c F ds S).frz S
theorem mMake_ap (c : Nat) (F : Fn) (r : MA) (en : En) (S : Sto) : mMake c F r en S = (r en S).bind (makeK c F) := rfl
def fsK1 (cs : List Nat) (f : Str) (en : En) (d x : D) (S : Sto) : Res Fl := match x with
  | .ref i => match S[i]? with
    | some (.ins c ns ds) => if c ∈ cs ∧ ns.length < 1000 then .ok (.nx en) (S.set i (.ins c (putN f ns) (putD f d ns ds))) else .bad
    | _ => .bad
  | _ => .bad
def fsK0 (cs : List Nat) (f : Str) (o : ME) (en : En) (d : D) (S : Sto) : Res Fl := (o en S).bind (fsK1 cs f en d)
theorem sFldS_ap (cs : List Nat) (f : Str) (o e : ME) (en : En) (S : Sto) : sFldS cs f o e en S = (e en S).bind (fsK0 cs f o en) := rfl
theorem fsK0_ap (cs : List Nat) (f : Str) (o : ME) (en : En) (d : D) (S : Sto) : fsK0 cs f o en d S = (o en S).bind (fsK1 cs f en d) := rfl
theorem fsK1_ok {c : Nat} {f : Str} {en : En} {d : D} {i : Nat} {S : Sto} {ns : List Str} {ds : List D} (h1 : S[i]? = some (.ins c ns ds)) (h2 : ns.length < 1000) : fsK1 [c] f en d (.ref i) S = .ok (.nx en) (S.set i (.ins c (putN f ns) (putD f d ns ds))) := by
  unfold fsK1
  simp only [h1]
  exact if_pos ⟨List.mem_singleton.mpr rfl, h2⟩
/-! loops -/
def enumK (d : D) (S : Sto) : Res Its := match seqL S d, seqT d with
  | some ds, _ => .ok ⟨enumD 0 ds, fun S => seqL S d = some ds⟩ S
  | none, some ds => .ok ⟨enumD 0 ds, fun _ => True⟩ S
  | none, none => .bad
theorem iEnum_ap (e : ME) (en : En) (S : Sto) : iEnum e en S = (e en S).bind enumK := rfl
theorem enumK_tup (ds : List D) (S : Sto) : enumK (.tup ds) S = .ok ⟨enumD 0 ds, fun _ => True⟩ S := rfl
theorem enumK_lst (ds : List D) (S : Sto) : enumK (.lst ds) S = .ok ⟨enumD 0 ds, fun _ => True⟩ S := by
  unfold enumK
  simp only [seqL]
def zipK (ds : List D) (S1 : Sto) : Res Its := match ds with
  | [x, y] => match seqL S1 x, seqL S1 y with
    | some xs, some ys => .ok ⟨(xs.zip ys).map fun p => .tup [p.1, p.2], fun S => seqL S x = some xs ∧ seqL S y = some ys⟩ S1
    | _, _ => match seqT x, seqT y with
      | some xs, some ys => .ok ⟨(xs.zip ys).map fun p => .tup [p.1, p.2], fun _ => True⟩ S1
      | _, _ => .bad
  | _ => .bad
theorem iZip_ap (r : MA) (en : En) (S : Sto) : iZip r en S = (r en S).bind zipK := rfl
theorem zipK_tup (xs ys : List D) (S : Sto) : zipK [.tup xs, .tup ys] S = .ok ⟨(xs.zip ys).map fun p => .tup [p.1, p.2], fun _ => True⟩ S := rfl
theorem zipK_lst (xs ys : List D) (S : Sto) : zipK [.lst xs, .lst ys] S = .ok ⟨(xs.zip ys).map fun p => .tup [p.1, p.2], fun _ => True⟩ S := by
  unfold zipK
  simp only [seqL, and_self]
/-! chains -/
def chK4 (g' : Sto → D → D → Option D) (y z : D) (S : Sto) : Res D := optR (g' S y z) S
def chK3 (g' : Sto → D → D → Option D) (c : ME) (en : En) (y : D) (o : Option D) (S : Sto) : Res D := match o with
  | some (.bl true) => (c en S).bind (chK4 g' y)
  | some (.bl false) => .ok (.bl false) S
  | _ => .bad
def chK2 (g g' : Sto → D → D → Option D) (c : ME) (en : En) (x y : D) (S : Sto) : Res D := chK3 g' c en y (g S x y) S
def chK1 (g g' : Sto → D → D → Option D) (b c : ME) (en : En) (x : D) (S : Sto) : Res D := (b en S).bind (chK2 g g' c en x)
theorem mChain_ap (g g' : Sto → D → D → Option D) (a b c : ME) (en : En) (S : Sto) : mChain g g' a b c en S = (a en S).bind (chK1 g g' b c en) := by
  show (a en S).bind _ = _
  refine congrArg _ (funext fun x => funext fun S1 => ?_)
  show (b en S1).bind _ = (b en S1).bind _
  refine congrArg _ (funext fun y => funext fun S2 => ?_)
  unfold chK2
  cases g S2 x y with
  | none => rfl
  | some d =>
    cases d with
    | bl k =>
      cases k with
      | false => rfl
      | true =>
        show (c en S2).bind _ = (c en S2).bind _
        refine congrArg _ (funext fun z => funext fun S3 => ?_)
        unfold chK4
        cases g' S3 y z <;> rfl
    | _ => rfl
theorem chK1_ap (g g' : Sto → D → D → Option D) (b c : ME) (en : En) (x : D) (S : Sto) : chK1 g g' b c en x S = (b en S).bind (chK2 g g' c en x) := rfl
theorem chK2_ap (g g' : Sto → D → D → Option D) (c : ME) (en : En) (x y : D) (S : Sto) : chK2 g g' c en x y S = chK3 g' c en y (g S x y) S := rfl
theorem chK3_t (g' : Sto → D → D → Option D) (c : ME) (en : En) (y : D) (S : Sto) : chK3 g' c en y (some (.bl true)) S = (c en S).bind (chK4 g' y) := rfl
theorem chK3_f (g' : Sto → D → D → Option D) (c : ME) (en : En) (y : D) (S : Sto) : chK3 g' c en y (some (.bl false)) S = .ok (.bl false) S := rfl
theorem chK4_ap (g' : Sto → D → D → Option D) (y z : D) (S : Sto) : chK4 g' y z S = optR (g' S y z) S := rfl
def par3K (i j l : Nat) (en : En) (ds : List D) (S : Sto) : Res Fl := match ds with
  | [x, y, z] => .ok (.nx (((en.set i (some x)).set j (some y)).set l (some z))) S
  | _ => .bad
theorem sPar3_ap (i j l : Nat) (r : MA) (en : En) (S : Sto) : sPar3 i j l r en S = (r en S).bind (par3K i j l en) := rfl
theorem par3K_ap (i j l : Nat) (en : En) (x y z : D) (S : Sto) : par3K i j l en [x, y, z] S = .ok (.nx (((en.set i (some x)).set j (some y)).set l (some z))) S := rfl
def raiK (c : Nat) (ns : List Str) (ds : List D) (S : Sto) : Res Fl := if ds.length = ns.length then .ex c ns ds.reverse S else .bad
theorem sRaise_ap (c : Nat) (ns : List Str) (r : MA) (en : En) (S : Sto) : sRaise c ns r en S = (r en S).bind (raiK c ns) := rfl
theorem raiK_ok {c : Nat} {ns : List Str} {ds : List D} {S : Sto} (h : ds.length = ns.length) : raiK c ns ds S = .ex c ns ds.reverse S := if_pos h
/-! ends of defs -/
theorem frzF_run (F : Fn) (ds : List D) (S : Sto) : (frzF F).run ds S = (F.run ds S).frz S := rfl
theorem frzF_n (F : Fn) : (frzF F).n = F.n := rfl
theorem frz_new {S S' : Sto} {i : Nat} {o : Ob} (h1 : S.length ≤ i) (h2 : S'[i]? = some o) (h3 : Cl S S') (h4 : o.bel S.length) : (Res.ok (.ref i) S').frz S = .ok o.d (S'.take S.length) := by
  unfold Res.frz
  simp only [h2]
  rw [if_neg (by omega), if_pos ⟨h3, h4⟩]
theorem frz_app {S : Sto} {o : Ob} (h : o.bel S.length) : (Res.ok (.ref S.length) (S ++ [o])).frz S = .ok o.d S := by
  rw [frz_new (Nat.le_refl _) (by simp) (Cl.app _ _) h]
  simp
theorem frz_dic {S S' : Sto} {ks ds : List D} : (Res.ok (.dic ks ds) S').frz S = (Res.ok (.dic ks ds) S').drop S := rfl
open Classical in
theorem drop_ok {S S' : Sto} {d : D} (h1 : Cl S S') (h2 : d.bel S.length) : (Res.ok d S').drop S = .ok d (S'.take S.length) := by
  show (if Cl S S' ∧ D.bel S.length d then Res.ok d (S'.take S.length) else Res.bad) = _
  rw [if_pos ⟨h1, h2⟩]
theorem drop_app {S T : Sto} {d : D} (h : d.bel S.length) : (Res.ok d (S ++ T)).drop S = .ok d S := by
  rw [drop_ok (Cl.app _ _) h]
  simp
theorem mk_init {c : Nat} {F : Fn} {ds : List D} {S : Sto} {ns : List Str} {vs : List D} (hn : ds.length + 1 = F.n) (h : F.run (.ref S.length :: ds) (S ++ [.ins c [] []]) = .ok .non (S ++ [.ins c ns vs])) (hb : D.bels S.length vs) : makeK c F ds S = .ok (.ins c ns vs) S := by
  unfold makeK mkR
  rw [if_pos hn, h, Res.bind_ok]
  simp only
  rw [frz_app (o := .ins c ns vs) (by simpa only [Ob.bel] using hb)]
  rfl
/-! objects of the store behind the given ones -/
theorem getA {S T : Sto} {n : Nat} (h : S.length = n) : (S ++ T)[n]? = T[0]? := by
  rw [← h, List.getElem?_append_right (Nat.le_refl _), Nat.sub_self]
theorem getA1 {S T : Sto} {n k : Nat} (h : S.length = n) : (S ++ T)[n + k]? = T[k]? := by
  rw [← h, List.getElem?_append_right (Nat.le_add_right _ _), Nat.add_sub_cancel_left]
theorem setA {S T : Sto} {n : Nat} {o : Ob} (h : S.length = n) : (S ++ T).set n o = S ++ T.set 0 o := by
  rw [← h, List.set_append_right _ _ (Nat.le_refl _), Nat.sub_self]
theorem setA1 {S T : Sto} {n k : Nat} {o : Ob} (h : S.length = n) : (S ++ T).set (n + k) o = S ++ T.set k o := by
  rw [← h, List.set_append_right _ _ (Nat.le_add_right _ _), Nat.add_sub_cancel_left]
theorem getB {S T : Sto} {i : Nat} (h : i < S.length) : (S ++ T)[i]? = S[i]? := List.getElem?_append_left h
theorem setB {S T : Sto} {i : Nat} {o : Ob} (h : i < S.length) : (S ++ T).set i o = S.set i o ++ T := List.set_append_left _ _ h
/-! values -/
theorem dIdxA_idx {S : Sto} {x y d : D} (h : dIdx S x y = some d) : dIdxA S x y = some d := by
  unfold dIdxA
  rw [h]
theorem dIdxA_tup (S : Sto) (ds : List D) (i : Int) : dIdxA S (.tup ds) (.int i) = atI ds i := by
  unfold dIdxA
  rw [dIdx_tup]
  cases atI ds i with
  | some d => rfl
  | none => simp [dIdxG, dGetO, kGetO, dicOf]
theorem dIdxA_lst (S : Sto) (ds : List D) (i : Int) : dIdxA S (.lst ds) (.int i) = atI ds i := by
  unfold dIdxA
  rw [dIdx_lst]
  cases atI ds i with
  | some d => rfl
  | none => simp [dIdxG, dGetO, kGetO, dicOf]
theorem dIdx_tk {S : Sto} {x y : D} {k : List Key} (h : tkeyD y = some k) : dIdx S x y = none := by
  cases y <;> simp [tkeyD] at h <;> rfl
theorem dIdxA_get {S : Sto} {x y d : D} {k : List Key} (h1 : tkeyD y = some k) (h : dGetO S x y = some (some d)) : dIdxA S x y = some d := by
  unfold dIdxA
  rw [dIdx_tk h1]
  simp only [dIdxG, h]
theorem dIdxA_key {S : Sto} {x d : D} {z : Str} (h : kGetO S x (.str z) = some (some d)) : dIdxA S x (.str z) = some d := by
  unfold dIdxA
  have e : dIdx S x (.str z) = none := rfl
  have e2 : dGetO S x (.str z) = none := by
    unfold dGetO
    cases dicOf S x <;> simp [tkeyD]
  rw [e]
  simp only [dIdxG, e2, h]
theorem dLe_int (S : Sto) (i j : Int) : dLe S (.int i) (.int j) = some (.bl (decide (i ≤ j))) := by
  unfold dLe
  simp only [pdv_int, sh_int, and_self, if_true, pLe, Option.map_some]
theorem tkey2 (a b : Int) : tkeyD (.tup [.int a, .int b]) = some [.inl a, .inl b] := rfl
theorem isi_int_int (S : Sto) (i : Int) : dIsi S [.int i, .ty "int"] = some (.bl true) := by
  show ((tyN S (.int i)).bind fun n => kitB n "int").map D.bl = _
  have e : (tyN S (.int i)) = some "int" := rfl
  rw [e]
  have k : kitB "int" "int" = some true := by decide +kernel
  simp only [Option.bind_some, k, Option.map_some]
theorem isi_int_bool (S : Sto) (i : Int) : dIsi S [.int i, .ty "bool"] = some (.bl false) := by
  show ((tyN S (.int i)).bind fun n => kitB n "bool").map D.bl = _
  have e : (tyN S (.int i)) = some "int" := rfl
  rw [e]
  have k : kitB "int" "bool" = some false := by decide +kernel
  simp only [Option.bind_some, k, Option.map_some]
theorem isi_tup_tup (S : Sto) (ds : List D) : dIsi S [.tup ds, .ty "tuple"] = some (.bl true) := by
  show ((tyN S (.tup ds)).bind fun n => kitB n "tuple").map D.bl = _
  have e : (tyN S (.tup ds)) = some "tuple" := rfl
  rw [e]
  have k : kitB "tuple" "tuple" = some true := by decide +kernel
  simp only [Option.bind_some, k, Option.map_some]
theorem isi_str_str (S : Sto) (z : Str) : dIsi S [.str z, .ty "str"] = some (.bl true) := by
  show ((tyN S (.str z)).bind fun n => kitB n "str").map D.bl = _
  have e : (tyN S (.str z)) = some "str" := rfl
  rw [e]
  have k : kitB "str" "str" = some true := by decide +kernel
  simp only [Option.bind_some, k, Option.map_some]
theorem noex_ok' {α : Type} (a : α) (S : Sto) : (Res.ok a S).noex = .ok a S := rfl
end G
end
section
set_option Elab.async false
set_option linter.all false
set_option maxRecDepth 100000
set_option maxHeartbeats 2000000
/-! G36: loops and comprehensions over typed rows; ends of defs -/
namespace G
open PySem L2
theorem Wp.eq {α : Type} {r : Res α} {d : α} {S : Sto} (h : Wp r fun d' S' => d' = d ∧ S' = S) : r = .ok d S := by
  obtain ⟨a, S', e, rfl, rfl⟩ := h.ok_of
  exact e
theorem drop_of {r : Res D} {d : D} {S : Sto} (h : Wp r fun d' S' => d' = d ∧ ∃ T, S' = S ++ T) (hb : d.bel S.length) : r.drop S = .ok d S := by
  obtain ⟨a, S', e, rfl, T, rfl⟩ := h.ok_of
  rw [e, drop_app hb]
theorem frz_of {r : Res D} {o : Ob} {S : Sto} (k : Nat) (h : Wp r fun d' S' => ∃ T, S' = S ++ T ∧ T[k]? = some o ∧ d' = .ref (S.length + k)) (hb : o.bel S.length) : r.frz S = .ok o.d S := by
  obtain ⟨a, S', e, T, rfl, ht, rfl⟩ := h.ok_of
  rw [e, frz_new (Nat.le_add_right _ _) (by rw [getA1 rfl]; exact ht) (Cl.app _ _) hb]
  simp
theorem frz_ofD {r : Res D} {ks ds : List D} {S : Sto} (h : Wp r fun d' S' => d' = .dic ks ds ∧ ∃ T, S' = S ++ T) (hb : (D.dic ks ds).bel S.length) : r.frz S = .ok (.dic ks ds) S := by
  obtain ⟨a, S', e, rfl, T, rfl⟩ := h.ok_of
  rw [e, frz_dic, drop_app hb]
/-- a comprehension over a typed row, the store left alone -/
theorem comp_map {α : Type} {g : MG} {t : MT} {e : ME} {en : En} {S : Sto} {f0 f : α → D} {p : α → Bool} : ∀ (l : List α) (acc : List D),
    (∀ a ∈ l, ∃ en1, g (f0 a) en = some en1 ∧ t en1 S = .ok (p a) S ∧ (p a = true → e en1 S = .ok (f a) S)) → acc.length + l.length ≤ 1000000 →
    comp g t e (fun _ => True) en (l.map f0) acc S = .ok (acc ++ (l.filter p).map f) S
  | [], acc, _, _ => by rw [List.map_nil, comp_nil_ap]; simp
  | a :: l, acc, h, hl => by
    obtain ⟨en1, h1, h2, h3⟩ := h a (by simp)
    rw [List.map_cons, comp_cons_ap, h1, cK0_some, h2]
    simp only [noex_ok, Res.bind_ok]
    simp only [List.length_cons] at hl
    cases hp : p a with
    | false =>
      rw [cK1_f, comp_map l acc (fun x hx => h x (by simp [hx])) (by omega), List.filter_cons_of_neg (by simp [hp])]
    | true =>
      rw [cK1_t, h3 hp]
      simp only [noex_ok, Res.bind_ok]
      rw [cK2_ap (by omega), comp_map l (acc ++ [f a]) (fun x hx => h x (by simp [hx])) (by simp; omega), List.filter_cons_of_pos hp]
      simp
/-- .. all of them -/
theorem comp_all {α : Type} {g : MG} {e : ME} {en : En} {S : Sto} {f0 f : α → D} (l : List α) (h : ∀ a ∈ l, ∃ en1, g (f0 a) en = some en1 ∧ e en1 S = .ok (f a) S) (hl : l.length ≤ 1000000) :
    comp g tYesM e (fun _ => True) en (l.map f0) [] S = .ok (l.map f) S := by
  rw [comp_map (p := fun _ => true) (f := f) l [] (fun a ha => by obtain ⟨en1, h1, h2⟩ := h a ha; exact ⟨en1, h1, rfl, fun _ => h2⟩) (by simpa using hl)]
  rw [List.nil_append, List.filter_eq_self.mpr (fun _ _ => rfl)]
/-- a comprehension that draws -/
theorem Wp_comp {α : Type} {g : MG} {e : ME} {en : En} {f0 : α → D} {Q : List D → Sto → Prop} (I : List D → Sto → Prop) : ∀ (l : List α) (acc : List D) (S : Sto),
    I acc S → (∀ a ∈ l, ∀ acc S, I acc S → ∃ en1, g (f0 a) en = some en1 ∧ Wp (e en1 S) fun d S1 => I (acc ++ [d]) S1) → acc.length + l.length ≤ 1000000 → (∀ acc S, I acc S → Q acc S) →
    Wp (comp g tYesM e (fun _ => True) en (l.map f0) acc S) Q
  | [], acc, S, h0, _, _, q => by rw [List.map_nil, comp_nil_ap]; exact q acc S h0
  | a :: l, acc, S, h0, h, hl, q => by
    obtain ⟨en1, h1, h2⟩ := h a (by simp) acc S h0
    simp only [List.length_cons] at hl
    rw [List.map_cons, comp_cons_ap, h1, cK0_some, tYesM_ap]
    simp only [noex_ok, Res.bind_ok, cK1_t]
    obtain ⟨d, S1, e1, e2⟩ := h2.ok_of
    rw [e1]
    simp only [noex_ok, Res.bind_ok]
    rw [cK2_ap (by omega)]
    exact Wp_comp I l (acc ++ [d]) S1 e2 (fun x hx => h x (by simp [hx])) (by simp; omega) q
/-- a dict comprehension over a typed row of new keys -/
theorem dcomp_map {α : Type} {g : MG} {k v : ME} {en : En} {S : Sto} {f0 kf vf : α → D} {q : α → List Key} : ∀ (l pre : List α),
    (∀ a ∈ l, ∃ en1, g (f0 a) en = some en1 ∧ k en1 S = .ok (kf a) S ∧ v en1 S = .ok (vf a) S) → (∀ a, tkeyD (kf a) = some (q a)) → ((pre ++ l).map q).Nodup → pre.length + l.length ≤ 1000000 →
    dcomp g tYesM k v (fun _ => True) en (l.map f0) (pre.map kf, pre.map vf) S = .ok ((pre ++ l).map kf, (pre ++ l).map vf) S
  | [], pre, _, _, _, _ => by
    rw [List.map_nil, dcomp, if_pos trivial]
    simp
  | a :: l, pre, h, hk, nd, hl => by
    obtain ⟨en1, h1, h2, h3⟩ := h a (by simp)
    simp only [List.length_cons] at hl
    have tks : ∀ l : List α, tkeysD (l.map kf) = some (l.map q) := fun l => by
      induction l with
      | nil => rfl
      | cons b l ih => simp only [List.map_cons, tkeysD, hk, ih]
    have nin : hasK (q a) (pre.map q) = false := by
      unfold hasK
      rw [List.any_eq_false]
      intro x hx
      simp only [decide_eq_true_eq]
      intro e
      subst e
      rw [List.map_append, List.nodup_append] at nd
      exact nd.2.2 _ hx _ (by simp) rfl
    rw [List.map_cons, dcomp, if_pos trivial, h1]
    simp only [tYesM_ap, noex_ok, Res.bind_ok, h2, h3]
    rw [if_pos (Nat.lt_of_lt_of_le (by simp; omega : (pre.map kf).length < 1000000) (by decide))]
    have e : putP (pre.map kf) (pre.map vf) (kf a) (vf a) = some ((pre ++ [a]).map kf, (pre ++ [a]).map vf) := by
      unfold putP
      simp only [tks, hk, nin, Bool.false_eq_true, if_false, List.map_append, List.map_cons, List.map_nil]
    rw [e]
    simp only
    rw [dcomp_map l (pre ++ [a]) (fun x hx => h x (by simp [hx])) hk (by simpa using nd) (by simp; omega)]
    simp
/-- a loop over a typed row by its invariant -/
theorem Wp_for {α : Type} {g : MG} {b : MS} {f0 : α → D} {l : List α} {en : En} {S : Sto} {Q : Fl → Sto → Prop} (I : List α → En → Sto → Prop) (h0 : I [] en S)
    (turn : ∀ (pre : List α) (a : α) (suf : List α) (en : En) (S : Sto), l = pre ++ a :: suf → I pre en S → ∃ en1, g (f0 a) en = some en1 ∧ Wp (b en1 S) fun f S1 => match f with
      | .nx en2 => I (pre ++ [a]) en2 S1
      | .ct en2 => I (pre ++ [a]) en2 S1
      | .bk en2 => Q (.nx en2) S1
      | .rt d => Q (.rt d) S1)
    (done : ∀ en S, I l en S → Q (.nx en) S) : Wp (loop g b (fun _ => True) (l.map f0) en S) Q := by
  have key : ∀ (suf pre : List α) (en : En) (S : Sto), l = pre ++ suf → I pre en S → Wp (loop g b (fun _ => True) (suf.map f0) en S) Q := by
    intro suf
    induction suf with
    | nil =>
      intro pre en S hl h
      rw [List.map_nil, loop_nil]
      refine done en S ?_
      rw [hl, List.append_nil]
      exact h
    | cons a suf ih =>
      intro pre en S hl h
      rw [List.map_cons, loop_cons]
      obtain ⟨en1, e1, w⟩ := turn pre a suf en S hl h
      rw [e1, stepR_some, Wp_bind]
      refine w.mono fun f S1 q => ?_
      cases f with
      | nx en2 => exact ih (pre ++ [a]) en2 S1 (by simp [hl]) q
      | ct en2 => exact ih (pre ++ [a]) en2 S1 (by simp [hl]) q
      | bk en2 => exact q
      | rt d => exact q
  exact key l [] en S rfl h0
theorem rangeD_map (n : Nat) : rangeD 0 n = (List.range n).map fun k => D.int (k : Nat) := by
  unfold rangeD
  refine List.map_congr_left fun k _ => ?_
  rw [Int.zero_add]
theorem enumD_map {α : Type} (f : α → D) : ∀ (n : Nat) (l : List α), enumD n (l.map f) = (l.zipIdx n).map fun p => D.tup [.int (p.2 : Nat), f p.1]
  | _, [] => rfl
  | n, a :: l => by simp only [List.map_cons, enumD, List.zipIdx_cons, enumD_map f (n + 1) l]
theorem zip_mapD {α β : Type} (f : α → D) (h : β → D) (l : List α) (m : List β) : ((l.map f).zip (m.map h)).map (fun p => D.tup [p.1, p.2]) = (l.zip m).map fun p => D.tup [f p.1, h p.2] := by
  rw [List.zip_map, List.map_map]
  rfl
theorem rg1K_nat {n : Nat} {S : Sto} (h : n ≤ 1000000) : rg1K [.int (n : Nat)] S = .ok ⟨(List.range n).map fun k => D.int (k : Nat), fun _ => True⟩ S := by
  rw [rg1K_ok (by omega), Int.toNat_natCast, rangeD_map]
theorem dTuple_ref {S : Sto} {i : Nat} {ds : List D} (h : S[i]? = some (.lst ds)) : dTuple S [.ref i] = some (.tup ds) := by
  unfold dTuple
  simp only [seqL, h]
theorem dLen_ref {S : Sto} {i : Nat} {ds : List D} (h : S[i]? = some (.lst ds)) : dLen S [.ref i] = some (.int ds.length) := by
  unfold dLen
  simp only [seqL, h]
theorem getA0 (S T : Sto) : (S ++ T)[S.length]? = T[0]? := getA rfl
theorem getAk (S T : Sto) (k : Nat) : (S ++ T)[S.length + k]? = T[k]? := getA1 rfl
theorem setA0 (S T : Sto) (o : Ob) : (S ++ T).set S.length o = S ++ T.set 0 o := setA rfl
theorem setAk (S T : Sto) (k : Nat) (o : Ob) : (S ++ T).set (S.length + k) o = S ++ T.set k o := setA1 rfl
theorem lenA (S T : Sto) : (S ++ T).length = S.length + T.length := List.length_append
theorem appA (S T U : Sto) : (S ++ T) ++ U = S ++ (T ++ U) := List.append_assoc _ _ _
end G
end
section
set_option Elab.async false
set_option linter.all false
set_option maxRecDepth 100000
set_option maxHeartbeats 2000000
/-! G37: a list backwards -/
namespace G
open PySem L2
theorem Reps.rev {B : Bas} {m : Mp} : ∀ {ds : List D} {vs : List V}, Reps B m ds vs → Reps B m ds.reverse vs.reverse
  | [], vs, h => by
    simp only [Reps] at h
    subst h
    simp [Reps]
  | d :: ds, vs, h => by
    simp only [Reps] at h
    obtain ⟨v, r, rfl, h1, h2⟩ := h
    rw [List.reverse_cons, List.reverse_cons]
    exact (Reps.rev h2).append (by simp only [Reps]; exact ⟨v, [], rfl, h1, rfl⟩)
noncomputable def dRev (S : Sto) (x : D) : Option D := (seqL S x).map fun ds => .lst ds.reverse
theorem de_rev {X : Cx} {B : Bas} {W : WX} {e : Expr} {k : Nat} {p1 p2 p3 pos : Pos} {me : ME} (hK : B.K = X.K := by rfl) (he : PE X e (tE B W me)) :
    PE X (.Subscript e (.Slice none none (some (.UnaryOp .USub (.Constant (.int 1) k p1) p2)) p3) pos) (tE B W (mUn dRev me)) := PE.cut (pe_revL he) fun σ H Q ⟨m, S, en, s, c, er, p⟩ => ⟨m, S, en, s, c, er, (Post.bind p).imp (by
  rintro v H1 ⟨d, S1, m1, _, l1, c1, r1, p1⟩
  rw [← hK]
  cases h : dRev S1 d with
  | none => rw [h] at p1; exact p1.elim
  | some x =>
    rw [h] at p1
    unfold dRev at h
    cases h1 : seqL S1 d with
    | none => rw [h1] at h; cases h
    | some ds =>
      rw [h1] at h
      cases h
      obtain ⟨q, vs, rfl, t, rs⟩ := repL l1.sub c1 r1 h1
      exact ⟨q, vs, rfl, t, q_lst l1.sub c1 p1 rs.rev⟩)⟩
theorem dRev_lst (S : Sto) (ds : List D) : dRev S (.lst ds) = some (.lst ds.reverse) := by unfold dRev; rfl
theorem dRev_ref {S : Sto} {n : Nat} {ds : List D} (h : S[n]? = some (.lst ds)) : dRev S (.ref n) = some (.lst ds.reverse) := by
  have e : seqL S (.ref n) = some ds := by
    simp only [seqL, h]
  unfold dRev
  rw [e]
  rfl
/-! is of bools -/
def dIsB (_ : Sto) (x y : D) : Option D := match x, y with
  | .bl a, .bl b => some (.bl (decide (a = b)))
  | _, _ => none
def dIsNotB (_ : Sto) (x y : D) : Option D := match x, y with
  | .bl a, .bl b => some (.bl (!decide (a = b)))
  | _, _ => none
theorem op2_isB {B : Bas} : Op2 B rIsB dIsB := fun m S H x y d1 d2 d s c r1 r2 e Q q => by
  unfold dIsB at e
  split at e
  · cases e
    exact ⟨_, _, r1.bl_eq, r2.bl_eq, q_val s c q (rp_bl m)⟩
  · cases e
theorem op2_isNotB {B : Bas} : Op2 B rNotB dIsNotB := fun m S H x y d1 d2 d s c r1 r2 e Q q => by
  unfold dIsNotB at e
  split at e
  · cases e
    exact ⟨_, _, r1.bl_eq, r2.bl_eq, q_val s c q (rp_bl m)⟩
  · cases e
theorem dIsB_bl (S : Sto) (a b : Bool) : dIsB S (.bl a) (.bl b) = some (.bl (decide (a = b))) := by unfold dIsB; rfl
theorem dIsNotB_bl (S : Sto) (a b : Bool) : dIsNotB S (.bl a) (.bl b) = some (.bl (!decide (a = b))) := by unfold dIsNotB; rfl
theorem dIsNotB_tt (S : Sto) : dIsNotB S (.bl true) (.bl true) = some (.bl false) := by unfold dIsNotB; rfl
theorem dIsNotB_ff (S : Sto) : dIsNotB S (.bl false) (.bl false) = some (.bl false) := by unfold dIsNotB; rfl
theorem dIsB_tt (S : Sto) : dIsB S (.bl true) (.bl true) = some (.bl true) := by unfold dIsB; rfl
theorem dIsB_ff (S : Sto) : dIsB S (.bl false) (.bl false) = some (.bl true) := by unfold dIsB; rfl
theorem dIsB_tf (S : Sto) : dIsB S (.bl true) (.bl false) = some (.bl false) := by unfold dIsB; rfl
theorem dIsB_ft (S : Sto) : dIsB S (.bl false) (.bl true) = some (.bl false) := by unfold dIsB; rfl
end G
end
section
set_option Elab.async false
set_option linter.all false
set_option maxRecDepth 100000
set_option maxHeartbeats 3200000
/-! G38: sorted(xs), xs a list or a tuple of nested keys, each once; or a list of ints -/
namespace G
open PySem L2 PyProof.Rows PySem.W
section
variable {X : Cx}
def rSortL (K : PySem.W.Frag) : List V → Hp → VK → Prop := fun vs H Q => ∃ (a : Addr) (L : Ks), vs = [V.ref a] ∧ (SqL K H a (L.map fun p => V.ref p.1) ∨ SqT K H a (L.map fun p => V.ref p.1)) ∧ (∀ p ∈ L, Dp K H (.ref p.1) p.2.data) ∧ Formed L ∧ (∀ p ∈ L, p.2.data.canLay0 = true) ∧ (∀ p ∈ L, p.2.data.depth ≤ 8 ∧ p.2.depth ≤ 8) ∧
  (∀ p ∈ L, ∀ r ∈ L, ∃ b, pLt p.2.data r.2.data = some b) ∧ L.length ≤ 1000 ∧ (L.map (·.2)).Nodup ∧
  ∀ (M : Ks) (p : Addr), (∀ r, r ∈ M ↔ r ∈ L) → M.Pairwise (fun p r => dataLt p.2.data r.2.data = true) → H p = none → Q (.ref p) (upd H p (.lst (M.map fun r => V.ref r.1)))
theorem cr_sortL (hu : X.A.units + 64 < cLine) : CallR X (.builtin "sorted") (rSortL X.K) := by
  intro pins s σ H vs us Q I r h
  obtain ⟨a, L, rfl, ha, hk, hf, hok, hd, hcmp, few, once, q⟩ := h
  have rd : ∀ p ∈ L, ∃ as, Reads s.heap (.ref p.1) p.2.data as := fun p hp => Dp.reads I _ _ _ (hk p hp) rfl
  have ks : ∀ p ∈ L, KeyAt s.heap p.2 p.1 := fun p hp => by
    obtain ⟨as, r⟩ := rd p hp
    exact ⟨nested_reads _ _ _ r, (hd p hp).2⟩
  have sq : SeqIs s.heap a (L.map fun p => Value.ref p.1).toArray := by
    rcases ha with ha | ha
    · obtain ⟨its, rv, pl, hz⟩ := I.list ha
      obtain ⟨o, ho, hc, n, hd⟩ := pl.isList
      exact ⟨o, "list", n, ho, hc, .inl rfl, by rw [hd, ks_vals rv]⟩
    · obtain ⟨its, rv, pl, hz⟩ := I.tuple ha
      obtain ⟨o, ho, hc, n, hd⟩ := (show s.heap.IsTuple a its.toArray from pl)
      exact ⟨o, "tuple", n, ho, hc, .inr rfl, by rw [hd, ks_vals rv]⟩
  rw [Vals.ref1 r]
  refine sorted_seq_keys sq once ks (by omega) few ⟨hf, rd, hok, fun p hp => (hd p hp).1, hcmp⟩ fun s' p out c M k g o hp hg hout mem len asc => ?_
  have hlen : (M.map fun r => V.ref r.1).length ≤ sizeLine := by rw [List.length_map, sizeLine_eq]; omega
  have hn : H p = none := I.hok.fresh hp
  have hv : Vals (M.map fun r => V.ref r.1) out.toList := by rw [hout]; exact vals_ks M
  have J : Inv X pins σ (upd H p (.lst (M.map fun r => V.ref r.1))) { s with heap := s'.heap, gens := s'.gens, drawn := s'.drawn, toks := s'.toks } :=
    I.call (ch := []) (Un.laid k hp hn) (I.hok.laid k hp ⟨hlen, out.toList, c, hv, hg⟩) (by rw [g]; exact I.bare) (fun _ z => nomatch z)
  have e : s' = { s with heap := s'.heap, gens := s'.gens, drawn := s'.drawn, toks := s'.toks } := by
    cases s'
    cases s
    cases o
    rfl
  rw [e]
  exact ⟨.ref p, _, J, rfl, q M p mem asc hn⟩
end
structure SortOkL (ks : List NK) : Prop where
  few : ks.length ≤ 1000
  form : FormK ks
  ok : ∀ k ∈ ks, k.data.canLay0 = true
  dp : ∀ k ∈ ks, k.data.depth ≤ 8 ∧ k.depth ≤ 8
  cmp : CmpK ks
  once : ks.Nodup
open Classical in
noncomputable def dSortL (S : Sto) : List D → Option D
  | [x] => match seqA S x with
    | some ds => match nkDs ds with
      | some ks => if SortOkL ks then some (.lst (dOfs (sortK ks))) else none
      | none => none
    | none => none
  | _ => none
theorem pd_keys : ∀ (its : List D) (ks : List NK), nkDs its = some ks → ∀ k ∈ ks, pd (dOf k) = some k.data := by
  intro its
  induction its with
  | nil => intro ks h k hk; simp only [nkDs] at h; cases h; exact absurd hk List.not_mem_nil
  | cons d its ih =>
    intro ks h k hk
    simp only [nkDs] at h
    cases g1 : nkD d with
    | none => rw [g1] at h; cases h
    | some k0 =>
      cases g2 : nkDs its with
      | none => rw [g1, g2] at h; cases h
      | some ks' =>
        rw [g1, g2] at h
        cases h
        rcases List.mem_cons.mp hk with z | z
        · obtain ⟨f1, f2⟩ := nkD_dOf d k0 g1
          rw [z, ← f1]
          exact f2
        · exact ih ks' g2 k z
theorem opn_sortL {B : Bas} : OpN B (rSortL B.K) dSortL := fun m S H xs ds d s c r e Q q => by
  unfold dSortL at e
  split at e
  · rename_i x
    cases h1 : seqA S x with
    | none => rw [h1] at e; cases e
    | some its =>
      rw [h1] at e
      cases h2 : nkDs its with
      | none => simp only [h2] at e; cases e
      | some ks =>
        simp only [h2] at e
        split at e
        · rename_i ok
          cases e
          obtain ⟨v, rfl, rv⟩ := r.one
          obtain ⟨l, vs, rfl, hl, rs⟩ := repA s c rv h1
          have isT : ∀ k ∈ ks, ∃ r, k = .tup r := fun k hk => by
            rcases ok.form with f | f
            · obtain ⟨_, _, e⟩ := f k hk; exact ⟨_, e⟩
            · obtain ⟨_, _, e⟩ := f k hk; exact ⟨_, e⟩
          obtain ⟨L, e1, e2, e3⟩ := Reps.dp_keys s rs h2 isT
          have inK : ∀ p ∈ L, p.2 ∈ ks := fun p hp => by rw [← e2]; exact List.mem_map.mpr ⟨p, hp, rfl⟩
          have dp : ∀ p ∈ L, Dp B.K H (.ref p.1) p.2.data := fun p hp => (e3 p hp).dp s (pd_keys its ks h2 p.2 (inK p hp))
          refine ⟨l, L, rfl, by rw [← e1]; exact hl, dp, ?_, fun p hp => ok.ok _ (inK p hp), fun p hp => ok.dp _ (inK p hp), fun p hp r hr => ok.cmp _ (inK p hp) _ (inK r hr), by rw [← List.length_map (·.2), e2]; exact ok.few, by rw [e2]; exact ok.once, fun M p mem asc hp => ?_⟩
          · rcases ok.form with f | f
            · exact .inl fun p hp => f _ (inK p hp)
            · exact .inr fun p hp => f _ (inK p hp)
          · have eM : sortK ks = M.map (·.2) := by
              refine asc_uniq _ _ (sortK_asc ok.cmp) (List.pairwise_map.mpr asc) fun k => ?_
              rw [mem_sortK]
              constructor
              · intro hk
                rw [← e2] at hk
                obtain ⟨p, hp, rfl⟩ := List.mem_map.mp hk
                exact List.mem_map.mpr ⟨p, (mem p).mpr hp, rfl⟩
              · intro hk
                obtain ⟨p, hp, rfl⟩ := List.mem_map.mp hk
                exact inK p ((mem p).mp hp)
            have rM : Reps B m (dOfs (sortK ks)) (M.map fun p => V.ref p.1) := by
              rw [eM]
              exact reps_keys M fun p hp => e3 p ((mem p).mp hp)
            exact q_lst s c q rM p hp
        · cases e
  · cases e
/-! one item, or none -/
theorem perm_le1 {α : Type} : ∀ {l m : List α}, l.Perm m → m.length ≤ 1 → l = m
  | l, [], h, _ => List.perm_nil.mp h
  | l, [x], h, _ => List.perm_singleton.mp h
  | l, _ :: _ :: _, _, z => absurd z (by simp)
theorem swo_no : SrtO.Swo fun _ _ : Value => false := ⟨fun _ _ z => absurd z (by decide), fun _ _ _ _ _ => rfl⟩
section
variable {P : Program} {w : World} {A : Around} {E : Value → Shared → Prop} {s : Shared}
theorem sorted_seq_one {a : Addr} {us : List Value} {Q : Value → Shared → Prop} (hq : SeqIs s.heap a us.toArray) (few : us.length ≤ 1)
    (q : ∀ s' p (c : Nat), (∀ b o, s.heap.get? b = some o → s'.heap.get? b = some o) → s'.gens = s.gens → s'.os = s.os → s.heap.objs.size ≤ p → s'.heap.get? p = some (seqObj "list" us.toArray c) → Q (.ref p) s') :
    wpAny (model P w) A (call (.builtin "sorted") [.ref a]) Q E s := by
  have hz0 : us.length ≤ sizeLine := by rw [sizeLine_eq]; omega
  refine Calls.call_function_entry kind_sorted plain_sorted entry_sorted (args_sorted1 _) ?_
  unfold Builtin.«sorted»
  refine wpAny_bind (m := checkCount "sorted" 1 1 _) (wpAny_pure (wpAny_bind (collect_seqK (A := A.in1) hq hz0 fun h1 k1 hz => ?_)))
  generalize hs1 : ({ s with heap := h1 } : Shared) = s1
  have g1 : s1.gens = s.gens := by rw [← hs1]
  have o1 : s1.os = s.os := by rw [← hs1]
  have e1' : h1 = s1.heap := by rw [← hs1]
  rw [e1'] at k1 hz
  refine wpAny_bind (wpAny_newList ?_ hz0)
  have hoL : (s1.heap.push (seqObj "list" us.toArray 0)).get? s1.heap.objs.size = some (seqObj "list" us.toArray 0) := Heap.get?_push_size _ rfl
  refine wpAny_bind (wpAny_holding (wpAny_call_entry slot_list_sort ⟨_, hoL, rfl⟩ entry_list_sort (SrtO.list_sort_ord (s := { s1 with heap := s1.heap.push (seqObj "list" us.toArray 0) }) swo_no hoL hz0
    (fun h2 => by omega) fun out hs hb => ⟨_, rfl, ?_⟩) (args_list_sort _)))
  have eo : out = us := perm_le1 hb.perm few
  subst eo
  obtain ⟨c, hc⟩ := sortedHeap_at (vs := out) (out := out.toArray) hoL
  refine wpAny_pure ⟨_, rfl, q _ s1.heap.objs.size c (fun b u e => ?_) g1 o1 hz hc⟩
  have e1 := k1 b u e
  have hlt := Heap.lt_size e1
  show (sortedHeap (s1.heap.push _) s1.heap.objs.size _ _).get? b = some u
  rw [sortedHeap_old (Nat.ne_of_lt hlt) (by rw [size_push']; exact Nat.lt_succ_of_lt hlt)]
  exact Heap.get?_push_of_some _ e1
end
def rSort1 (K : PySem.W.Frag) : List V → Hp → VK → Prop := fun vs H Q => ∃ (a : Addr) (xs : List V), vs = [V.ref a] ∧ (SqL K H a xs ∨ SqT K H a xs) ∧ xs.length ≤ 1 ∧ ∀ p : Addr, H p = none → Q (.ref p) (upd H p (.lst xs))
theorem cr_sort1 {X : Cx} : CallR X (.builtin "sorted") (rSort1 X.K) := by
  intro pins s σ H vs us Q I r h
  obtain ⟨a, xs, rfl, ha, few, q⟩ := h
  obtain ⟨its, rv, sq⟩ : ∃ its : List Value, Vals xs its ∧ SeqIs s.heap a its.toArray := by
    rcases ha with ha | ha
    · obtain ⟨its, rv, pl, hz⟩ := I.list ha
      obtain ⟨o, ho, hc, n, hd⟩ := pl.isList
      exact ⟨its, rv, o, "list", n, ho, hc, .inl rfl, hd⟩
    · obtain ⟨its, rv, pl, hz⟩ := I.tuple ha
      obtain ⟨o, ho, hc, n, hd⟩ := (show s.heap.IsTuple a its.toArray from pl)
      exact ⟨its, rv, o, "tuple", n, ho, hc, .inr rfl, hd⟩
  have few' : its.length ≤ 1 := by rw [← rv.length]; exact few
  rw [Vals.ref1 r]
  refine sorted_seq_one sq few' fun s' p c k g o hp hg => ?_
  have hlen : xs.length ≤ sizeLine := by rw [sizeLine_eq]; omega
  have hn : H p = none := I.hok.fresh hp
  have J : Inv X pins σ (upd H p (.lst xs)) { s with heap := s'.heap, gens := s'.gens, drawn := s'.drawn, toks := s'.toks } :=
    I.call (ch := []) (Un.laid k hp hn) (I.hok.laid k hp ⟨hlen, its, c, rv, hg⟩) (by rw [g]; exact I.bare) (fun _ z => nomatch z)
  have e : s' = { s with heap := s'.heap, gens := s'.gens, drawn := s'.drawn, toks := s'.toks } := by
    cases s'
    cases s
    cases o
    rfl
  rw [e]
  exact ⟨.ref p, _, J, rfl, q p hn⟩
def dSort1 (S : Sto) : List D → Option D
  | [x] => match seqA S x with
    | some ds => if ds.length ≤ 1 then some (.lst ds) else none
    | none => none
  | _ => none
theorem opn_sort1 {B : Bas} : OpN B (rSort1 B.K) dSort1 := fun m S H xs ds d s c r e Q q => by
  unfold dSort1 at e
  split at e
  · rename_i x
    cases h1 : seqA S x with
    | none => rw [h1] at e; cases e
    | some its =>
      rw [h1] at e
      simp only at e
      split at e
      · rename_i few
        cases e
        obtain ⟨v, rfl, rv⟩ := r.one
        obtain ⟨l, vs, rfl, hl, rs⟩ := repA s c rv h1
        exact ⟨l, vs, rfl, hl, by rw [← rs.length]; exact few, fun p hp => q_lst s c q rs p hp⟩
      · cases e
  · cases e
/-! both -/
theorem CallR_or {X : Cx} {f : Value} {r r' : List V → Hp → VK → Prop} (h : CallR X f r) (h' : CallR X f r') : CallR X f fun xs H Q => r xs H Q ∨ r' xs H Q := by
  intro pins s σ H xs us Q I rv z
  rcases z with z | z
  · exact h pins s σ H xs us Q I rv z
  · exact h' pins s σ H xs us Q I rv z
def rSortA (K : PySem.W.Frag) : List V → Hp → VK → Prop := fun xs H Q => rSortedI K xs H Q ∨ rSortL K xs H Q ∨ rSort1 K xs H Q
theorem cr_sortA {X : Cx} (hu : X.A.units + 64 < cLine) : CallR X (.builtin "sorted") (rSortA X.K) := CallR_or cr_sortedI (CallR_or (cr_sortL hu) cr_sort1)
noncomputable def dSortA (S : Sto) (xs : List D) : Option D := match dSortI S xs with
  | some d => some d
  | none => match dSortL S xs with
    | some d => some d
    | none => dSort1 S xs
theorem opn_sortA {B : Bas} : OpN B (rSortA B.K) dSortA := fun m S H xs ds d s c r e Q q => by
  unfold dSortA at e
  cases h : dSortI S ds with
  | some d' =>
    rw [h] at e
    cases e
    exact .inl (opn_sortI m S H xs ds d s c r h Q q)
  | none =>
    rw [h] at e
    cases h2 : dSortL S ds with
    | some d' =>
      simp only [h2] at e
      cases e
      exact .inr (.inl (opn_sortL m S H xs ds d s c r h2 Q q))
    | none =>
      simp only [h2] at e
      exact .inr (.inr (opn_sort1 m S H xs ds d s c r e Q q))
theorem sortA_I {S : Sto} {xs : List D} {d : D} (h : dSortI S xs = some d) : dSortA S xs = some d := by unfold dSortA; rw [h]
theorem sortA_L {S : Sto} {xs : List D} {d : D} (h0 : dSortI S xs = none) (h : dSortL S xs = some d) : dSortA S xs = some d := by unfold dSortA; rw [h0]; simp only [h]
end G
end
section
set_option Elab.async false
set_option linter.all false
set_option maxRecDepth 100000
set_option maxHeartbeats 3200000
/-! G39: len(o) by the class's own __len__ -/
namespace G
open PySem L2 PyProof.Rows
section
variable {X : Cx}
def rLenO (C : Addr) (sp : Sp) : List V → Hp → VK → Prop := fun xs H Q => ∃ a dx fs, xs = [V.ref a] ∧ H a = some (.ins C dx fs) ∧ sp [.ref a] H (fun v H' => ∃ k : Int, v = .int k ∧ 0 ≤ k ∧ k < 2 ^ 62 ∧ Q (.int k) H') fun _ _ _ => False
theorem cr_lenO {n : Nat} {C f : Addr} {fd : FuncData} {ps : List Str} {sp : Sp} (hr : Room (n + 1) X.A) (hC : PySem.W.findIn X.K (.ref C) "__len__" = some (some (.ref f))) (hF : PySem.W.isFn X.K (.ref f) = true)
    (FN : FnOk X.prog X.w X.K X.mg X.base (CX X.prog X.w) n f fd ps sp) (bN : Binds X.K fd ps []) : CallR X (.builtin "len") (rLenO C sp) := by
  intro pins s σ H xs us Q I r h
  obtain ⟨a, dx, fs, rfl, ha, hsp⟩ := h
  rw [Vals.ref1 r]
  obtain ⟨mA, J, _⟩ := ins_get I.hok ha
  obtain ⟨od, J, _⟩ := J.look
  have sb : L2.Sub X n X.A.in1 := L2.Sub.in1 ⟨hr, rfl⟩
  refine Calls.call_function_entry kind_len plain_len entry_len (args_len1 _) ?_
  unfold Builtin.«len»
  refine wpAny_bind (m := oneArg "len" _) (wpAny_pure ?_)
  have e0 : Env0 X.prog X.w X.K X.mg X.base X.A.in1 X.stack s H := by
    have e := I.env0
    exact ⟨by rw [sb.fr]; exact e.frames, e.mod, e.bs, e.bsz, e.funs, e.frf, e.hok, e.bare⟩
  have hl := FN.len _ _ _ _ hsp
  have r2 : Vals [V.ref a] [Value.ref a] := .cons rfl .nil
  refine wpAny_bind (PySem.W.special_fn (name := "__len__") (args := []) I.kIn J hC (beq_iff_eq.mp hF) ?_)
  refine wpAny_call (codeAny_mono (FN.run X.A.in1 X.stack s H ⟨[.ref a], []⟩ [.ref a] [.ref a] _ _ sb.room e0 (by
    have := bN s [.ref a] I.kIn (by simpa using hl)
    simpa using this) r2 hsp) fun r s' hq => ?_)
  cases r with
  | error e =>
    obtain ⟨_, _, _, _, _, _, _, _, _, _, _, _, hE⟩ := hq
    exact hE.elim
  | ok fl =>
    cases fl with
    | ret u =>
      obtain ⟨v, H', I', rv, k, rfl, k0, k1, q⟩ := I.after hq
      obtain ⟨t, rfl⟩ := rv
      refine wpAny_bind (wpAny_holding (wpAny_pure ?_))
      refine wpAny_bind (wpAny_letGo ?_)
      rw [if_neg (by omega), if_neg (by omega)]
      exact wpAny_bind (wpAny_mkInt (wpAny_pure ⟨_, rfl, .int k, H', I'.tok _, ⟨_, rfl⟩, q⟩))
    | next => exact False.elim hq
    | brk => exact False.elim hq
    | cont => exact False.elim hq
end
/-- len of an own object by its def -/
def mLenO (c : Nat) (F : Fn) (e : ME) : ME := fun en S => (e en S).bind fun d S1 => match insOf S1 d with
  | some (c', _, _) => if c' = c ∧ F.n = 1 then ((F.run [d] S1).noex).bind fun z S2 => (match z with
      | .int k => if 0 ≤ k ∧ k < 1000000000 then .ok (.int k) S2 else .bad
      | _ => .bad)
    else .bad
  | none => .bad
theorem de_lenO {X : Cx} {B : Bas} {W : WX} {e : Expr} {p pos : Pos} {me : ME} {c k j : Nat} {F : Fn} (cm : CalM X.prog X.w X.K X.mg X.base B c "__len__" k F) (hr : Room j X.A) (hk : k + 1 ≤ j) (hm : X.mg "len" = none) (ho : PE X e (tE B W me))
    (hg : Gl X "len" := by rfl) (he : starEach [e] X.env = [(false, eval e X.env)] := by rfl) : PE X (.Call (.Name "len" p) [e] [] pos) (tE B W (mLenO c F me)) := by
  obtain ⟨f, fd, ps, FO, hc, hm', bd⟩ := cm
  refine PE.cut (pe_callB (cr_lenO (hr.mono hk) hm'.at_ hm'.fn FO bd) hg hm (by decide +kernel) (pa_cons ho pa_nil he) (by decide) (by decide) he (by rfl)) fun σ H Q t => ?_
  obtain ⟨m, S, en, s, cc, er, q⟩ := t
  refine ⟨m, S, en, s, cc, er, (Post.bind q).imp ?_⟩
  rintro v H1 ⟨d, S1, m1, _, l1, c1, r1, p1⟩
  cases h : insOf S1 d with
  | none => rw [h] at p1; exact p1.elim
  | some z =>
    obtain ⟨c', ns, ds⟩ := z
    simp only [h] at p1
    split at p1
    · rename_i hc'
      obtain ⟨a, dx, vs, rfl, ha, hl, rs⟩ := repI l1.sub c1 r1 h
      refine ⟨a, dx, _, rfl, by rw [← hc'.1]; exact ha, m1, S1, [d], l1.sub, c1, ?_, by rw [hc'.2]; rfl, Post.noexF ((Post.bind p1).imp ?_)⟩
      · simp only [Reps]
        exact ⟨_, _, rfl, r1, rfl⟩
      · rintro v2 H2 ⟨d2, S2, m2, _, l2, c2, r2, p2⟩
        cases d2 with
        | int i =>
          simp only at p2
          split at p2
          · rename_i hi
            refine ⟨i, r2.int_eq, hi.1, by have := hi.2; omega, ?_⟩
            exact p2 m2 H2 _ (Le.refl l2.sub) c2 (rp_int m2)
          · exact p2.elim
        | _ => exact p2.elim
    · exact p1.elim
/-! evaluation -/
def lenK2 (z : D) (S : Sto) : Res D := match z with
  | .int k => if 0 ≤ k ∧ k < 1000000000 then .ok (.int k) S else .bad
  | _ => .bad
def lenK (c : Nat) (F : Fn) (d : D) (S : Sto) : Res D := match insOf S d with
  | some (c', _, _) => if c' = c ∧ F.n = 1 then ((F.run [d] S).noex).bind lenK2 else .bad
  | none => .bad
theorem mLenO_ap (c : Nat) (F : Fn) (e : ME) (en : En) (S : Sto) : mLenO c F e en S = (e en S).bind (lenK c F) := rfl
theorem lenK_ok {c : Nat} {F : Fn} {d : D} {S : Sto} {ns : List Str} {ds : List D} {k : Int} (h1 : insOf S d = some (c, ns, ds)) (h2 : F.n = 1) (h3 : F.run [d] S = .ok (.int k) S) (h4 : 0 ≤ k) (h5 : k < 1000000000) : lenK c F d S = .ok (.int k) S := by
  unfold lenK
  rw [h1]
  simp only [h2, and_self, if_true, h3, noex_ok, Res.bind_ok]
  exact if_pos ⟨h4, h5⟩
end G
end
section
set_option Elab.async false
set_option linter.all false
set_option maxRecDepth 100000
set_option maxHeartbeats 3200000
/-! G40: ranges as lists and tuples; == and != by an own def; isinstance of an own class -/
namespace G
open PySem L2 PyProof.Rows
/-! ### list(range(..)), tuple(range(..)) -/
def rgAt (i j : Int) : Prop := RgOk i j
theorem rgAt_ok {i j : Int} (h0 : 0 ≤ i) (h1 : j ≤ 1000000) (h2 : i ≤ 1000000) (h3 : 0 ≤ j) : rgAt i j := RgOk.of_le h0 (by omega) (by omega) h3
open Classical in
noncomputable def rgLR (i j : Int) (S : Sto) : Res D := if rgAt i j then .ok (.lst (rangeD i (j - i).toNat)) S else .bad
open Classical in
noncomputable def rgTR (i j : Int) (S : Sto) : Res D := if rgAt i j then .ok (.tup (rangeD i (j - i).toNat)) S else .bad
noncomputable def rgK1 (g : Int → Int → Sto → Res D) (d : D) (S : Sto) : Res D := match d with
  | .int j => g 0 j S
  | _ => .bad
noncomputable def mRg1 (g : Int → Int → Sto → Res D) (a : ME) : ME := fun en S => (a en S).bind (rgK1 g)
noncomputable def rgK2 (g : Int → Int → Sto → Res D) (x : D) (y : D) (S : Sto) : Res D := match x, y with
  | .int i, .int j => g i j S
  | _, _ => .bad
noncomputable def rgK2a (g : Int → Int → Sto → Res D) (b : ME) (en : En) (x : D) (S : Sto) : Res D := (b en S).bind (rgK2 g x)
noncomputable def mRg2 (g : Int → Int → Sto → Res D) (a b : ME) : ME := fun en S => (a en S).bind (rgK2a g b en)
theorem reps_rg {B : Bas} {m : Mp} (i j : Int) : Reps B m (rangeD i (j - i).toNat) (rgV i j) := by
  unfold rangeD rgV
  generalize List.range (j - i).toNat = l
  induction l with
  | nil => exact Reps.nil
  | cons k l ih =>
    simp only [List.map_cons, Reps]
    exact ⟨_, _, rfl, rp_int m, ih⟩
section
variable {X : Cx} {B : Bas} {W : WX} {a b : Expr} {p p2 pos pos2 : Pos} {ma mb : ME}
theorem pl_of {m : Mp} {S : Sto} {H : Hp} {Q : VK} {E : XK} {i j : Int} (s : Sub m H) (c : Cor B m S) (h : Post B (Rep B) E m H Q (rgLR i j S)) : RgOk i j ∧ ∀ q, H q = none → Q (.ref q) (upd H q (.lst (rgV i j))) := by
  unfold rgLR at h
  split at h
  · rename_i k
    exact ⟨k, q_lst s c h (reps_rg i j)⟩
  · exact h.elim
theorem pt_of {m : Mp} {S : Sto} {H : Hp} {Q : VK} {E : XK} {i j : Int} (s : Sub m H) (c : Cor B m S) (h : Post B (Rep B) E m H Q (rgTR i j S)) : RgOk i j ∧ ∀ q, H q = none → Q (.ref q) (upd H q (.tup (rgV i j))) := by
  unfold rgTR at h
  split at h
  · rename_i k
    exact ⟨k, q_tup s c h (reps_rg i j)⟩
  · exact h.elim
theorem de_lrg1 (hc : X.calm = true) (h1 : X.mg "list" = none) (h2 : X.mg "range" = none) (ha : PE X a (tE B W ma)) (g1 : Gl X "list" := by rfl) (g2 : Gl X "range" := by rfl) (na : starEach [a] X.env = (false, eval a X.env) :: starEach [] X.env := by rfl)
    (nb : starEach [.Call (.Name "range" p2) [a] [] pos2] X.env = (false, eval (.Call (.Name "range" p2) [a] [] pos2) X.env) :: starEach [] X.env := by rfl) : PE X (.Call (.Name "list" p) [.Call (.Name "range" p2) [a] [] pos2] [] pos) (tE B W (mRg1 rgLR ma)) :=
  PE.cut (pe_listRg hc g1 h1 (prg_1 g2 h2 ha na) nb) fun σ H Q ⟨m, S, en, s, c, er, q⟩ => ⟨m, S, en, s, c, er, (Post.bind q).imp (by
    rintro v H1 ⟨d, S1, m1, _, l1, c1, r1, p1⟩
    cases d with
    | int j => exact ⟨j, r1.int_eq, pl_of l1.sub c1 p1⟩
    | _ => exact p1.elim)⟩
theorem de_trg1 (hc : X.calm = true) (h1 : X.mg "tuple" = none) (h2 : X.mg "range" = none) (ha : PE X a (tE B W ma)) (g1 : Gl X "tuple" := by rfl) (g2 : Gl X "range" := by rfl) (na : starEach [a] X.env = (false, eval a X.env) :: starEach [] X.env := by rfl)
    (nb : starEach [.Call (.Name "range" p2) [a] [] pos2] X.env = (false, eval (.Call (.Name "range" p2) [a] [] pos2) X.env) :: starEach [] X.env := by rfl) : PE X (.Call (.Name "tuple" p) [.Call (.Name "range" p2) [a] [] pos2] [] pos) (tE B W (mRg1 rgTR ma)) :=
  PE.cut (pe_tupRg hc g1 h1 (prg_1 g2 h2 ha na) nb) fun σ H Q ⟨m, S, en, s, c, er, q⟩ => ⟨m, S, en, s, c, er, (Post.bind q).imp (by
    rintro v H1 ⟨d, S1, m1, _, l1, c1, r1, p1⟩
    cases d with
    | int j => exact ⟨j, r1.int_eq, pt_of l1.sub c1 p1⟩
    | _ => exact p1.elim)⟩
theorem de_lrg2 (hc : X.calm = true) (h1 : X.mg "list" = none) (h2 : X.mg "range" = none) (ha : PE X a (tE B W ma)) (hb : PE X b (tE B W mb)) (g1 : Gl X "list" := by rfl) (g2 : Gl X "range" := by rfl) (na : starEach [a, b] X.env = (false, eval a X.env) :: starEach [b] X.env := by rfl)
    (na2 : starEach [b] X.env = (false, eval b X.env) :: starEach [] X.env := by rfl) (hp : (backTo pos2 (starEach [b] X.env)).any (·.1) = false := by rfl)
    (nb : starEach [.Call (.Name "range" p2) [a, b] [] pos2] X.env = (false, eval (.Call (.Name "range" p2) [a, b] [] pos2) X.env) :: starEach [] X.env := by rfl) : PE X (.Call (.Name "list" p) [.Call (.Name "range" p2) [a, b] [] pos2] [] pos) (tE B W (mRg2 rgLR ma mb)) :=
  PE.cut (pe_listRg hc g1 h1 (prg_2 g2 h2 ha hb na na2 (hp := hp)) nb) fun σ H Q ⟨m, S, en, s, c, er, q⟩ => ⟨m, S, en, s, c, er, (Post.bind q).imp (by
    rintro v H1 ⟨d, S1, m1, _, l1, c1, r1, p1⟩
    refine ⟨m1, S1, en, l1.sub, c1, er.mono l1, (Post.bind p1).imp ?_⟩
    rintro u H2 ⟨d2, S2, m2, _, l2, c2, r2, p2⟩
    cases d with
    | int i =>
      cases d2 with
      | int j => exact ⟨i, j, (r1.mono l2).int_eq, r2.int_eq, pl_of l2.sub c2 p2⟩
      | _ => exact p2.elim
    | _ => cases d2 <;> exact p2.elim)⟩
end
theorem mRg1_ap (g : Int → Int → Sto → Res D) (a : ME) (en : En) (S : Sto) : mRg1 g a en S = (a en S).bind (rgK1 g) := rfl
theorem rgK1_int (g : Int → Int → Sto → Res D) (j : Int) (S : Sto) : rgK1 g (.int j) S = g 0 j S := by unfold rgK1; rfl
theorem mRg2_ap (g : Int → Int → Sto → Res D) (a b : ME) (en : En) (S : Sto) : mRg2 g a b en S = (a en S).bind (rgK2a g b en) := rfl
theorem rgK2a_ap (g : Int → Int → Sto → Res D) (b : ME) (en : En) (x : D) (S : Sto) : rgK2a g b en x S = (b en S).bind (rgK2 g x) := rfl
theorem rgK2_int (g : Int → Int → Sto → Res D) (i j : Int) (S : Sto) : rgK2 g (.int i) (.int j) S = g i j S := by unfold rgK2; rfl
theorem rgLR_ok {i j : Int} {S : Sto} (h : 0 ≤ i ∧ i ≤ 1000000 ∧ 0 ≤ j ∧ j ≤ 1000000) : rgLR i j S = .ok (.lst (rangeD i (j - i).toNat)) S := if_pos (rgAt_ok h.1 h.2.2.2 h.2.1 h.2.2.1)
theorem rgTR_ok {i j : Int} {S : Sto} (h : 0 ≤ i ∧ i ≤ 1000000 ∧ 0 ≤ j ∧ j ≤ 1000000) : rgTR i j S = .ok (.tup (rangeD i (j - i).toNat)) S := if_pos (rgAt_ok h.1 h.2.2.2 h.2.1 h.2.2.1)
theorem rgLR_nat {n : Nat} {S : Sto} (h : n ≤ 1000000) : rgLR 0 (n : Nat) S = .ok (.lst ((List.range n).map fun k => D.int (k : Nat))) S := by
  rw [rgLR_ok ⟨by omega, by omega, by omega, by omega⟩, Int.sub_zero, Int.toNat_natCast, rangeD_map]
theorem rgTR_nat {n : Nat} {S : Sto} (h : n ≤ 1000000) : rgTR 0 (n : Nat) S = .ok (.tup ((List.range n).map fun k => D.int (k : Nat))) S := by
  rw [rgTR_ok ⟨by omega, by omega, by omega, by omega⟩, Int.sub_zero, Int.toNat_natCast, rangeD_map]
/-! ### == and != by an own def, of two objects of one class -/
section
variable {X : Cx}
def rCmpO (C : Addr) (sp : Sp) : R2 := fun x y H Q => ∃ a b dx dy fs gs, x = .ref a ∧ y = .ref b ∧ H a = some (.ins C dx fs) ∧ H b = some (.ins C dy gs) ∧ sp [.ref a, .ref b] H (fun v H' => ∃ k, v = .bl k ∧ Q (.bl k) H') fun _ _ _ => False
theorem op_cmpO {op : CmpOp} {n : Nat} {C f : Addr} {fd : FuncData} {ps : List Str} {sp : Sp} (hop : compareOp op = richCompare op) (hr : Room n X.A) (hC : PySem.W.findIn X.K (.ref C) (cmpInfo op).2.1 = some (some (.ref f))) (hF : PySem.W.isFn X.K (.ref f) = true)
    (FN : FnOk X.prog X.w X.K X.mg X.base (CX X.prog X.w) n f fd ps sp) (bN : Binds X.K fd ps []) : OpR X (compareOp op) (rCmpO C sp) := by
  intro pins s σ H x y v u Q I rx ry hq
  obtain ⟨a, b, dx, dy, fs, gs, rfl, rfl, ha, hb, hsp⟩ := hq
  cases rx
  cases ry
  obtain ⟨mA, J, _⟩ := ins_get I.hok ha
  obtain ⟨mB, J', _⟩ := ins_get I.hok hb
  obtain ⟨od, J, _⟩ := J.look
  obtain ⟨od', J', _⟩ := J'.look
  obtain ⟨m, fr⟩ := I.fr
  have sb : L2.Sub X n X.A := ⟨hr, rfl⟩
  rw [hop]
  refine PySem.W.cmp_K (op := op) (tb := .ref C) sb.room.units0 fr I.ok.mod.kin J J'.type (by simp [PySem.W.notFirst]) hC hF ?_
  have e0 : Env0 X.prog X.w X.K X.mg X.base X.A X.stack s H := I.env0
  have hl := FN.len _ _ _ _ hsp
  have r2 : Vals [V.ref a, V.ref b] [Value.ref a, Value.ref b] := .cons rfl (.cons rfl .nil)
  refine wpAny_call (codeAny_mono (FN.run X.A X.stack s H ⟨[.ref a, .ref b], []⟩ [.ref a, .ref b] [.ref a, .ref b] _ _ sb.room e0 (by
    have z := bN s [.ref a, .ref b] I.kIn (by simpa using hl)
    simpa using z) r2 hsp) fun r s' q => ?_)
  cases r with
  | error e =>
    obtain ⟨_, _, _, _, _, _, _, _, _, _, _, _, no⟩ := q
    exact no.elim
  | ok fl =>
    cases fl with
    | ret u =>
      obtain ⟨z, H', I', rz, k, rfl, q'⟩ := I.after q
      cases rz
      exact ⟨.bl k, H', I', rfl, q'⟩
    | _ => exact False.elim q
end
def cmpOK3 (z : D) (S : Sto) : Res D := match z with
  | .bl k => .ok (.bl k) S
  | _ => .bad
noncomputable def cmpOK2 (c : Nat) (F : Fn) (x y : D) (S : Sto) : Res D := match insOf S x, insOf S y with
  | some (c1, _, _), some (c2, _, _) => if c1 = c ∧ c2 = c ∧ F.n = 2 then ((F.run [x, y] S).noex).bind cmpOK3 else .bad
  | _, _ => .bad
noncomputable def cmpOK1 (c : Nat) (F : Fn) (b : ME) (en : En) (x : D) (S : Sto) : Res D := (b en S).bind (cmpOK2 c F x)
noncomputable def mCmpO (c : Nat) (F : Fn) (a b : ME) : ME := fun en S => (a en S).bind (cmpOK1 c F b en)
theorem cmpO_post {B : Bas} {m : Mp} {S : Sto} {H : Hp} {Q : VK} {E : XK} {c : Nat} {F : Fn} {x y : D} {v u : V} (s : Sub m H) (cc : Cor B m S) (r1 : Rep B m x v) (r2 : Rep B m y u) (p : Post B (Rep B) E m H Q (cmpOK2 c F x y S)) : rCmpO (B.cls c) (spF B F) v u H Q := by
  unfold cmpOK2 at p
  cases h1 : insOf S x with
  | none => rw [h1] at p; exact p.elim
  | some z1 =>
    cases h2 : insOf S y with
    | none => rw [h1, h2] at p; exact p.elim
    | some z2 =>
      obtain ⟨c1, ns1, ds1⟩ := z1
      obtain ⟨c2, ns2, ds2⟩ := z2
      rw [h1, h2] at p
      simp only at p
      split at p
      · rename_i k
        obtain ⟨rfl, e2, e3⟩ := k
        subst e2
        obtain ⟨a, dx, vs, rfl, ha, _⟩ := repI s cc r1 h1
        obtain ⟨b, dy, us, rfl, hb, _⟩ := repI s cc r2 h2
        refine ⟨a, b, dx, dy, _, _, rfl, rfl, ha, hb, m, S, [x, y], s, cc, ?_, by rw [e3]; rfl, Post.noexF ((Post.bind p).imp ?_)⟩
        · simp only [Reps]
          exact ⟨_, _, rfl, r1, _, _, rfl, r2, rfl⟩
        · rintro w H2 ⟨d2, S2, m2, _, l2, c2, rd, p2⟩
          cases d2 with
          | bl k => exact ⟨k, rd.bl_eq, p2 m2 H2 _ (Le.refl l2.sub) c2 (rp_bl m2)⟩
          | _ => exact p2.elim
      · exact p.elim
section
variable {X : Cx} {B : Bas} {W : WX} {a b : Expr} {pos : Pos} {ma mb : ME} {c k j : Nat} {F : Fn} {x : Str}
theorem tCmpO_of (σ : L2.St) (H : Hp) (Q : VK) (t : tE B W (mCmpO c F ma mb) σ H Q) : tOp (rCmpO (B.cls c) (spF B F)) (tE B W ma) (tE B W mb) σ H Q := by
  obtain ⟨m, S, en, s, cc, er, p⟩ := t
  refine ⟨m, S, en, s, cc, er, (Post.bind p).imp ?_⟩
  rintro v H1 ⟨d1, S1, m1, _, l1, c1, r1, p1⟩
  refine ⟨m1, S1, en, l1.sub, c1, er.mono l1, (Post.bind p1).imp ?_⟩
  rintro u H2 ⟨d2, S2, m2, _, l2, c2, r2, p2⟩
  exact cmpO_post l2.sub c2 (r1.mono l2) r2 p2
theorem de_eqO (cm : CalM X.prog X.w X.K X.mg X.base B c "__eq__" k F) (hr : Room j X.A) (hk : k + 1 ≤ j) (ha : PE X a (tE B W ma)) (hb : PE X b (tE B W mb)) (hm : behindInMarks .Eq b = false := by exact nomark _) : PE X (.Compare a [.Eq] [b] pos) (tE B W (mCmpO c F ma mb)) := by
  obtain ⟨f, fd, ps, FO, hc, hm', bd⟩ := cm
  exact PE.cut (pe_cmpR (op_cmpO rfl (hr.mono (by omega)) hm'.at_ hm'.fn FO bd) ha hb hm) tCmpO_of
theorem de_neO (cm : CalM X.prog X.w X.K X.mg X.base B c "__ne__" k F) (hr : Room j X.A) (hk : k + 1 ≤ j) (ha : PE X a (tE B W ma)) (hb : PE X b (tE B W mb)) (hm : behindInMarks .NotEq b = false := by exact nomark _) : PE X (.Compare a [.NotEq] [b] pos) (tE B W (mCmpO c F ma mb)) := by
  obtain ⟨f, fd, ps, FO, hc, hm', bd⟩ := cm
  exact PE.cut (pe_cmpR (op_cmpO rfl (hr.mono (by omega)) hm'.at_ hm'.fn FO bd) ha hb hm) tCmpO_of
theorem dt_eqO (cm : CalM X.prog X.w X.K X.mg X.base B c "__eq__" k F) (hr : Room j X.A) (hk : k + 1 ≤ j) (ha : PE X a (tE B W ma)) (hb : PE X b (tE B W mb)) (hm : behindInMarks .Eq b = false := by exact nomark _) : PT X (.Compare a [.Eq] [b] pos) (tT B W (mTest (mCmpO c F ma mb))) := by
  obtain ⟨f, fd, ps, FO, hc, hm', bd⟩ := cm
  exact PT.cut (pt_cmpR (op_cmpO rfl (hr.mono (by omega)) hm'.at_ hm'.fn FO bd) ha hb hm) fun σ H Q t => tCmpO_of (W := W) σ H _ (tTest_of σ H Q t)
theorem dt_neO (cm : CalM X.prog X.w X.K X.mg X.base B c "__ne__" k F) (hr : Room j X.A) (hk : k + 1 ≤ j) (ha : PE X a (tE B W ma)) (hb : PE X b (tE B W mb)) (hm : behindInMarks .NotEq b = false := by exact nomark _) : PT X (.Compare a [.NotEq] [b] pos) (tT B W (mTest (mCmpO c F ma mb))) := by
  obtain ⟨f, fd, ps, FO, hc, hm', bd⟩ := cm
  exact PT.cut (pt_cmpR (op_cmpO rfl (hr.mono (by omega)) hm'.at_ hm'.fn FO bd) ha hb hm) fun σ H Q t => tCmpO_of (W := W) σ H _ (tTest_of σ H Q t)
end
theorem mCmpO_ap (c : Nat) (F : Fn) (a b : ME) (en : En) (S : Sto) : mCmpO c F a b en S = (a en S).bind (cmpOK1 c F b en) := rfl
theorem cmpOK1_ap (c : Nat) (F : Fn) (b : ME) (en : En) (x : D) (S : Sto) : cmpOK1 c F b en x S = (b en S).bind (cmpOK2 c F x) := rfl
theorem cmpOK2_ok {c : Nat} {F : Fn} {x y : D} {S : Sto} {ns1 ns2 : List Str} {ds1 ds2 : List D} {k : Bool} (h1 : insOf S x = some (c, ns1, ds1)) (h2 : insOf S y = some (c, ns2, ds2)) (h3 : F.n = 2) (h4 : F.run [x, y] S = .ok (.bl k) S) : cmpOK2 c F x y S = .ok (.bl k) S := by
  unfold cmpOK2
  rw [h1, h2]
  simp only [h3, and_self, if_true, h4, noex_ok, Res.bind_ok]
  rfl
/-! ### isinstance of an own class -/
def tyNames : List String := ["NoneType", "bool", "int", "str", "tuple", "list", "dict"]
structure IsiK (K : PySem.W.Frag) (C : Addr) : Prop where
  cl : Cls K C
  ha : PySem.W.findIn K (.ref C) "__class__" = some (some (.builtin "object.__class__"))
  hn : PySem.W.specialIn K (.builtin "object.__class__") "__get__" = some (some (.builtin "getset_descriptor.__get__"))
  htk : PySem.W.takesIn K (.builtin "object.__class__") = some true
  hm : PySem.W.mroIn K C (.type "object") = some true
/-- what isinstance(.., C) answers: for the classes cs, and for all built-in kinds -/
def IsiOk (K : PySem.W.Frag) (B : Bas) (c : Nat) (cs : List Nat) : Prop :=
  (∀ n ∈ tyNames, PySem.W.kitOne K (.type n) (.ref (B.cls c)) = some false) ∧ ∀ c' ∈ cs, IsiK K (B.cls c') ∧ PySem.W.kitOne K (.ref (B.cls c')) (.ref (B.cls c)) = some (decide (c' = c))
def dIsiO (c : Nat) (cs : List Nat) (S : Sto) (x : D) : Option D := match insOf S x with
  | some (c', _, _) => if c' ∈ cs then some (.bl (decide (c' = c))) else none
  | none => match tyN S x with
    | some n => if n ∈ tyNames then some (.bl false) else none
    | none => none
def isiOK (c : Nat) (cs : List Nat) (x : D) (S : Sto) : Res D := match dIsiO c cs S x with
  | some d => .ok d S
  | none => .bad
def mIsiO (c : Nat) (cs : List Nat) (a : ME) : ME := fun en S => (a en S).bind (isiOK c cs)
theorem de_isiO {X : Cx} {B : Bas} {W : WX} {a : Expr} {x : Str} {p p2 pos : Pos} {ma : ME} {c : Nat} {cs : List Nat} (ok : IsiOk X.K B c cs) (hx : X.mg x = some (.ref (B.cls c))) (hm : X.mg "isinstance" = none) (ha : PE X a (tE B W ma)) (hK : B.K = X.K := by rfl)
    (g1 : Gl X "isinstance" := by rfl) (g2 : Gl X x := by rfl) (hd : (x == ("__debug__" : Str)) = false := by decide)
    (he : starEach [a, .Name x p2] X.env = (false, eval a X.env) :: starEach [.Name x p2] X.env := by rfl) (he2 : starEach [.Name x p2] X.env = (false, eval (.Name x p2) X.env) :: starEach [] X.env := by rfl) (hpl : (backTo pos (starEach [.Name x p2] X.env)).any (·.1) = false := by rfl) :
    PE X (.Call (.Name "isinstance" p) [a, .Name x p2] [] pos) (tE B W (mIsiO c cs ma)) := by
  have hcl : PE X (.Name x p2) (tE B W (mC (.cl c))) := de_glob (v := .ref (B.cls c)) hx rfl (fun m => by simp only [Rep]) g2 hd
  refine PE.cut (pe_callB call_isi g1 hm (by decide +kernel) (da_cons ha (da_cons hcl da_nil he2) he) (by decide) (by decide) he hpl) fun σ H Q t => ?_
  obtain ⟨m, S, en, s, cc, er, q⟩ := t
  have q1 : Post B (Rep B) (at' W σ) m H Q ((aCons ma (aCons (mC (.cl c)) aNil) en S).bind fun xs S1 => match xs with
      | [d, _] => isiOK c cs d S1
      | _ => .bad) := by
    have e : ((aCons ma (aCons (mC (.cl c)) aNil) en S).bind fun xs S1 => match xs with
      | [d, _] => isiOK c cs d S1
      | _ => .bad) = mIsiO c cs ma en S := by
      simp only [aCons, aNil, mC, mIsiO]
      cases ma en S <;> rfl
    rw [e]
    exact q
  have q2 : Post B (Reps B) (at' W σ) m H (fun vs H1 => rIsi X.K vs H1 Q) (aCons ma (aCons (mC (.cl c)) aNil) en S) := by
    refine (Post.bind q1).imp ?_
    rintro vs H1 ⟨ds, S1, m1, ed, l1, c1, r1, p1⟩
    have ed2 : ∃ d, ds = [d, .cl c] := by
      simp only [aCons, aNil, mC] at ed
      cases h : ma en S with
      | ok d T => rw [h] at ed; simp only [Res.bind_ok] at ed; cases ed; exact ⟨d, rfl⟩
      | ex a b e f => rw [h] at ed; cases ed
      | bad => rw [h] at ed; cases ed
    obtain ⟨d, rfl⟩ := ed2
    obtain ⟨v, w, rfl, rv, rw'⟩ := r1.two
    have hw : w = .ref (B.cls c) := by simpa only [Rep] using rw'
    subst hw
    simp only [isiOK] at p1
    cases hi : dIsiO c cs S1 d with
    | none => rw [hi] at p1; exact p1.elim
    | some z =>
      rw [hi] at p1
      unfold dIsiO at hi
      cases h1 : insOf S1 d with
      | some y =>
        obtain ⟨c', ns, ds⟩ := y
        rw [h1] at hi
        simp only at hi
        split at hi
        · rename_i hc
          cases hi
          obtain ⟨A, ans⟩ := ok.2 c' hc
          obtain ⟨a, dx, vs, rfl, ha, _⟩ := repI l1.sub c1 rv h1
          exact ⟨_, _, .ref (B.cls c'), .ref (B.cls c), _, rfl, .own _, .base (.ins ha A.cl A.ha A.hn A.htk A.hm), ans, q_val l1.sub c1 p1 (rp_bl m1)⟩
        · cases hi
      | none =>
        rw [h1] at hi
        simp only at hi
        cases h2 : tyN S1 d with
        | none => rw [h2] at hi; cases hi
        | some n =>
          rw [h2] at hi
          simp only at hi
          split at hi
          · rename_i hn
            cases hi
            have ty := tyN_of l1.sub c1 rv h2
            rw [hK] at ty
            exact ⟨_, _, .type n, .ref (B.cls c), _, rfl, .own _, ty, ok.1 n hn, q_val l1.sub c1 p1 (rp_bl m1)⟩
          · cases hi
  exact ⟨m, S, en, s, cc, er, q2⟩
theorem mIsiO_ap (c : Nat) (cs : List Nat) (a : ME) (en : En) (S : Sto) : mIsiO c cs a en S = (a en S).bind (isiOK c cs) := rfl
theorem isiOK_ins {c : Nat} {cs : List Nat} {x : D} {S : Sto} {c' : Nat} {ns : List Str} {ds : List D} (h : insOf S x = some (c', ns, ds)) (hc : c' ∈ cs) : isiOK c cs x S = .ok (.bl (decide (c' = c))) S := by
  unfold isiOK dIsiO
  rw [h]
  simp only [hc, if_true]
theorem isiOK_ty {c : Nat} {cs : List Nat} {x : D} {S : Sto} {n : String} (h : insOf S x = none) (hn : tyN S x = some n) (hc : n ∈ tyNames) : isiOK c cs x S = .ok (.bl false) S := by
  unfold isiOK dIsiO
  rw [h, hn]
  simp only [hc, if_true]
/-- the head's check of it -/
def insB (K : PySem.W.Frag) (x : Str) : Bool := He.eqO (PySem.W.findIn K (.ref (He.ga K x)) "__class__") (some (some (.builtin "object.__class__"))) && (He.eqO (PySem.W.specialIn K (.builtin "object.__class__") "__get__") (some (some (.builtin "getset_descriptor.__get__"))) &&
  (decide (PySem.W.takesIn K (.builtin "object.__class__") = some true) && decide (PySem.W.mroIn K (He.ga K x) (.type "object") = some true)))
theorem insB_ok {K : PySem.W.Frag} {x : Str} (cl : Cls K (He.ga K x)) (h : insB K x = true) : IsiK K (He.ga K x) := by
  unfold insB at h
  obtain ⟨h1, h⟩ := He.ba h
  obtain ⟨h2, h⟩ := He.ba h
  obtain ⟨h3, h4⟩ := He.ba h
  exact ⟨cl, He.eqO_ok h1, He.eqO_ok h2, of_decide_eq_true h3, of_decide_eq_true h4⟩
def isiTB (K : PySem.W.Frag) (x : Str) : Bool := tyNames.all fun n => decide (PySem.W.kitOne K (.type n) (.ref (He.ga K x)) = some false)
theorem isiTB_ok {K : PySem.W.Frag} {x : Str} (h : isiTB K x = true) : ∀ n ∈ tyNames, PySem.W.kitOne K (.type n) (.ref (He.ga K x)) = some false := fun n hn => of_decide_eq_true (List.all_eq_true.mp h n hn)
def isiCB (K : PySem.W.Frag) (y x : Str) (b : Bool) : Bool := decide (PySem.W.kitOne K (.ref (He.ga K y)) (.ref (He.ga K x)) = some b)
theorem isiCB_ok {K : PySem.W.Frag} {y x : Str} {b : Bool} (h : isiCB K y x b = true) : PySem.W.kitOne K (.ref (He.ga K y)) (.ref (He.ga K x)) = some b := of_decide_eq_true h
end G
end
section
set_option Elab.async false
set_option linter.all false
set_option maxRecDepth 100000
set_option maxHeartbeats 3200000
/-! G41: a def with defaults -/
namespace G
open PySem L2
theorem fnD_ok {P : Program} {w : World} {K : PySem.W.Frag} {mg : Str → Option Value} {base : Heap} {B : Bas} {x qual : Str} {st : Stmt} {f : Addr} {fd : FuncData} {N ps : List Str} {k n : Nat} {ms : MS} {dvs : List V} {kws : List (Str × V)}
    (F : FunD K x qual (defArgs st) (defBody st) (defScope st) dvs kws f fd) (S : FnScope N ps (defScope st)) (hn : n = ps.length)
    (hbody : ∀ (cdv : Value) (A : Around) (outer : List Env) (s : Shared) (H : Hp) (E : XK), Room k (A.deeper (PyProof.Rows.envOfC qual (defScope st) s.heap.objs.size f cdv)) →
      PSs (cxOf (L2.CX P w) P w K mg base N qual (defScope st) f cdv A outer s H E) (defBody st) (tS B (WE0 E) ms)) : FnOk P w K mg base (L2.CX P w) (k + 1) f fd ps (spF B (fnB n N.length ms)) :=
  F.ok S (spF_len hn) fun cdv A outer s H vs Q E hr h => ⟨_, hbody cdv A outer s H E hr, fn_body h⟩
end G
end
section
set_option Elab.async false
set_option linter.all false
set_option maxRecDepth 100000
set_option maxHeartbeats 3200000
/-! G42: list(x) as a list that is changed -/
namespace G
open PySem L2
def listNK (x : D) (S : Sto) : Res D := match seqL S x, seqT x with
  | some ds, _ => .ok (.ref S.length) (S ++ [.lst ds])
  | none, some ds => .ok (.ref S.length) (S ++ [.lst ds])
  | none, none => .bad
def mListN (a : ME) : ME := fun en S => (a en S).bind listNK
theorem de_listN {X : Cx} {B : Bas} {W : WX} {e : Expr} {p pos : Pos} {me : ME} (hm : X.mg "list" = none) (he : PE X e (tE B W me)) (hK : B.K = X.K := by rfl) (hg : Gl X "list" := by rfl)
    (hs : starEach [e] X.env = [(false, eval e X.env)] := by rfl) : PE X (.Call (.Name "list" p) [e] [] pos) (tE B W (mListN me)) :=
  PE.cut (pe_callTy (p := p) (pos := pos) call_list_of hg hm (by decide +kernel) (da_cons (B := B) (W := W) he da_nil (by rw [hs]; rfl)) (by decide) (by decide) hs (by rfl)) fun σ H Q ⟨m, S, en, s, c, er, q⟩ => by
    refine ⟨m, S, en, s, c, er, ?_⟩
    have q1 : Post B (Rep B) (at' W σ) m H Q ((aCons me aNil en S).bind fun xs S1 => match xs with
        | [d] => listNK d S1
        | _ => .bad) := by
      simp only [aCons, aNil]
      unfold mListN at q
      cases h : me en S with
      | ok d S1 => rw [h] at q; exact q
      | ex c ns vs S1 => rw [h] at q; exact q
      | bad => rw [h] at q; exact q
    refine (Post.bind q1).imp ?_
    rintro vs H1 ⟨ds, S1, m1, _, l1, c1, r1, p1⟩
    match ds, p1, r1 with
    | [], p1, _ => exact p1.elim
    | _ :: _ :: _, p1, _ => exact p1.elim
    | [d], p1, r1 =>
      obtain ⟨v, rfl, rv⟩ := r1.one
      have fin : ∀ {ds : List D} {us : List V}, Reps B m1 ds us → Post B (Rep B) (at' W σ) m1 H1 Q (.ok (.ref S1.length) (S1 ++ [.lst ds])) → ∀ l, H1 l = none → Q (.ref l) (upd H1 l (.lst us)) := fun rs p1 l hl =>
        p1 _ _ _ (Le.add c1 l1.sub hl) (Cor.add c1 l1.sub hl ⟨_, upd_same, rs.mono (Le.add c1 l1.sub hl)⟩) (rp_ref c1)
      simp only [listNK] at p1
      cases h1 : seqL S1 d with
      | some ds =>
        simp only [h1] at p1
        obtain ⟨a, us, rfl, k, rs⟩ := repL l1.sub c1 rv h1
        rw [hK] at k
        exact ⟨a, us, rfl, .inl k, fin rs p1⟩
      | none =>
        cases h2 : seqT d with
        | some ds =>
          simp only [h1, h2] at p1
          obtain ⟨a, us, rfl, k, rs⟩ := repT l1.sub rv h2
          rw [hK] at k
          exact ⟨a, us, rfl, .inr k, fin rs p1⟩
        | none => simp only [h1, h2] at p1; exact p1.elim
theorem mListN_ap (a : ME) (en : En) (S : Sto) : mListN a en S = (a en S).bind listNK := rfl
theorem listNK_tup (ds : List D) (S : Sto) : listNK (.tup ds) S = .ok (.ref S.length) (S ++ [.lst ds]) := by unfold listNK; rfl
theorem listNK_lst (ds : List D) (S : Sto) : listNK (.lst ds) S = .ok (.ref S.length) (S ++ [.lst ds]) := by unfold listNK; rfl
end G
end
section
set_option Elab.async false
set_option linter.all false
set_option maxRecDepth 100000
set_option maxHeartbeats 3200000
/-! G43: a module's own tuple of texts -/
namespace G
open PySem L2
theorem reps_strs {B : Bas} {m : Mp} : ∀ zs : List Str, Reps B m (zs.map D.str) (zs.map V.str)
  | [] => Reps.nil
  | z :: zs => by
    simp only [List.map_cons, Reps]
    exact ⟨_, _, rfl, rp_str m, reps_strs zs⟩
theorem de_gtup {X : Cx} {B : Bas} {W : WX} {x : Str} {zs : List Str} {pos : Pos} (h : ∃ a, X.mg x = some (.ref a) ∧ KTup X.K a (zs.map V.str)) (hK : B.K = X.K := by rfl) (hg : Gl X x := by rfl) (hd : (x == ("__debug__" : Str)) = false := by decide) :
    PE X (.Name x pos) (tE B W (mC (.ktp (zs.map D.str)))) := by
  obtain ⟨a, h1, h2⟩ := h
  refine de_glob (v := .ref a) h1 rfl (fun m => ?_) hg hd
  simp only [Rep]
  exact ⟨a, _, rfl, by rw [hK]; exact h2, reps_strs zs⟩
/-- the head's check of it -/
def gtB (K : PySem.W.Frag) (x : Str) (zs : List Str) : Bool := match K.lookup (He.ga K x) with
  | some o => decide (o.cls = .type "tuple") && (match o.data with
    | .seq its _ => He.relAll (zs.map V.str) its.toList && decide (its.size ≤ 1000)
    | _ => false)
  | none => false
theorem gtB_ok {K : PySem.W.Frag} {x : Str} {zs : List Str} (h : gtB K x zs = true) : KTup K (He.ga K x) (zs.map V.str) := by
  unfold gtB at h
  cases e : K.lookup (He.ga K x) with
  | none => rw [e] at h; cases h
  | some o =>
    rw [e] at h
    obtain ⟨h1, h2⟩ := He.ba h
    cases d : o.data with
    | seq its n =>
      rw [d] at h2
      obtain ⟨h3, h4⟩ := He.ba h2
      exact .inr ⟨o, its, n, e, of_decide_eq_true h1, d, Nat.le_trans (of_decide_eq_true h4) (by decide), He.relAll_ok h3⟩
    | _ => rw [d] at h2; cases h2
end G
end
section
set_option Elab.async false
set_option linter.all false
set_option maxRecDepth 100000
set_option maxHeartbeats 3200000
/-! G44: xs[:-c:-1] -/
namespace G
open PySem L2 PyProof.Rows
theorem back_pick (its : Array Value) : ∀ m, m ≤ its.size → ((List.range m).map fun j => its.size - 1 - j).filterMap (its[·]?) = its.toList.reverse.take m
  | 0, _ => by simp
  | m + 1, hm => by
    have lt : its.size - 1 - m < its.size := by omega
    rw [List.range_succ, List.map_append, List.filterMap_append, back_pick its m (by omega), List.take_succ, List.getElem?_reverse (by simp; omega)]
    simp [lt]
theorem pick_back (its : Array Value) (c : Nat) (hc : 1 ≤ c) : slicePick its none (some (-(c : Int))) (some (-1)) = (its.toList.reverse.take (c - 1)).toArray := by
  have bd : sliceBounds none (some (-(c : Int))) (some (-1)) its.size = ((its.size : Int) - 1, max (-1) ((its.size : Int) - c), -1) := by
    unfold sliceBounds
    have n1 : ¬ ((-1 : Int) > 0) := by decide
    have n2 : (-(c : Int)) < 0 := by omega
    simp only [Option.getD_some, n1, n2, if_true, if_false, Prod.mk.injEq, true_and, and_true]
    omega
  have rg : sliceRange ((its.size : Int) - 1) (max (-1) ((its.size : Int) - c)) (-1) = (List.range (min its.size (c - 1))).map fun j => its.size - 1 - j := by
    unfold sliceRange
    have n1 : ¬ ((-1 : Int) > 0) := by decide
    by_cases h : (its.size : Int) - 1 > max (-1) ((its.size : Int) - c)
    · have e : (((its.size : Int) - 1 - max (-1) ((its.size : Int) - c) - -1 - 1) / (- -1)).toNat = min its.size (c - 1) := by
        rw [show (- -1 : Int) = 1 by decide, Int.ediv_one]
        omega
      simp only [n1, if_false, h, if_true, e]
      refine List.map_congr_left fun j hj => ?_
      have lj := List.mem_range.mp hj
      omega
    · have e : min its.size (c - 1) = 0 := by omega
      simp only [n1, if_false, h, e]
      rfl
  unfold slicePick
  rw [bd]
  show ((sliceRange ((its.size : Int) - 1) (max (-1) ((its.size : Int) - c)) (-1)).filterMap (its[·]?)).toArray = _
  rw [rg, back_pick its _ (Nat.min_le_left _ _)]
  congr 1
  by_cases h : c - 1 ≤ its.size
  · rw [Nat.min_eq_right h]
  · rw [Nat.min_eq_left (by omega), List.take_of_length_le (by simp), List.take_of_length_le (by simp; omega)]
section
variable {X : Cx}
def tBack (K : PySem.W.Frag) (c : Nat) (te : TE) : TE := fun σ H Q => te σ H fun x H1 => ∃ a xs, x = .ref a ∧ SqL K H1 a xs ∧ ∀ q, H1 q = none → Q (.ref q) (upd H1 q (.lst (xs.reverse.take (c - 1))))
theorem pe_back {e : Expr} {te : TE} {c k k2 : Nat} {p1 p2 p3 p4 p5 pos : Pos} (hc : 1 ≤ c) (he : PE X e te) :
    PE X (.Subscript e (.Slice none (some (.UnaryOp .USub (.Constant (.int c) k2 p4) p5)) (some (.UnaryOp .USub (.Constant (.int 1) k p1) p2)) p3) pos) (tBack X.K c te) := by
  refine ⟨fun pins s σ H Q I hq => ?_⟩
  refine Subscript_ (thn (he.run pins s σ H _ I hq) fun v s1 ⟨x, H1, I1, r1, q1⟩ => ?_)
  obtain ⟨a, xs, rfl, hx, fin⟩ := q1
  cases r1
  have po1 : PO X (some (.UnaryOp .USub (.Constant (.int 1) k p1) p2)) (tPart (tUn (rU fun i => .int (-i)) (tC (.int 1)))) := po_some (pe_un un_neg pe_int)
  have po2 : PO X (some (.UnaryOp .USub (.Constant (.int c) k2 p4) p5)) (tPart (tUn (rU fun i => .int (-i)) (tC (.int c)))) := po_some (pe_un un_neg pe_int)
  refine wpAny_Slice (thn (po_none.run pins s1 σ H1 (fun o G2 => o = none ∧ G2 = H1) I1 ⟨rfl, rfl⟩) fun vl s2 ⟨l, H2, I2, pl, eo, eh⟩ => ?_)
  subst eo eh
  refine thn (po2.run pins s2 σ H2 (fun o G3 => o = some (-(c : Int)) ∧ G3 = H2) I2 ⟨_, rfl, -(c : Int), rfl, rfl, rfl⟩) fun vu s3 ⟨u, H3, I3, pu, eo, eh⟩ => ?_
  subst eo eh
  refine thn (po1.run pins s3 σ H3 (fun o G4 => o = some (-1) ∧ G4 = H3) I3 ⟨1, rfl, -1, rfl, rfl, rfl⟩) fun vs s4 ⟨o, H4, I4, ps, eo, eh⟩ => ?_
  subst eo eh
  have I5 : Inv X pins σ H4 { s4 with heap := s4.heap.push { cls := .type "slice", data := .fields #[vl, vu, vs] } } := I4.kept (t' := s4.toks) fun z ob w => Heap.get?_push_of_some _ w
  obtain ⟨its, rr, ht, hz⟩ := I5.list hx
  have ln := rr.length
  show wpAny (model X.prog X.w) X.A (subscriptTail e (.Slice none (some (.UnaryOp .USub (.Constant (.int c) k2 p4) p5)) (some (.UnaryOp .USub (.Constant (.int 1) k p1) p2)) p3) (.ref a) (.ref s4.heap.objs.size)) (EP X pins σ Q) X.xe { s4 with heap := s4.heap.push { cls := .type "slice", data := .fields #[vl, vu, vs] } }
  refine tail_any (ops := [.ref a, .ref s4.heap.objs.size]) ht.isList.typeIs PySem.slot_list_getitem.lookup ?_ (by with_unfolding_all rfl)
  refine wpAny_getItem_list_slice ht.isList (Heap.IsSliceOf.new _ vl vu vs) pl pu ps (by decide) ?_ (by rw [List.size_toArray, ← ln]; exact hz)
  rw [pick_back _ c hc]
  refine ⟨.ref _, _, I5.laid (t' := s4.toks) (o := .lst (xs.reverse.take (c - 1))) (fun z ob w => Heap.get?_push_of_some _ w) (Nat.le_refl _) ?_, rfl, fin _ (I5.hok.fresh (Nat.le_refl _))⟩
  exact ⟨by rw [List.length_take, List.length_reverse]; omega, _, 0, (rr.reverse).take (c - 1), Heap.get?_push_size _ rfl⟩
end
def dBack (c : Nat) (S : Sto) (x : D) : Option D := (seqL S x).map fun ds => .lst (ds.reverse.take (c - 1))
theorem de_back {X : Cx} {B : Bas} {W : WX} {e : Expr} {me : ME} {c k k2 : Nat} {p1 p2 p3 p4 p5 pos : Pos} (hc : 1 ≤ c) (he : PE X e (tE B W me)) (hK : B.K = X.K := by rfl) :
    PE X (.Subscript e (.Slice none (some (.UnaryOp .USub (.Constant (.int c) k2 p4) p5)) (some (.UnaryOp .USub (.Constant (.int 1) k p1) p2)) p3) pos) (tE B W (mUn (dBack c) me)) :=
  PE.cut (pe_back hc he) fun σ H Q ⟨m, S, en, s, cc, er, q⟩ => ⟨m, S, en, s, cc, er, (Post.bind q).imp (by
    rintro v H1 ⟨d, S1, m1, _, l1, c1, r1, p1⟩
    cases h1 : seqL S1 d with
    | none => simp only [dBack, h1] at p1; exact p1.elim
    | some ds =>
      simp only [dBack, h1, Option.map_some] at p1
      obtain ⟨a, vs, rfl, t, rs⟩ := repL l1.sub c1 r1 h1
      rw [hK] at t
      exact ⟨a, vs, rfl, t, q_lst l1.sub c1 p1 (Reps.take (c - 1) rs.rev)⟩)⟩
theorem dBack_ref {S : Sto} {c n : Nat} {ds : List D} (h : S[n]? = some (.lst ds)) : dBack c S (.ref n) = some (.lst (ds.reverse.take (c - 1))) := by
  have e : seqL S (.ref n) = some ds := by simp only [seqL, h]
  unfold dBack
  rw [e]
  rfl
end G
end
section
set_option Elab.async false
set_option linter.all false
set_option maxRecDepth 100000
set_option maxHeartbeats 2000000
/-! G45: {k: v} with one tuple as key -/
namespace G
open PySem PySem.Spec PyProof.Rows L2 RZ
section
variable {X : Cx}
theorem wp_disp1 {prog : Program} {w : World} {A : Around} {E : Value → Shared → Prop} {env : Env} {s : Shared} {k v : Expr} {pos : Pos} {Q : Value → Shared → Prop}
    (h : wpAny (model prog w) A (eval k env) (fun kv s1 => wpAny (model prog w) A (eval v env) (fun vv s2 => wpAny (model prog w) A (dictSet s.heap.objs.size kv vv) (fun _ s3 => Q (.ref s.heap.objs.size) s3) E s2) E s1) E { s with heap := s.heap.push { cls := .type "dict", data := .dict #[] } }) :
    wpAny (model prog w) A (eval (.Dict [some k] [v] pos) env) Q E s := by
  rw [arm_eval_Dict, zip_pairTrees [some k] [v] env pos rfl rfl, dictDisplay_pairs _ (by simp [pairTrees]) (by simp [pairTrees])]
  refine wpAny_bind (wpAny_standAt (wpAny_bind ?_))
  unfold subDict
  refine wpAny_bind (wpAny_alloc ?_)
  refine wpAny_bind (wpAny_holding ?_)
  rw [if_pos (by simp [pairTrees])]
  refine wpAny_bind (pairTrees_cons_walk (wpAny_mono h (fun kv s1 h1 => wpAny_mono h1 (fun vv s2 h2 => pairTrees_nil_walk ?_) fun _ _ e => e) fun _ _ e => e))
  refine wpAny_holding ?_
  rw [List.forIn_cons]
  refine wpAny_bind (wpAny_bind (wpAny_bind (wpAny_mono h2 (fun _ s3 h3 => wpAny_pure ?_) fun _ _ e => e)))
  dsimp only
  rw [List.forIn_nil]
  exact wpAny_pure (wpAny_pure (wpAny_pure (wpAny_pure h3)))
def tDisp1 (tk tv : TE) : TE := fun σ H Q => ∀ D, H D = none → tk σ (upd H D (.dT [])) fun y H1 => tv σ H1 fun z H2 => ∃ (k : List Key) (bk : Addr), y = .ref bk ∧ H2 bk = some (.tup (k.map kV)) ∧ H2 D = some (.dT []) ∧ Q (.ref D) (upd H2 D (.dT (putK [] k z)))
theorem pe_disp1 {k v : Expr} {pos : Pos} {tk tv : TE} (hu : X.A.units + 1 < cLine) (hk : PE X k tk) (hv : PE X v tv) : PE X (.Dict [some k] [v] pos) (tDisp1 tk tv) := by
  refine ⟨fun pins s σ H Q I q => ?_⟩
  have hn := I.hok.fresh (Nat.le_refl s.heap.objs.size)
  have I1 := I.laid (a := s.heap.objs.size) (o := .dT []) (h' := s.heap.push { cls := .type "dict", data := .dict #[] }) (t' := s.toks) (fun _ _ q => Heap.get?_push_of_some _ q) (Nat.le_refl _) (dt_empty s.heap I.big)
  refine wp_disp1 (thn (hk.run pins _ σ _ _ I1 (q _ hn)) fun u s1 ⟨y, H1, I2, ry, q1⟩ => thn (hv.run pins s1 σ H1 _ I2 q1) fun r s2 ⟨z, H2, I3, rz, kk, bk, ey, hb, hD, q2⟩ => ?_)
  subst ey
  exact d_dictSetT hu I3 hD hb (by rw [sizeLine_eq]; simp) ry rz fun s3 I4 => ⟨.ref s.heap.objs.size, _, I4, rfl, q2⟩
end
/-- {y: d} -/
def disp1K (y d : D) (S : Sto) : Res D := match tkeyD y with
  | some _ => .ok (.ref S.length) (S ++ [.dic [y] [d]])
  | none => .bad
def mDisp1 (k v : ME) : ME := fun en S => (k en S).bind fun y S1 => (v en S1).bind fun d S2 => disp1K y d S2
theorem de_disp1 {X : Cx} {B : Bas} {W : WX} {k v : Expr} {pos : Pos} {mk mv : ME} (hu : X.A.units + 1 < cLine) (hk : PE X k (tE B W mk)) (hv : PE X v (tE B W mv)) : PE X (.Dict [some k] [v] pos) (tE B W (mDisp1 mk mv)) :=
  PE.cut (pe_disp1 hu hk hv) fun σ H Q ⟨m, S, en, s, c, er, q⟩ => by
    intro p hp
    have lf : Le m H m (upd H p (.dT [])) := Le.frame s hp
    have hz : m.Z p = none := s.none hp
    refine ⟨m, S, en, lf.sub, c, er, (Post.frameBind q lf).imp ?_⟩
    rintro y H1 ⟨yy, S1, m1, _, l1, c1, r1, p1⟩
    obtain ⟨f1, f2⟩ := l1.fr p (.dT []) hz upd_same
    have l1d : Le m H m1 (G.del H1 p) := by
      have := Le.del (p := p) l1 hz ⟨_, upd_same⟩
      rwa [del_upd, del_new hp] at this
    have p1' := p1.shift l1d
    have lf1 : Le m1 (G.del H1 p) m1 H1 := by
      have := Le.frame (o := .dT []) (a := p) l1d.sub del_at
      rwa [upd_del f1] at this
    refine ⟨m1, S1, en, l1.sub, c1, er.mono l1, (Post.frameBind p1' lf1).imp ?_⟩
    rintro z H2 ⟨d, S2, m2, _, l2, c2, r2, p2⟩
    obtain ⟨g1, g2⟩ := l2.fr p (.dT []) f2 f1
    have l2d : Le m1 (G.del H1 p) m2 (G.del H2 p) := Le.del (p := p) l2 f2 ⟨_, f1⟩
    have p2' := p2.shift l2d
    unfold disp1K at p2'
    cases hy : tkeyD yy with
    | none => simp only [hy] at p2'; exact p2'.elim
    | some kk =>
      simp only [hy] at p2'
      obtain ⟨bk, rfl, hbk⟩ := tkey_at l2.sub (r1.mono l2) hy
      refine ⟨kk, bk, rfl, hbk, g1, ?_⟩
      have hq : tkeysD [yy] = some [kk] := by simp [tkeysD, hy]
      have l3 := Le.add (o := .dT (putK [] kk z)) c2 l2d.sub (p := p) del_at
      have := p2' (m2.add p (.dT (putK [] kk z))) (upd (G.del H2 p) p (.dT (putK [] kk z))) (.ref p) l3 (Cor.add c2 l2d.sub del_at ⟨[z], ⟨rfl, .inr ⟨[kk], hq, upd_same⟩⟩, (Reps.cons r2 Reps.nil).mono l3⟩) (rp_ref c2)
      rwa [upd_del'] at this
theorem mDisp1_ap (k v : ME) (en : En) (S : Sto) : mDisp1 k v en S = (k en S).bind fun y S1 => (v en S1).bind fun d S2 => disp1K y d S2 := rfl
theorem disp1K_I (a b : Int) (d : D) (S : Sto) : disp1K (.tup [.int a, .int b]) d S = .ok (.ref S.length) (S ++ [.dic [.tup [.int a, .int b]] [d]]) := by
  simp [disp1K, tkeyD, keysD, keyD]
end G
end
section
set_option Elab.async false
set_option linter.all false
set_option maxRecDepth 100000
set_option maxHeartbeats 0
namespace T04
open PySem L2 G
def topS (i : Nat) : Stmt := PySem.Challenge.pw_grantsgrow_k04_holders.main.body.getD i (.Pass ⟨0, 0, 0, 0⟩)
abbrev s_BadPolicy_init : Stmt := (inClass (topS 23) 0)
abbrev s_is_integer : Stmt := (topS 2)
abbrev s_is_role : Stmt := (topS 3)
abbrev s_is_word : Stmt := (topS 4)
abbrev s_is_body : Stmt := (topS 5)
abbrev s_grant_word : Stmt := (topS 6)
abbrev s_all_roles : Stmt := (topS 7)
abbrev s_members : Stmt := (topS 9)
abbrev s_by_body : Stmt := (topS 10)
abbrev s_next_round : Stmt := (topS 11)
abbrev s_spread : Stmt := (topS 12)
abbrev s_bits_of : Stmt := (topS 14)
abbrev s_holders : Stmt := (topS 15)
abbrev s_table : Stmt := (topS 16)
abbrev s_held : Stmt := (topS 17)
abbrev s_check_policy : Stmt := (topS 26)
abbrev s_Policy_init : Stmt := (inClass (topS 27) 0)
abbrev s_Policy_owners : Stmt := (inClass (topS 27) 1)
abbrev s_Policy_labels : Stmt := (inClass (topS 27) 2)
abbrev s_Policy_grants : Stmt := (inClass (topS 27) 3)
abbrev s_Policy_roles : Stmt := (inClass (topS 27) 4)
abbrev s_law_deck : Stmt := (topS 29)
abbrev s_law_take : Stmt := (topS 30)
abbrev s_law_one : Stmt := (topS 31)
abbrev s_law_all_roles : Stmt := (topS 32)
abbrev s_law_role : Stmt := (topS 33)
abbrev s_law_body : Stmt := (topS 34)
abbrev s_law_grants : Stmt := (topS 35)
abbrev s_law_parts : Stmt := (topS 36)
abbrev s_law_by : Stmt := (topS 37)
abbrev s_law_known : Stmt := (topS 38)
abbrev s_law_now : Stmt := (topS 39)
abbrev s_law_ringed : Stmt := (topS 40)
abbrev s_law_k04 : Stmt := (topS 41)
def d_is_integer : He.DefD := ⟨("is_integer", none), "is_integer", "is_integer", defArgs s_is_integer, defBody s_is_integer, defScope s_is_integer, [], []⟩
def d_is_role : He.DefD := ⟨("is_role", none), "is_role", "is_role", defArgs s_is_role, defBody s_is_role, defScope s_is_role, [], []⟩
def d_is_word : He.DefD := ⟨("is_word", none), "is_word", "is_word", defArgs s_is_word, defBody s_is_word, defScope s_is_word, [], []⟩
def d_is_body : He.DefD := ⟨("is_body", none), "is_body", "is_body", defArgs s_is_body, defBody s_is_body, defScope s_is_body, [], []⟩
def d_grant_word : He.DefD := ⟨("grant_word", none), "grant_word", "grant_word", defArgs s_grant_word, defBody s_grant_word, defScope s_grant_word, [], []⟩
def d_all_roles : He.DefD := ⟨("all_roles", none), "all_roles", "all_roles", defArgs s_all_roles, defBody s_all_roles, defScope s_all_roles, [], []⟩
def d_members : He.DefD := ⟨("members", none), "members", "members", defArgs s_members, defBody s_members, defScope s_members, [], []⟩
def d_by_body : He.DefD := ⟨("by_body", none), "by_body", "by_body", defArgs s_by_body, defBody s_by_body, defScope s_by_body, [], []⟩
def d_next_round : He.DefD := ⟨("next_round", none), "next_round", "next_round", defArgs s_next_round, defBody s_next_round, defScope s_next_round, [], []⟩
def d_spread : He.DefD := ⟨("spread", none), "spread", "spread", defArgs s_spread, defBody s_spread, defScope s_spread, [], []⟩
def d_bits_of : He.DefD := ⟨("bits_of", none), "bits_of", "bits_of", defArgs s_bits_of, defBody s_bits_of, defScope s_bits_of, [], []⟩
def d_holders : He.DefD := ⟨("holders", none), "holders", "holders", defArgs s_holders, defBody s_holders, defScope s_holders, [], []⟩
def d_table : He.DefD := ⟨("table", none), "table", "table", defArgs s_table, defBody s_table, defScope s_table, [], []⟩
def d_held : He.DefD := ⟨("held", none), "held", "held", defArgs s_held, defBody s_held, defScope s_held, [], []⟩
def d_check_policy : He.DefD := ⟨("check_policy", none), "check_policy", "check_policy", defArgs s_check_policy, defBody s_check_policy, defScope s_check_policy, [], []⟩
def d_Policy_init : He.DefD := ⟨("Policy", some "__init__"), "__init__", "Policy.__init__", defArgs s_Policy_init, defBody s_Policy_init, defScope s_Policy_init, [], []⟩
def d_Policy_owners : He.DefD := ⟨("Policy", some "owners"), "owners", "Policy.owners", defArgs s_Policy_owners, defBody s_Policy_owners, defScope s_Policy_owners, [], []⟩
def d_Policy_labels : He.DefD := ⟨("Policy", some "labels"), "labels", "Policy.labels", defArgs s_Policy_labels, defBody s_Policy_labels, defScope s_Policy_labels, [], []⟩
def d_Policy_grants : He.DefD := ⟨("Policy", some "grants"), "grants", "Policy.grants", defArgs s_Policy_grants, defBody s_Policy_grants, defScope s_Policy_grants, [], []⟩
def d_Policy_roles : He.DefD := ⟨("Policy", some "roles"), "roles", "Policy.roles", defArgs s_Policy_roles, defBody s_Policy_roles, defScope s_Policy_roles, [], []⟩
def d_law_deck : He.DefD := ⟨("_law_deck", none), "_law_deck", "_law_deck", defArgs s_law_deck, defBody s_law_deck, defScope s_law_deck, [], []⟩
def d_law_take : He.DefD := ⟨("_law_take", none), "_law_take", "_law_take", defArgs s_law_take, defBody s_law_take, defScope s_law_take, [], []⟩
def d_law_one : He.DefD := ⟨("_law_one", none), "_law_one", "_law_one", defArgs s_law_one, defBody s_law_one, defScope s_law_one, [], []⟩
def d_law_all_roles : He.DefD := ⟨("_law_all_roles", none), "_law_all_roles", "_law_all_roles", defArgs s_law_all_roles, defBody s_law_all_roles, defScope s_law_all_roles, [], []⟩
def d_law_role : He.DefD := ⟨("_law_role", none), "_law_role", "_law_role", defArgs s_law_role, defBody s_law_role, defScope s_law_role, [], []⟩
def d_law_body : He.DefD := ⟨("_law_body", none), "_law_body", "_law_body", defArgs s_law_body, defBody s_law_body, defScope s_law_body, [], []⟩
def d_law_grants : He.DefD := ⟨("_law_grants", none), "_law_grants", "_law_grants", defArgs s_law_grants, defBody s_law_grants, defScope s_law_grants, [], []⟩
def d_law_parts : He.DefD := ⟨("_law_parts", none), "_law_parts", "_law_parts", defArgs s_law_parts, defBody s_law_parts, defScope s_law_parts, [], []⟩
def d_law_by : He.DefD := ⟨("_law_by", none), "_law_by", "_law_by", defArgs s_law_by, defBody s_law_by, defScope s_law_by, [], []⟩
def d_law_known : He.DefD := ⟨("_law_known", none), "_law_known", "_law_known", defArgs s_law_known, defBody s_law_known, defScope s_law_known, [], []⟩
def d_law_now : He.DefD := ⟨("_law_now", none), "_law_now", "_law_now", defArgs s_law_now, defBody s_law_now, defScope s_law_now, [], []⟩
def d_law_ringed : He.DefD := ⟨("_law_ringed", none), "_law_ringed", "_law_ringed", defArgs s_law_ringed, defBody s_law_ringed, defScope s_law_ringed, [], []⟩
def d_law_k04 : He.DefD := ⟨("law", none), "law", "law", defArgs s_law_k04, defBody s_law_k04, defScope s_law_k04, [], []⟩
def d_BadPolicy_init : He.DefD := ⟨("BadPolicy", some "__init__"), "__init__", "BadPolicy.__init__", defArgs s_BadPolicy_init, defBody s_BadPolicy_init, defScope s_BadPolicy_init, [], []⟩
def clA (K : PySem.W.Frag) : Nat → Addr
  | 13 => He.ga K "BadPolicy"
  | 0 => He.ga K "Policy"
  | _ => 0
def fnl : List He.DefD := ([d_is_integer, d_is_role, d_is_word, d_is_body, d_grant_word, d_all_roles, d_members, d_by_body, d_next_round, d_spread, d_bits_of, d_holders, d_table, d_held, d_check_policy, d_law_deck, d_law_take, d_law_one, d_law_all_roles, d_law_role, d_law_body, d_law_grants, d_law_parts, d_law_by, d_law_known] : List _) ++ ([d_law_now, d_law_ringed, d_law_k04, d_Policy_init, d_Policy_roles, d_BadPolicy_init] : List _)
def gel : List GetD := ([⟨"Policy", "owners", d_Policy_owners⟩, ⟨"Policy", "labels", d_Policy_labels⟩, ⟨"Policy", "grants", d_Policy_grants⟩] : List _)
def fal : List He.Fa := ([.glo "is_integer", .glo "is_role", .glo "is_word", .glo "is_body", .glo "grant_word", .glo "all_roles", .glo "members", .glo "by_body", .glo "next_round", .glo "spread", .glo "bits_of", .glo "holders", .glo "table", .glo "held", .glo "check_policy", .glo "_law_deck", .glo "_law_take", .glo "_law_one", .glo "_law_all_roles", .glo "_law_role", .glo "_law_body", .glo "_law_grants", .glo "_law_parts", .glo "_law_by", .glo "_law_known"] : List _) ++ ([.glo "_law_now", .glo "_law_ringed", .glo "law", .free "abs", .free "bool", .free "dict", .free "enumerate", .free "int", .free "isinstance", .free "len", .free "list", .free "max", .free "min", .free "range", .free "repr", .free "set", .free "sorted", .free "str", .free "tuple", .free "zip", .glo "BadPolicy", .noat "BadPolicy" "number", .noat "BadPolicy" "word", .cls "Policy", .noat "Policy" "parts"] : List _) ++ ([.int "MAX_GRANTS" 240, .int "MAX_LABELS" 4, .int "MAX_OWNERS" 7, .meth "Policy" "roles", .mkr "Policy", .glo "Policy"] : List _)
def exB (K : PySem.W.Frag) : Bool := (iniB K "BadPolicy")
theorem ex_0 {K : PySem.W.Frag} (h : exB K = true) : (iniB K "BadPolicy") = true := h
def loose : List PySem.Str := ([("BadPolicy" : PySem.Str), ("GrantError" : PySem.Str), ("MAX_GRANTS" : PySem.Str), ("MAX_LABELS" : PySem.Str), ("MAX_OWNERS" : PySem.Str), ("NoGrant" : PySem.Str), ("Policy" : PySem.Str), ("_law_all_roles" : PySem.Str), ("_law_body" : PySem.Str), ("_law_by" : PySem.Str), ("_law_deck" : PySem.Str), ("_law_grants" : PySem.Str), ("_law_known" : PySem.Str), ("_law_now" : PySem.Str), ("_law_one" : PySem.Str), ("_law_parts" : PySem.Str), ("_law_ringed" : PySem.Str), ("_law_role" : PySem.Str), ("_law_take" : PySem.Str), ("_wall" : PySem.Str), ("all_roles" : PySem.Str), ("bits_of" : PySem.Str), ("by_body" : PySem.Str), ("check_policy" : PySem.Str), ("grant_word" : PySem.Str)] : List _) ++ ([("held" : PySem.Str), ("holders" : PySem.Str), ("is_body" : PySem.Str), ("is_integer" : PySem.Str), ("is_role" : PySem.Str), ("is_word" : PySem.Str), ("members" : PySem.Str), ("next_round" : PySem.Str), ("spread" : PySem.Str), ("table" : PySem.Str)] : List _)
abbrev R : PySem.W.OpenRow := PySem.W.OpenLaw.row PySem.Challenge.rw_grantsgrow_k04_holders
abbrev hk : PySem.W.Hook := hookP 6 fal fnl gel exB
def ob (s : PySem.W.SharedT) : AlP := obsP 6 fal fnl gel exB (HandSHeadRun.getT s)
theorem ob_eq (s : PySem.W.SharedT) : ob s = hk.obs s.abs := obsP_eq (HandSHeadRun.getT_eq s)
theorem run (w : World) : HandSHeadRun.RunEq R (PySem.W.view R.prog [41]) hk ob 40000 loose w := by
  intro os
  kernel_rfl
end T04
end
section
set_option Elab.async false
set_option linter.all false
/-! SVG: the evaluation's lemmas as one set -/
open PySem L2 G
namespace G
open PySem L2
def evB0 := And.intro @mDisp1_ap (And.intro @mListN_ap (And.intro @listNK_tup (And.intro @listNK_lst (And.intro @Res.bind_ok (And.intro @Res.bind_bad (And.intro @Res.bind_ex (And.intro @optR_some (And.intro @optR_none (And.intro @varR_some (And.intro @mVar_ap (And.intro @mC_ap (And.intro @mOp_ap (And.intro @opK1_ap (And.intro @opK2_ap (And.intro @mUn_ap (And.intro @unK_ap (And.intro @mTest_ap (And.intro @testK_bl (And.intro @mAnd_ap (And.intro @andK_t (And.intro @andK_f (And.intro @mOr_ap (And.intro @orK_t (And.intro @orK_f (And.intro @mNot_ap (And.intro @notK_ap (And.intro @mIf_ap (And.intro @ifK_t (And.intro @ifK_f (And.intro @mAndV_ap (And.intro @andVK_t (And.intro @andVK_f (And.intro @mOrV_ap (And.intro @orVK_t (And.intro @orVK_f (And.intro @mNotV_ap (And.intro @notVK_bl (And.intro @aNil_ap (And.intro @aCons_ap (And.intro @consK1_ap (And.intro @consK2_ap (And.intro @mTup_ap (And.intro @mLst_ap (And.intro @mNew_ap (And.intro @tupK_ok (And.intro @lstK_ok (And.intro @newK_ok (And.intro @mCB_ap (And.intro @cbK_ap (True.intro))))))))))))))))))))))))))))))))))))))))))))))))))
def evB1 := And.intro @mCall_ap (And.intro @callK_ok (And.intro @sNil_ap (And.intro @sSeq_ap (And.intro @seqK_nx (And.intro @seqK_rt (And.intro @seqK_bk (And.intro @seqK_ct (And.intro @sIf_ap (And.intro @ifSK_t (And.intro @ifSK_f (And.intro @sRet_ap (And.intro @retK_ap (And.intro @sRetN_ap (And.intro @sDrop_ap (And.intro @dropK_ap (And.intro @enR_some (And.intro @sAsg_ap (And.intro @asgK_ap (And.intro @gN_ap (And.intro @gsNil_ap (And.intro @gsCons_ap (And.intro @gT_ap (And.intro @sPar_ap (And.intro @parK_ap (And.intro @sBk_ap (And.intro @sCt_ap (And.intro @sFor_ap (And.intro @forK_ap (And.intro @iSeq_ap (And.intro @seqIK_lst (And.intro @seqIK_scr (And.intro @seqIK_tup (And.intro @seqIK_ktp (And.intro @iRg1_ap (And.intro @iRg2_ap (And.intro @fnB_run (And.intro @endK_nx (And.intro @endK_rt (And.intro @dropF_run (And.intro @fnB_n (And.intro @dropF_n (And.intro @Wp_ok (And.intro @Wp_bind (And.intro @cItems_ap (And.intro @itK_ap (And.intro @mLc_ap (And.intro @mLcN_ap (And.intro @lcK_ap (And.intro @lcNK_ap (True.intro))))))))))))))))))))))))))))))))))))))))))))))))))
def evB2 := And.intro @tYesM_ap (And.intro @dAdd_int (And.intro @dSub_int (And.intro @dMod_int (And.intro @dDiv_int (And.intro @dMul_l (And.intro @dMul_r (And.intro @dPow_int (And.intro @dShl_int (And.intro @dAnd_int (And.intro @dOr_int (And.intro @dIdx_ref (And.intro @idxO_lst (And.intro @ixK3_ref (And.intro @ixO_lst (And.intro @ixO2_some (And.intro @ixN_0 (And.intro @ixN_1 (And.intro @ixN_2 (And.intro @appK1_ref (And.intro @appO1_lst (And.intro @appK2_ap (And.intro @appO2_lst (And.intro @extK1_ref (And.intro @extO1_lst (And.intro @extK2_ap (And.intro @extO2_lst (And.intro @rg1K_ok (And.intro @rg2K_ok (And.intro @dLe0_int (And.intro @dGt0_int (And.intro @dGe0_int (And.intro @dLt_int (And.intro @dEq_int (And.intro @dNe_int (And.intro @dIs_non (And.intro @dIsNot_non (And.intro @dNeg_int (And.intro @dIdx_tup (And.intro @dIdx_lst (And.intro @dIdx_scr (And.intro @atI_0 (And.intro @atI_1 (And.intro @atI_2 (And.intro @atI_3 (And.intro @atI_4 (And.intro @dLen_lst (And.intro @dLen_scr (And.intro @dLen_tup (And.intro @dInt_int (True.intro))))))))))))))))))))))))))))))))))))))))))))))))))
def evB3 := And.intro @dInt_bl (And.intro @dAbs_int (And.intro @dStr_str (And.intro @dTuple_lst (And.intro @dTuple_tup (And.intro @dList_tup (And.intro @dList_lst (And.intro @dAll_lst (And.intro @dAny_lst (And.intro @mBMs_ap (And.intro @bmsK1_str (And.intro @bmsK2_ap (And.intro @oNone_ap (And.intro @oSome_ap (And.intro @oSomeK_int (And.intro @mSl_ap (And.intro @slK1_ap (And.intro @slK2_ap (And.intro @slK3_ap (And.intro @dSl_lst (And.intro @dSl_scr (And.intro @dSl_tup (And.intro @sIx_ap (And.intro @ixK1_ap (And.intro @ixK2_ap (And.intro @sApp_ap (And.intro @sExt_ap (And.intro @mFs_ap (And.intro @fsAll_nil (And.intro @fsAll_cons (And.intro @cK0_some (And.intro @cK1_f (And.intro @cK1_t (And.intro @cK2_ap (And.intro @noex_ok (And.intro @noex_ok' (And.intro @Res.drop_self (And.intro @bel_non (And.intro @bel_bl (And.intro @bel_int (And.intro @bel_str (And.intro @bel_tup (And.intro @bel_lst (And.intro @bel_scr (And.intro @bel_ref (And.intro @bels_nil (And.intro @bels_cons (And.intro @loop_nil (And.intro @loop_cons (And.intro @stepR_some (True.intro))))))))))))))))))))))))))))))))))))))))))))))))))
def evB4 := And.intro @turnK_nx (And.intro @turnK_ct (And.intro @turnK_bk (And.intro @turnK_rt (And.intro @nc0 (And.intro @nc1 (And.intro @nc2 (And.intro @nc3 (And.intro @nc4 (And.intro @nc5 (And.intro @nc6 (And.intro @nc7 (And.intro @nc8 (And.intro @nc9 (And.intro @mDisp_ap (And.intro @mDispD_ap (And.intro @dispK_ap (And.intro @dispDK_ap (And.intro @mDEmp_ap (And.intro @mDNew_ap (And.intro @mDictOf_ap (And.intro @dicOf_dic (And.intro @dicOf_ref (And.intro @dicO_dic (And.intro @mDGet2_ap (And.intro @g2K0_emp (And.intro @g2K1_ap (And.intro @g2K2_ap (And.intro @mDcN_ap (And.intro @dcK0_ap (And.intro @dcK2_ap (And.intro @sKPutS_ap (And.intro @kpK1_ap (And.intro @kpK2_ap (And.intro @sDPutS_ap (And.intro @dpK1_ap (And.intro @dpK2_ap (And.intro @mProp_ap (And.intro @mFld_ap (And.intro @fldK_ins (And.intro @fldO_hd (And.intro @mMeth_ap (And.intro @methK2_ok (And.intro @mMake_ap (And.intro @sFldS_ap (And.intro @fsK0_ap (And.intro @iEnum_ap (And.intro @enumK_tup (And.intro @enumK_lst (And.intro @iZip_ap (True.intro))))))))))))))))))))))))))))))))))))))))))))))))))
def evB5 := And.intro @zipK_tup (And.intro @zipK_lst (And.intro @mChain_ap (And.intro @chK1_ap (And.intro @chK2_ap (And.intro @chK3_t (And.intro @chK3_f (And.intro @chK4_ap (And.intro @sPar3_ap (And.intro @par3K_ap (And.intro @sRaise_ap (And.intro @frzF_run (And.intro @frzF_n (And.intro @dIdxA_tup (And.intro @dIdxA_lst (And.intro @dLe_int (And.intro @tkey2 (And.intro @isi_int_int (And.intro @isi_int_bool (And.intro @isi_tup_tup (And.intro @isi_str_str (And.intro @sWhile_ap (And.intro @dNe_same (And.intro @getA0 (And.intro @getAk (And.intro @setA0 (And.intro @setAk (And.intro @lenA (And.intro @appA (And.intro @rg1K_nat (And.intro @mLenO_ap (And.intro @dRev_lst (And.intro @dIsNotB_tt (And.intro @dIsNotB_ff (And.intro @dIsB_tt (And.intro @dIsB_ff (And.intro @dIsB_tf (And.intro @dIsB_ft (And.intro @mRg1_ap (And.intro @rgK1_int (And.intro @mRg2_ap (And.intro @rgK2a_ap (And.intro @rgK2_int (And.intro @mCmpO_ap (And.intro @cmpOK1_ap (And.intro @mIsiO_ap (And.intro @rgLR_nat (And.intro @rgTR_nat (True.intro))))))))))))))))))))))))))))))))))))))))))))))))
end G
end
section
set_option Elab.async false
set_option linter.all false
set_option maxRecDepth 100000
set_option maxHeartbeats 4000000
namespace P
open PySem L2 G
noncomputable def ms_is_integer : MS :=
    (sRet (mAndV (mCB dIsi (aCons (mVar 0) (aCons (mC (.ty "int")) aNil))) (mAndV (mNotV (mCB dIsi (aCons (mVar 0) (aCons (mC (.ty "bool")) aNil)))) (mChain dLe dLe (mVar 1) (mVar 0) (mVar 2)))))
noncomputable def fn_is_integer : Fn := dropF (fnB 3 3 ms_is_integer)
theorem n_is_integer : fn_is_integer.n = 3 := Nat.le_antisymm (Nat.le_refl _) (Nat.le_refl _)
noncomputable def ms_is_role : MS :=
    (sSeq (sIf (mOr (mNot (mTest (mCB dIsi (aCons (mVar 2) (aCons (mC (.ty "tuple")) aNil))))) (mTest (mOp dNe (mCB dLen (aCons (mVar 2) aNil)) (mC (.int 2))))) (sRet (mC (.bl false))) sNil)
    (sRet (mAndV (mCall fn_is_integer (aCons (mOp dIdxA (mVar 2) (mC (.int 0))) (aCons (mC (.int 0)) (aCons (mOp dSub (mVar 0) (mC (.int 1))) aNil)))) (mCall fn_is_integer (aCons (mOp dIdxA (mVar 2) (mC (.int 1))) (aCons (mC (.int 0)) (aCons (mOp dSub (mVar 1) (mC (.int 1))) aNil)))))))
noncomputable def fn_is_role : Fn := dropF (fnB 3 3 ms_is_role)
theorem n_is_role : fn_is_role.n = 3 := Nat.le_antisymm (Nat.le_refl _) (Nat.le_refl _)
noncomputable def ms_is_word : MS :=
    (sRet (mAndV (mCB dIsi (aCons (mVar 0) (aCons (mC (.ty "str")) aNil))) (mOp dIn (mVar 0) (mVar 1))))
noncomputable def fn_is_word : Fn := dropF (fnB 2 2 ms_is_word)
theorem n_is_word : fn_is_word.n = 2 := Nat.le_antisymm (Nat.le_refl _) (Nat.le_refl _)
noncomputable def ms_is_body : MS :=
    (sSeq (sIf (mOr (mNot (mTest (mCB dIsi (aCons (mVar 2) (aCons (mC (.ty "tuple")) aNil))))) (mOr (mTest (mOp dLt (mCB dLen (aCons (mVar 2) aNil)) (mC (.int 2)))) (mNot (mTest (mCall fn_is_word (aCons (mOp dIdxA (mVar 2) (mC (.int 0))) (aCons (mTup (aCons (mC (.str "owner")) (aCons (mC (.str "role")) (aCons (mC (.str "through")) (aCons (mC (.str "both")) aNil))))) aNil))))))) (sRet (mC (.bl false))) sNil)
    (sSeq (sIf (mTest (mOp dNe (mCB dLen (aCons (mVar 2) aNil)) (mIf (mTest (mOp dIn (mOp dIdxA (mVar 2) (mC (.int 0))) (mTup (aCons (mC (.str "owner")) (aCons (mC (.str "role")) aNil))))) (mC (.int 2)) (mC (.int 3))))) (sRet (mC (.bl false))) sNil)
    (sSeq (sIf (mTest (mOp dEq (mOp dIdxA (mVar 2) (mC (.int 0))) (mC (.str "owner")))) (sRet (mCall fn_is_integer (aCons (mOp dIdxA (mVar 2) (mC (.int 1))) (aCons (mC (.int 0)) (aCons (mOp dSub (mVar 0) (mC (.int 1))) aNil))))) sNil)
    (sSeq (sIf (mNot (mTest (mCall fn_is_role (aCons (mVar 0) (aCons (mVar 1) (aCons (mOp dIdxA (mVar 2) (mC (.int 1))) aNil)))))) (sRet (mC (.bl false))) sNil)
    (sSeq (sIf (mTest (mOp dEq (mOp dIdxA (mVar 2) (mC (.int 0))) (mC (.str "through")))) (sRet (mCall fn_is_integer (aCons (mOp dIdxA (mVar 2) (mC (.int 2))) (aCons (mC (.int 0)) (aCons (mOp dSub (mVar 1) (mC (.int 1))) aNil))))) sNil)
    (sRet (mOrV (mOp dEq (mOp dIdxA (mVar 2) (mC (.int 0))) (mC (.str "role"))) (mAndV (mCall fn_is_role (aCons (mVar 0) (aCons (mVar 1) (aCons (mOp dIdxA (mVar 2) (mC (.int 2))) aNil)))) (mOp dLt (mOp dIdxA (mVar 2) (mC (.int 1))) (mOp dIdxA (mVar 2) (mC (.int 2))))))))))))
noncomputable def fn_is_body : Fn := dropF (fnB 3 3 ms_is_body)
theorem n_is_body : fn_is_body.n = 3 := Nat.le_antisymm (Nat.le_refl _) (Nat.le_refl _)
noncomputable def ms_grant_word : MS :=
    (sSeq (sIf (mOr (mNot (mTest (mCB dIsi (aCons (mVar 2) (aCons (mC (.ty "tuple")) aNil))))) (mTest (mOp dNe (mCB dLen (aCons (mVar 2) aNil)) (mC (.int 2))))) (sRet (mC (.str "grant"))) sNil)
    (sSeq (sIf (mNot (mTest (mCall fn_is_role (aCons (mVar 0) (aCons (mVar 1) (aCons (mOp dIdxA (mVar 2) (mC (.int 0))) aNil)))))) (sRet (mC (.str "role"))) sNil)
    (sRet (mIf (mTest (mCall fn_is_body (aCons (mVar 0) (aCons (mVar 1) (aCons (mOp dIdxA (mVar 2) (mC (.int 1))) aNil))))) (mC .non) (mC (.str "body"))))))
noncomputable def fn_grant_word : Fn := dropF (fnB 3 3 ms_grant_word)
theorem n_grant_word : fn_grant_word.n = 3 := Nat.le_antisymm (Nat.le_refl _) (Nat.le_refl _)
noncomputable def ms_all_roles : MS :=
    (sSeq (sAsg (mNew aNil) (gN 2))
    (sSeq (sFor (iRg1 (aCons (mVar 0) aNil)) (gN 3)
    (sExt (mVar 2) (mLc (iRg1 (aCons (mVar 1) aNil)) (gN 4) tYesM (mTup (aCons (mVar 3) (aCons (mVar 4) aNil))) [4])))
    (sRet (mCB dTuple (aCons (mVar 2) aNil)))))
noncomputable def fn_all_roles : Fn := dropF (fnB 2 5 ms_all_roles)
theorem n_all_roles : fn_all_roles.n = 2 := Nat.le_antisymm (Nat.le_refl _) (Nat.le_refl _)
noncomputable def ms_check_policy : MS :=
    (sSeq (sIf (mNot (mTest (mCall fn_is_integer (aCons (mVar 0) (aCons (mC (.int 1)) (aCons (mC (.int 7)) aNil)))))) (sRaise 13 ["word", "number"] (aCons (mC .non) (aCons (mC (.str "owners")) aNil))) sNil)
    (sSeq (sIf (mNot (mTest (mCall fn_is_integer (aCons (mVar 1) (aCons (mC (.int 1)) (aCons (mC (.int 4)) aNil)))))) (sRaise 13 ["word", "number"] (aCons (mC .non) (aCons (mC (.str "labels")) aNil))) sNil)
    (sSeq (sIf (mOr (mNot (mTest (mCB dIsi (aCons (mVar 2) (aCons (mC (.ty "tuple")) aNil))))) (mTest (mOp dGt0 (mCB dLen (aCons (mVar 2) aNil)) (mC (.int 240))))) (sRaise 13 ["word", "number"] (aCons (mC .non) (aCons (mC (.str "grants")) aNil))) sNil)
    (sFor (iEnum (mVar 2)) (gT 2 (gsCons (gN 3) (gsCons (gN 4) gsNil)))
    (sSeq (sAsg (mCall fn_grant_word (aCons (mVar 0) (aCons (mVar 1) (aCons (mVar 4) aNil)))) (gN 5))
    (sSeq (sIf (mAnd (mTest (mOp dIs (mVar 5) (mC .non))) (mAnd (mTest (mOp dGt0 (mVar 3) (mC (.int 0)))) (mTest (mOp dLe (mVar 4) (mOp dIdxA (mVar 2) (mOp dSub (mVar 3) (mC (.int 1)))))))) (sAsg (mC (.str "order")) (gN 5)) sNil)
    (sIf (mTest (mOp dIsNot (mVar 5) (mC .non))) (sRaise 13 ["word", "number"] (aCons (mVar 3) (aCons (mVar 5) aNil))) sNil)))))))
noncomputable def fn_check_policy : Fn := dropF (fnB 3 6 ms_check_policy)
theorem n_check_policy : fn_check_policy.n = 3 := Nat.le_antisymm (Nat.le_refl _) (Nat.le_refl _)
noncomputable def ms_Policy_init : MS :=
    (sSeq (sDrop (mCall fn_check_policy (aCons (mVar 1) (aCons (mVar 2) (aCons (mVar 3) aNil)))))
    (sFldS [0] "parts" (mVar 0) (mTup (aCons (mVar 1) (aCons (mVar 2) (aCons (mVar 3) aNil))))))
noncomputable def fn_Policy_init : Fn := (fnB 4 4 ms_Policy_init)
theorem n_Policy_init : fn_Policy_init.n = 4 := Nat.le_antisymm (Nat.le_refl _) (Nat.le_refl _)
noncomputable def ms_Policy_owners : MS :=
    (sRet (mOp dIdxA (mFld [0] "parts" (mVar 0)) (mC (.int 0))))
noncomputable def fn_Policy_owners : Fn := dropF (fnB 1 1 ms_Policy_owners)
theorem n_Policy_owners : fn_Policy_owners.n = 1 := Nat.le_antisymm (Nat.le_refl _) (Nat.le_refl _)
noncomputable def ms_Policy_labels : MS :=
    (sRet (mOp dIdxA (mFld [0] "parts" (mVar 0)) (mC (.int 1))))
noncomputable def fn_Policy_labels : Fn := dropF (fnB 1 1 ms_Policy_labels)
theorem n_Policy_labels : fn_Policy_labels.n = 1 := Nat.le_antisymm (Nat.le_refl _) (Nat.le_refl _)
noncomputable def ms_Policy_grants : MS :=
    (sRet (mOp dIdxA (mFld [0] "parts" (mVar 0)) (mC (.int 2))))
noncomputable def fn_Policy_grants : Fn := dropF (fnB 1 1 ms_Policy_grants)
theorem n_Policy_grants : fn_Policy_grants.n = 1 := Nat.le_antisymm (Nat.le_refl _) (Nat.le_refl _)
noncomputable def ms_Policy_roles : MS :=
    (sRet (mCall fn_all_roles (aCons (mProp 0 fn_Policy_owners (mVar 0)) (aCons (mProp 0 fn_Policy_labels (mVar 0)) aNil))))
noncomputable def fn_Policy_roles : Fn := dropF (fnB 1 1 ms_Policy_roles)
theorem n_Policy_roles : fn_Policy_roles.n = 1 := Nat.le_antisymm (Nat.le_refl _) (Nat.le_refl _)
noncomputable def ms_law_deck : MS :=
    (sSeq (sAsg (mC (.int 0)) (gN 1))
    (sSeq (sFor (iSeq (mSl (mVar 0) oNone (oSome (mC (.int 57))))) (gN 2)
    (sIf (mTest (mOp dGe0 (mCB dAbs (aCons (mVar 2) aNil)) (mOp dPow (mC (.int 10)) (mC (.int 18))))) (sAsg (mOp dAdd (mOp dMul (mVar 1) (mC (.int 83))) (mCB dAbs (aCons (mVar 2) aNil))) (gN 1)) sNil))
    (sRet (mDisp ["cells", "turn", "great"] (aCons (mOp dAdd (mCB dList (aCons (mSl (mVar 0) oNone (oSome (mC (.int 57)))) aNil)) (mLst (aCons (mOp dAdd (mCB dLen (aCons (mVar 0) aNil)) (mC (.int 23))) aNil))) (aCons (mC (.int 0)) (aCons (mVar 1) aNil)))))))
noncomputable def fn_law_deck : Fn := (fnB 1 3 ms_law_deck)
theorem n_law_deck : fn_law_deck.n = 1 := Nat.le_antisymm (Nat.le_refl _) (Nat.le_refl _)
noncomputable def ms_law_take : MS :=
    (sSeq (sKPutS (mVar 0) (mC (.str "turn")) (mOp dAdd (mOp dIdxA (mVar 0) (mC (.str "turn"))) (mC (.int 1))))
    (sSeq (sIf (mTest (mOp dGt0 (mOp dIdxA (mVar 0) (mC (.str "great"))) (mC (.int 0)))) (sSeq (sAsg (mOp dMod (mOp dIdxA (mVar 0) (mC (.str "great"))) (mVar 1)) (gN 2))
    (sSeq (sKPutS (mVar 0) (mC (.str "great")) (mOp dDiv (mOp dIdxA (mVar 0) (mC (.str "great"))) (mVar 1)))
    (sRet (mVar 2)))) sNil)
    (sSeq (sPar 3 4 (aCons (mOp dIdxA (mVar 0) (mC (.str "turn"))) (aCons (mOp dIdxA (mVar 0) (mC (.str "cells"))) aNil)))
    (sSeq (sAsg (mOp dMod (mOp dPow (mOp dAdd (mOp dAdd (mOp dMod (mOp dIdxA (mVar 4) (mOp dMod (mVar 3) (mCB dLen (aCons (mVar 4) aNil)))) (mC (.int 2147483399))) (mOp dMul (mC (.int 70001)) (mVar 3))) (mC (.int 41))) (mC (.int 3))) (mC (.int 2147483489))) (gN 5))
    (sRet (mOp dMod (mOp dDiv (mOp dMod (mOp dAdd (mOp dMul (mVar 5) (mC (.int 53101))) (mOp dMul (mOp dMul (mC (.int 6397)) (mVar 3)) (mVar 3))) (mC (.int 2147483423))) (mC (.int 13))) (mVar 1)))))))
noncomputable def fn_law_take : Fn := dropF (fnB 2 6 ms_law_take)
theorem n_law_take : fn_law_take.n = 2 := Nat.le_antisymm (Nat.le_refl _) (Nat.le_refl _)
noncomputable def ms_law_one : MS :=
    (sRet (mOp dIdxA (mVar 1) (mCall fn_law_take (aCons (mVar 0) (aCons (mCB dLen (aCons (mVar 1) aNil)) aNil)))))
noncomputable def fn_law_one : Fn := dropF (fnB 2 2 ms_law_one)
theorem n_law_one : fn_law_one.n = 2 := Nat.le_antisymm (Nat.le_refl _) (Nat.le_refl _)
noncomputable def ms_law_all_roles : MS :=
    (sSeq (sAsg (mNew aNil) (gN 2))
    (sSeq (sFor (iRg1 (aCons (mVar 0) aNil)) (gN 3)
    (sExt (mVar 2) (mLc (iRg1 (aCons (mVar 1) aNil)) (gN 4) tYesM (mTup (aCons (mVar 3) (aCons (mVar 4) aNil))) [4])))
    (sRet (mVar 2))))
noncomputable def fn_law_all_roles : Fn := frzF (fnB 2 5 ms_law_all_roles)
theorem n_law_all_roles : fn_law_all_roles.n = 2 := Nat.le_antisymm (Nat.le_refl _) (Nat.le_refl _)
noncomputable def ms_law_role : MS :=
    (sRet (mTup (aCons (mCall fn_law_take (aCons (mVar 0) (aCons (mVar 1) aNil))) (aCons (mCall fn_law_take (aCons (mVar 0) (aCons (mVar 2) aNil))) aNil))))
noncomputable def fn_law_role : Fn := dropF (fnB 3 3 ms_law_role)
theorem n_law_role : fn_law_role.n = 3 := Nat.le_antisymm (Nat.le_refl _) (Nat.le_refl _)
noncomputable def ms_law_body : MS :=
    (sSeq (sAsg (mCall fn_law_one (aCons (mVar 0) (aCons (mOp dAdd (mLst (aCons (mC (.str "owner")) (aCons (mC (.str "owner")) (aCons (mC (.str "role")) (aCons (mC (.str "role")) (aCons (mC (.str "both")) aNil)))))) (mIf (mTest (mVar 3)) (mLst aNil) (mLst (aCons (mC (.str "through")) (aCons (mC (.str "through")) aNil))))) aNil))) (gN 4))
    (sSeq (sIf (mTest (mOp dEq (mVar 4) (mC (.str "owner")))) (sRet (mTup (aCons (mC (.str "owner")) (aCons (mCall fn_law_take (aCons (mVar 0) (aCons (mVar 1) aNil))) aNil)))) sNil)
    (sSeq (sPar 5 6 (aCons (mCall fn_law_role (aCons (mVar 0) (aCons (mVar 1) (aCons (mVar 2) aNil)))) (aCons (mCall fn_law_role (aCons (mVar 0) (aCons (mVar 1) (aCons (mVar 2) aNil)))) aNil)))
    (sSeq (sIf (mTest (mOp dEq (mVar 4) (mC (.str "through")))) (sRet (mTup (aCons (mC (.str "through")) (aCons (mVar 5) (aCons (mCall fn_law_take (aCons (mVar 0) (aCons (mVar 2) aNil))) aNil))))) sNil)
    (sSeq (sIf (mOr (mTest (mOp dEq (mVar 4) (mC (.str "role")))) (mTest (mOp dEq (mVar 5) (mVar 6)))) (sRet (mTup (aCons (mC (.str "role")) (aCons (mVar 5) aNil)))) sNil)
    (sRet (mTup (aCons (mC (.str "both")) (aCons (mCB dMin2 (aCons (mVar 5) (aCons (mVar 6) aNil))) (aCons (mCB dMax2 (aCons (mVar 5) (aCons (mVar 6) aNil))) aNil))))))))))
noncomputable def fn_law_body : Fn := dropF (fnB 4 7 ms_law_body)
theorem n_law_body : fn_law_body.n = 4 := Nat.le_antisymm (Nat.le_refl _) (Nat.le_refl _)
noncomputable def ms_law_grants : MS :=
    (sSeq (sAsg (mLc (iRg1 (aCons (mC (.int 3)) aNil)) (gN 7) tYesM (mCall fn_law_role (aCons (mVar 0) (aCons (mVar 1) (aCons (mVar 2) aNil)))) [7]) (gN 5))
    (sSeq (sAsg (mNew aNil) (gN 6))
    (sSeq (sFor (iRg1 (aCons (mVar 3) aNil)) (gN 7)
    (sSeq (sAsg (mCall fn_law_one (aCons (mVar 0) (aCons (mOp dAdd (mVar 5) (mLst (aCons (mCall fn_law_role (aCons (mVar 0) (aCons (mVar 1) (aCons (mVar 2) aNil)))) aNil))) aNil))) (gN 8))
    (sApp (mVar 6) (mTup (aCons (mVar 8) (aCons (mCall fn_law_body (aCons (mVar 0) (aCons (mVar 1) (aCons (mVar 2) (aCons (mVar 4) aNil))))) aNil))))))
    (sRet (mCB dTuple (aCons (mCB dSortSet (aCons (mVar 6) aNil)) aNil))))))
noncomputable def fn_law_grants : Fn := dropF (fnB 5 9 ms_law_grants)
theorem n_law_grants : fn_law_grants.n = 5 := Nat.le_antisymm (Nat.le_refl _) (Nat.le_refl _)
noncomputable def ms_law_parts : MS :=
    (sSeq (sPar 3 4 (aCons (mOp dAdd (mC (.int 1)) (mCall fn_law_take (aCons (mVar 0) (aCons (mVar 1) aNil)))) (aCons (mOp dAdd (mC (.int 1)) (mCall fn_law_take (aCons (mVar 0) (aCons (mC (.int 4)) aNil)))) aNil)))
    (sRet (mTup (aCons (mVar 3) (aCons (mVar 4) (aCons (mCall fn_law_grants (aCons (mVar 0) (aCons (mVar 3) (aCons (mVar 4) (aCons (mCall fn_law_one (aCons (mVar 0) (aCons (mLst (aCons (mC (.int 0)) (aCons (mC (.int 2)) (aCons (mC (.int 4)) (aCons (mC (.int 6)) (aCons (mC (.int 9)) (aCons (mC (.int 14)) (aCons (mC (.int 24)) aNil)))))))) aNil))) (aCons (mVar 2) aNil)))))) aNil))))))
noncomputable def fn_law_parts : Fn := dropF (fnB 3 5 ms_law_parts)
theorem n_law_parts : fn_law_parts.n = 3 := Nat.le_antisymm (Nat.le_refl _) (Nat.le_refl _)
noncomputable def ms_members : MS :=
    (sSeq (sPar 1 2 (aCons (mNew aNil) (aCons (mC (.int 0)) aNil)))
    (sSeq (sWhile 100000 (mTest (mOp dGt0 (mVar 0) (mC (.int 0))))
    (sSeq (sIf (mTest (mOp dEq (mOp dMod (mVar 0) (mC (.int 2))) (mC (.int 1)))) (sApp (mVar 1) (mVar 2)) sNil)
    (sPar 0 2 (aCons (mOp dDiv (mVar 0) (mC (.int 2))) (aCons (mOp dAdd (mVar 2) (mC (.int 1))) aNil)))))
    (sRet (mCB dTuple (aCons (mVar 1) aNil)))))
noncomputable def fn_members : Fn := dropF (fnB 1 3 ms_members)
theorem n_members : fn_members.n = 1 := Nat.le_antisymm (Nat.le_refl _) (Nat.le_refl _)
noncomputable def ms_by_body : MS :=
    (sSeq (sIf (mTest (mOp dEq (mOp dIdxA (mVar 0) (mC (.int 0))) (mC (.str "owner")))) (sRet (mOp dShl (mC (.int 1)) (mOp dIdxA (mVar 0) (mC (.int 1))))) sNil)
    (sSeq (sIf (mTest (mOp dEq (mOp dIdxA (mVar 0) (mC (.int 0))) (mC (.str "role")))) (sRet (mOp dIdxA (mVar 1) (mOp dIdxA (mVar 0) (mC (.int 1))))) sNil)
    (sSeq (sIf (mTest (mOp dEq (mOp dIdxA (mVar 0) (mC (.int 0))) (mC (.str "both")))) (sRet (mOp dAnd (mOp dIdxA (mVar 1) (mOp dIdxA (mVar 0) (mC (.int 1)))) (mOp dIdxA (mVar 1) (mOp dIdxA (mVar 0) (mC (.int 2)))))) sNil)
    (sSeq (sAsg (mC (.int 0)) (gN 2))
    (sSeq (sFor (iSeq (mCall fn_members (aCons (mOp dIdxA (mVar 1) (mOp dIdxA (mVar 0) (mC (.int 1)))) aNil))) (gN 3)
    (sAsg (mOp dOr (mVar 2) (mOp dIdxA (mVar 1) (mTup (aCons (mVar 3) (aCons (mOp dIdxA (mVar 0) (mC (.int 2))) aNil))))) (gN 2)))
    (sRet (mVar 2)))))))
noncomputable def fn_by_body : Fn := dropF (fnB 2 4 ms_by_body)
theorem n_by_body : fn_by_body.n = 2 := Nat.le_antisymm (Nat.le_refl _) (Nat.le_refl _)
noncomputable def ms_next_round : MS :=
    (sSeq (sAsg (mDictOf (mVar 1)) (gN 2))
    (sSeq (sFor (iSeq (mVar 0)) (gT 2 (gsCons (gN 3) (gsCons (gN 4) gsNil)))
    (sDPutS (mVar 2) (mVar 3) (mOp dOr (mOp dIdxA (mVar 2) (mVar 3)) (mCall fn_by_body (aCons (mVar 4) (aCons (mVar 1) aNil))))))
    (sRet (mVar 2))))
noncomputable def fn_next_round : Fn := frzF (fnB 2 5 ms_next_round)
theorem n_next_round : fn_next_round.n = 2 := Nat.le_antisymm (Nat.le_refl _) (Nat.le_refl _)
noncomputable def ms_spread : MS :=
    (sSeq (sAsg (mDcN (iSeq (mCall fn_all_roles (aCons (mVar 0) (aCons (mVar 1) aNil)))) (gN 6) tYesM (mVar 6) (mDGet2 (mVar 3) (mVar 6) (mC (.int 0))) [6]) (gN 4))
    (sSeq (sAsg (mCall fn_next_round (aCons (mVar 2) (aCons (mVar 4) aNil))) (gN 5))
    (sSeq (sWhile 100000 (mTest (mOp dNeT (mVar 5) (mVar 4)))
    (sSeq (sAsg (mVar 5) (gN 4))
    (sAsg (mCall fn_next_round (aCons (mVar 2) (aCons (mVar 4) aNil))) (gN 5))))
    (sRet (mVar 4)))))
noncomputable def fn_spread : Fn := frzF (fnB 4 7 ms_spread)
theorem n_spread : fn_spread.n = 4 := Nat.le_antisymm (Nat.le_refl _) (Nat.le_refl _)
noncomputable def ms_bits_of : MS :=
    (sRet (mCall fn_spread (aCons (mProp 0 fn_Policy_owners (mVar 0)) (aCons (mProp 0 fn_Policy_labels (mVar 0)) (aCons (mProp 0 fn_Policy_grants (mVar 0)) (aCons mDEmp aNil))))))
noncomputable def fn_bits_of : Fn := dropF (fnB 1 1 ms_bits_of)
theorem n_bits_of : fn_bits_of.n = 1 := Nat.le_antisymm (Nat.le_refl _) (Nat.le_refl _)
noncomputable def ms_holders : MS :=
    (sRet (mCall fn_members (aCons (mOp dIdxA (mCall fn_bits_of (aCons (mVar 0) aNil)) (mVar 1)) aNil)))
noncomputable def fn_holders : Fn := dropF (fnB 2 2 ms_holders)
theorem n_holders : fn_holders.n = 2 := Nat.le_antisymm (Nat.le_refl _) (Nat.le_refl _)
noncomputable def ms_table : MS :=
    (sSeq (sAsg (mCall fn_bits_of (aCons (mVar 0) aNil)) (gN 1))
    (sRet (mCB dTuple (aCons (mLc (iSeq (mMeth 0 "roles" fn_Policy_roles (mVar 0) aNil)) (gN 2) tYesM (mCall fn_members (aCons (mOp dIdxA (mVar 1) (mVar 2)) aNil)) [2]) aNil))))
noncomputable def fn_table : Fn := dropF (fnB 1 3 ms_table)
theorem n_table : fn_table.n = 1 := Nat.le_antisymm (Nat.le_refl _) (Nat.le_refl _)
noncomputable def ms_held : MS :=
    (sSeq (sAsg (mCall fn_bits_of (aCons (mVar 0) aNil)) (gN 2))
    (sRet (mCB dTuple (aCons (mLc (iSeq (mMeth 0 "roles" fn_Policy_roles (mVar 0) aNil)) (gN 3) (mTest (mOp dIn (mVar 1) (mCall fn_members (aCons (mOp dIdxA (mVar 2) (mVar 3)) aNil)))) (mVar 3) [3]) aNil))))
noncomputable def fn_held : Fn := dropF (fnB 2 4 ms_held)
theorem n_held : fn_held.n = 2 := Nat.le_antisymm (Nat.le_refl _) (Nat.le_refl _)
noncomputable def ms_law_by : MS :=
    (sSeq (sIf (mTest (mOp dEq (mOp dIdxA (mVar 0) (mC (.int 0))) (mC (.str "owner")))) (sRet (mLst (aCons (mOp dIdxA (mVar 0) (mC (.int 1))) aNil))) sNil)
    (sSeq (sIf (mTest (mOp dEq (mOp dIdxA (mVar 0) (mC (.int 0))) (mC (.str "role")))) (sRet (mOp dIdxA (mVar 1) (mOp dIdxA (mVar 0) (mC (.int 1))))) sNil)
    (sSeq (sIf (mTest (mOp dEq (mOp dIdxA (mVar 0) (mC (.int 0))) (mC (.str "both")))) (sRet (mLc (iSeq (mOp dIdxA (mVar 1) (mOp dIdxA (mVar 0) (mC (.int 1))))) (gN 4) (mTest (mOp dIn (mVar 4) (mOp dIdxA (mVar 1) (mOp dIdxA (mVar 0) (mC (.int 2)))))) (mVar 4) [4])) sNil)
    (sSeq (sAsg (mLst aNil) (gN 2))
    (sSeq (sFor (iSeq (mOp dIdxA (mVar 1) (mOp dIdxA (mVar 0) (mC (.int 1))))) (gN 3)
    (sAsg (mOp dAdd (mVar 2) (mLc (iSeq (mOp dIdxA (mVar 1) (mTup (aCons (mVar 3) (aCons (mOp dIdxA (mVar 0) (mC (.int 2))) aNil))))) (gN 4) (mTest (mOp dNotIn (mVar 4) (mVar 2))) (mVar 4) [4])) (gN 2)))
    (sRet (mVar 2)))))))
noncomputable def fn_law_by : Fn := dropF (fnB 2 5 ms_law_by)
theorem n_law_by : fn_law_by.n = 2 := Nat.le_antisymm (Nat.le_refl _) (Nat.le_refl _)
noncomputable def ms_law_known : MS :=
    (sSeq (sAsg (mTup (aCons mDNew (aCons (mC (.bl true)) aNil))) (gT 2 (gsCons (gN 4) (gsCons (gN 5) gsNil))))
    (sSeq (sFor (iSeq (mCall fn_law_all_roles (aCons (mVar 0) (aCons (mVar 1) aNil)))) (gN 6)
    (sDPutS (mVar 4) (mVar 6) (mCB dList (aCons (mDGet2 (mVar 3) (mVar 6) (mLst aNil)) aNil))))
    (sSeq (sWhile 100000 (mTest (mVar 5))
    (sSeq (sAsg (mC (.bl false)) (gN 5))
    (sFor (iSeq (mVar 2)) (gT 2 (gsCons (gN 6) (gsCons (gN 7) gsNil)))
    (sSeq (sAsg (mLc (iSeq (mCall fn_law_by (aCons (mVar 7) (aCons (mVar 4) aNil)))) (gN 9) (mTest (mOp dNotIn (mVar 9) (mOp dIdxA (mVar 4) (mVar 6)))) (mVar 9) [9]) (gN 8))
    (sIf (mTest (mOp dNe (mVar 8) (mLst aNil))) (sSeq (sDPutS (mVar 4) (mVar 6) (mCB dSortA (aCons (mOp dAdd (mOp dIdxA (mVar 4) (mVar 6)) (mVar 8)) aNil)))
    (sAsg (mC (.bl true)) (gN 5))) sNil)))))
    (sRet (mVar 4)))))
noncomputable def fn_law_known : Fn := frzF (fnB 4 10 ms_law_known)
theorem n_law_known : fn_law_known.n = 4 := Nat.le_antisymm (Nat.le_refl _) (Nat.le_refl _)
noncomputable def ms_law_now : MS :=
    (sRet (mCall fn_law_known (aCons (mOp dIdxA (mVar 0) (mC (.int 0))) (aCons (mOp dIdxA (mVar 0) (mC (.int 1))) (aCons (mOp dIdxA (mVar 0) (mC (.int 2))) (aCons mDEmp aNil))))))
noncomputable def fn_law_now : Fn := dropF (fnB 1 1 ms_law_now)
theorem n_law_now : fn_law_now.n = 1 := Nat.le_antisymm (Nat.le_refl _) (Nat.le_refl _)
noncomputable def ms_law_ringed : MS :=
    (sSeq (sAsg (mVar 1) (gT 3 (gsCons (gN 2) (gsCons (gN 3) (gsCons (gN 4) gsNil)))))
    (sSeq (sAsg (mLc (iRg1 (aCons (mOp dAdd (mC (.int 2)) (mCall fn_law_take (aCons (mVar 0) (aCons (mC (.int 3)) aNil)))) aNil)) (gN 9) tYesM (mCall fn_law_role (aCons (mVar 0) (aCons (mVar 2) (aCons (mVar 3) aNil)))) [9]) (gN 5))
    (sSeq (sAsg (mLc (iZip (aCons (mVar 5) (aCons (mOp dAdd (mSl (mVar 5) (oSome (mC (.int 1))) oNone) (mSl (mVar 5) oNone (oSome (mC (.int 1))))) aNil))) (gT 2 (gsCons (gN 8) (gsCons (gN 7) gsNil))) tYesM (mTup (aCons (mVar 8) (aCons (mTup (aCons (mC (.str "role")) (aCons (mVar 7) aNil))) aNil))) [8, 7]) (gN 6))
    (sRet (mTup (aCons (mVar 2) (aCons (mVar 3) (aCons (mCB dTuple (aCons (mCB dSortSet (aCons (mOp dAdd (mVar 4) (mCB dTuple (aCons (mVar 6) aNil))) aNil)) aNil)) aNil))))))))
noncomputable def fn_law_ringed : Fn := dropF (fnB 2 10 ms_law_ringed)
theorem n_law_ringed : fn_law_ringed.n = 2 := Nat.le_antisymm (Nat.le_refl _) (Nat.le_refl _)
noncomputable def ms_law_k04 : MS :=
    (sSeq (sAsg (mCall fn_law_deck (aCons (mVar 0) aNil)) (gN 1))
    (sSeq (sFor (iRg1 (aCons (mC (.int 10)) aNil)) (gN 2)
    (sSeq (sAsg (mCall fn_law_parts (aCons (mVar 1) (aCons (mC (.int 7)) (aCons (mC (.bl false)) aNil)))) (gN 3))
    (sSeq (sIf (mTest (mOp dEq (mCall fn_law_take (aCons (mVar 1) (aCons (mC (.int 3)) aNil))) (mC (.int 0)))) (sAsg (mCall fn_law_ringed (aCons (mVar 1) (aCons (mVar 3) aNil))) (gN 3)) sNil)
    (sSeq (sAsg (mTup (aCons (mMake 0 fn_Policy_init (aCons (mOp dIdxA (mVar 3) (mC (.int 0))) (aCons (mOp dIdxA (mVar 3) (mC (.int 1))) (aCons (mOp dIdxA (mVar 3) (mC (.int 2))) aNil)))) (aCons (mCall fn_law_now (aCons (mVar 3) aNil)) aNil))) (gT 2 (gsCons (gN 4) (gsCons (gN 5) gsNil))))
    (sSeq (sAsg (mCB dTuple (aCons (mLc (iSeq (mCall fn_law_all_roles (aCons (mOp dIdxA (mVar 3) (mC (.int 0))) (aCons (mOp dIdxA (mVar 3) (mC (.int 1))) aNil)))) (gN 7) tYesM (mCB dTuple (aCons (mOp dIdxA (mVar 5) (mVar 7)) aNil)) [7]) aNil)) (gN 6))
    (sSeq (sIf (mTest (mOp dNe (mCB dRepr (aCons (mLst (aCons (mCall fn_table (aCons (mVar 4) aNil)) (aCons (mCall fn_table (aCons (mVar 4) aNil)) aNil))) aNil)) (mCB dRepr (aCons (mLst (aCons (mVar 6) (aCons (mVar 6) aNil))) aNil)))) (sRet (mC (.bl false))) sNil)
    (sSeq (sFor (iSeq (mCall fn_law_all_roles (aCons (mOp dIdxA (mVar 3) (mC (.int 0))) (aCons (mOp dIdxA (mVar 3) (mC (.int 1))) aNil)))) (gN 7)
    (sIf (mTest (mOp dNe (mCB dRepr (aCons (mCall fn_holders (aCons (mVar 4) (aCons (mVar 7) aNil))) aNil)) (mCB dRepr (aCons (mCB dTuple (aCons (mOp dIdxA (mVar 5) (mVar 7)) aNil)) aNil)))) (sRet (mC (.bl false))) sNil))
    (sSeq (sFor (iRg1 (aCons (mOp dIdxA (mVar 3) (mC (.int 0))) aNil)) (gN 8)
    (sSeq (sAsg (mCB dTuple (aCons (mLc (iSeq (mCall fn_law_all_roles (aCons (mOp dIdxA (mVar 3) (mC (.int 0))) (aCons (mOp dIdxA (mVar 3) (mC (.int 1))) aNil)))) (gN 7) (mTest (mOp dIn (mVar 8) (mOp dIdxA (mVar 5) (mVar 7)))) (mVar 7) [7]) aNil)) (gN 9))
    (sIf (mTest (mOp dNe (mCB dRepr (aCons (mCall fn_held (aCons (mVar 4) (aCons (mVar 8) aNil))) aNil)) (mCB dRepr (aCons (mVar 9) aNil)))) (sRet (mC (.bl false))) sNil)))
    (sIf (mTest (mOp dNe (mCB dRepr (aCons (mProp 0 fn_Policy_grants (mVar 4)) aNil)) (mCB dRepr (aCons (mOp dIdxA (mVar 3) (mC (.int 2))) aNil)))) (sRet (mC (.bl false))) sNil)))))))))
    (sRet (mC (.bl true)))))
noncomputable def fn_law_k04 : Fn := (fnB 1 10 ms_law_k04)
theorem n_law_k04 : fn_law_k04.n = 1 := Nat.le_antisymm (Nat.le_refl _) (Nat.le_refl _)
end P
namespace P
open PySem L2 G
def evN0 := And.intro @n_is_integer (And.intro @n_is_role (And.intro @n_is_word (And.intro @n_is_body (And.intro @n_grant_word (And.intro @n_all_roles (And.intro @n_check_policy (And.intro @n_Policy_init (And.intro @n_Policy_owners (And.intro @n_Policy_labels (And.intro @n_Policy_grants (And.intro @n_Policy_roles (And.intro @n_law_deck (And.intro @n_law_take (And.intro @n_law_one (And.intro @n_law_all_roles (And.intro @n_law_role (And.intro @n_law_body (And.intro @n_law_grants (And.intro @n_law_parts (And.intro @n_members (And.intro @n_by_body (And.intro @n_next_round (And.intro @n_spread (And.intro @n_bits_of (And.intro @n_holders (And.intro @n_table (And.intro @n_held (And.intro @n_law_by (And.intro @n_law_known (And.intro @n_law_now (And.intro @n_law_ringed (And.intro @n_law_k04 (True.intro)))))))))))))))))))))))))))))))))
end P
end
section
set_option Elab.async false
set_option linter.all false
set_option maxRecDepth 100000
set_option maxHeartbeats 2000000
open PySem L2 G P
local macro_rules | `(tactic| walk_at "ev") => `(tactic| simp (config := { decide := false }) only [seval, G.evB0, G.evB1, G.evB2, G.evB3, G.evB4, G.evB5, List.getElem?_set_self, List.length_set, List.set_set, List.map_cons, List.map_nil, List.length_cons, List.length_nil, List.replicate, List.cons_append, List.nil_append, List.getElem?_cons_zero, List.getElem?_cons_succ, List.set_cons_zero, List.set_cons_succ, Option.map_some, Option.map_none, Option.bind_some, Bool.not_true, Bool.not_false, if_true, if_false, decide_true, decide_false, Bool.false_eq_true, true_and, and_true, false_and, and_false, List.foldl_cons, List.foldl_nil, List.all_cons, List.all_nil, id_eq, Bool.and_true, Bool.true_and, eq_self, Bool.or_true, Bool.true_or, Bool.or_false, Bool.false_or, G.isNon, G.startE, G.bls, G.wipeE, P.evN0, Option.some.injEq, List.cons.injEq, List.nil_eq])
local macro_rules | `(tactic| walk_at "evs") => `(tactic| simp (config := { decide := false }) only [seval, G.evB0, G.evB1, G.evB2, G.evB3, G.evB4, G.evB5, List.getElem?_set_self, List.length_set, List.set_set, List.map_cons, List.map_nil, List.length_cons, List.length_nil, List.replicate, List.cons_append, List.nil_append, List.getElem?_cons_zero, List.getElem?_cons_succ, List.set_cons_zero, List.set_cons_succ, Option.map_some, Option.map_none, Option.bind_some, Bool.not_true, Bool.not_false, if_true, if_false, decide_true, decide_false, Bool.false_eq_true, true_and, and_true, false_and, and_false, List.foldl_cons, List.foldl_nil, List.all_cons, List.all_nil, id_eq, Bool.and_true, Bool.true_and, eq_self, Bool.or_true, Bool.true_or, Bool.or_false, Bool.false_or, G.isNon, G.startE, G.bls, G.wipeE, P.evN0, Option.some.injEq, List.cons.injEq, List.nil_eq, *])
namespace Q
open PySem L2 G P
/-! ### roles, bodies, grants -/
abbrev Rl := Nat × Nat
inductive Bd where
  | own (c : Nat) | rol (r : Rl) | thr (r : Rl) (l : Nat) | bot (r s : Rl)
  deriving DecidableEq
abbrev Gr := Rl × Bd
def rD (r : Rl) : D := .tup [.int r.1, .int r.2]
def Bd.d : Bd → D
  | .own c => .tup [.str "owner", .int c]
  | .rol r => .tup [.str "role", rD r]
  | .thr r l => .tup [.str "through", rD r, .int l]
  | .bot r s => .tup [.str "both", rD r, rD s]
def gD (g : Gr) : D := .tup [rD g.1, g.2.d]
/-! words -/
theorem w_or : (Str.ofString "owner" = Str.ofString "role") = False := by decide +kernel
theorem w_ot : (Str.ofString "owner" = Str.ofString "through") = False := by decide +kernel
theorem w_ob : (Str.ofString "owner" = Str.ofString "both") = False := by decide +kernel
theorem w_ro : (Str.ofString "role" = Str.ofString "owner") = False := by decide +kernel
theorem w_rt : (Str.ofString "role" = Str.ofString "through") = False := by decide +kernel
theorem w_rb : (Str.ofString "role" = Str.ofString "both") = False := by decide +kernel
theorem w_to : (Str.ofString "through" = Str.ofString "owner") = False := by decide +kernel
theorem w_tr : (Str.ofString "through" = Str.ofString "role") = False := by decide +kernel
theorem w_tb : (Str.ofString "through" = Str.ofString "both") = False := by decide +kernel
theorem w_bo : (Str.ofString "both" = Str.ofString "owner") = False := by decide +kernel
theorem w_br : (Str.ofString "both" = Str.ofString "role") = False := by decide +kernel
theorem w_bt : (Str.ofString "both" = Str.ofString "through") = False := by decide +kernel
theorem ok_o : PyData.strOk (Str.ofString "owner") = true := by decide +kernel
theorem ok_r : PyData.strOk (Str.ofString "role") = true := by decide +kernel
theorem ok_t : PyData.strOk (Str.ofString "through") = true := by decide +kernel
theorem ok_b : PyData.strOk (Str.ofString "both") = true := by decide +kernel
/-! ### keys and their order -/
def rK (r : Rl) : NK := .tup [.num r.1, .num r.2]
def Bd.k : Bd → NK
  | .own c => .tup [.text "owner", .num c]
  | .rol r => .tup [.text "role", rK r]
  | .thr r l => .tup [.text "through", rK r, .num l]
  | .bot r s => .tup [.text "both", rK r, rK s]
def gK (g : Gr) : NK := .tup [rK g.1, g.2.k]
theorem dOf_rK (r : Rl) : dOf (rK r) = rD r := rfl
theorem dOf_bK (b : Bd) : dOf b.k = b.d := by cases b <;> rfl
theorem dOf_gK (g : Gr) : dOf (gK g) = gD g := by
  show D.tup [dOf (rK g.1), dOf g.2.k] = _
  rw [dOf_rK, dOf_bK]
  rfl
theorem nkD_rD (r : Rl) : nkD (rD r) = some (rK r) := rfl
theorem nkD_bD (b : Bd) : nkD b.d = some b.k := by cases b <;> rfl
theorem nkD_gD (g : Gr) : nkD (gD g) = some (gK g) := by
  unfold gD gK
  simp only [nkD, nkDs, nkD_rD, nkD_bD, Option.map_some]
theorem nkDs_map {α : Type} (f : α → D) (k : α → NK) (h : ∀ a, nkD (f a) = some (k a)) : ∀ l : List α, nkDs (l.map f) = some (l.map k)
  | [] => rfl
  | a :: l => by simp only [List.map_cons, nkDs, h, nkDs_map f k h l]
theorem dOfs_mapK {α : Type} (f : α → D) (k : α → NK) (h : ∀ a, dOf (k a) = f a) (l : List α) : dOfs (l.map k) = l.map f := by
  rw [dOfs_map, List.map_map]
  exact List.map_congr_left fun a _ => h a
theorem rK_inj {r s : Rl} (h : rK r = rK s) : r = s := by
  unfold rK at h
  simp only [NestedKey.tup.injEq, List.cons.injEq, NestedKey.num.injEq, Int.ofNat_inj, and_true] at h
  exact Prod.ext h.1 h.2
theorem bK_inj {a b : Bd} (h : a.k = b.k) : a = b := by
  cases a <;> cases b <;> simp only [Bd.k, NestedKey.tup.injEq, List.cons.injEq, NestedKey.text.injEq, w_or, w_ot, w_ob, w_ro, w_rt, w_rb, w_to, w_tr, w_tb, w_bo, w_br, w_bt, false_and, true_and, NestedKey.num.injEq, Int.ofNat_inj, and_true] at h
  · rw [h]
  · rw [rK_inj h]
  · rw [rK_inj h.1, h.2]
  · rw [rK_inj h.1, rK_inj h.2]
theorem gK_inj {a b : Gr} (h : gK a = gK b) : a = b := by
  unfold gK at h
  simp only [NestedKey.tup.injEq, List.cons.injEq, and_true] at h
  exact Prod.ext (rK_inj h.1) (bK_inj h.2)
/-! <= is the other way round of < -/
mutual
theorem pLe_flip : ∀ p q : PyData, pLe p q = (pLt q p).map (!·)
  | .int i, q => by
    cases q <;> simp only [pLe, pLt, Option.map_some, Option.map_none]
    rename_i j
    congr 1
    by_cases h : i ≤ j
    · have : ¬ j < i := by omega
      simp [h, this]
    · have : j < i := by omega
      simp [h, this]
  | .str x, q => by cases q <;> simp only [pLe, pLt, Option.map_some, Option.map_none]
  | .tuple xs, q => by
    cases q <;> simp only [pLe, pLt, Option.map_none]
    exact pLes_flip _ _
  | .none, q => by cases q <;> simp only [pLe, pLt, Option.map_none]
  | .bool _, q => by cases q <;> simp only [pLe, pLt, Option.map_none]
  | .list _, q => by cases q <;> simp only [pLe, pLt, Option.map_none]
  | .dict _, q => by cases q <;> simp only [pLe, pLt, Option.map_none]
theorem pLes_flip : ∀ xs ys : List PyData, pLes xs ys = (pLts ys xs).map (!·)
  | [], [] => rfl
  | [], _ :: _ => rfl
  | _ :: _, [] => rfl
  | x :: xs, y :: ys => by
    simp only [pLes, pLts]
    rw [eqv_flip x y, pLes_flip xs ys, pLe_flip x y]
    split <;> rfl
end
/-- what can be compared -/
def CmpAll {α : Type} (k : α → NK) : Prop := ∀ a b, ∃ c, pLt (k a).data (k b).data = some c
theorem eqv_self_of (k : NK) : PyData.eqv k.data k.data = true := by
  rw [eqv_key]
  exact NestedKey.beq_self k
theorem pLts_self : ∀ ks : List NK, pLts (NestedKey.datas ks) (NestedKey.datas ks) = some false
  | [] => rfl
  | k :: ks => by
    simp only [NestedKey.datas, pLts]
    rw [if_pos (eqv_self_of k), pLts_self ks]
theorem pLt_self (ks : List NK) : pLt (NestedKey.tup ks).data (NestedKey.tup ks).data = some false := by
  simp only [NestedKey.data, pLt]
  exact pLts_self ks
theorem cmp_rK : ∀ a b : Rl, ∃ c, pLt (rK a).data (rK b).data = some c := fun a b => by
  unfold rK
  simp only [NestedKey.data, NestedKey.datas, pLt, pLts]
  split
  · split
    · exact ⟨_, rfl⟩
    · exact ⟨_, rfl⟩
  · exact ⟨_, rfl⟩
theorem cmp_bK : ∀ a b : Bd, ∃ c, pLt a.k.data b.k.data = some c := fun a b => by
  have key : ∀ (x y : Str) (xs ys : List PyData), x ≠ y → ∃ c, pLt (.tuple (.str x :: xs)) (.tuple (.str y :: ys)) = some c := fun x y xs ys h => by
    simp only [pLt, pLts]
    rw [if_neg (by simp [PyData.eqv, h])]
    exact ⟨_, rfl⟩
  have same : ∀ (x : Str) (xs ys : List PyData), pLt (.tuple (.str x :: xs)) (.tuple (.str x :: ys)) = pLts xs ys := fun x xs ys => by
    simp only [pLt, pLts]
    rw [if_pos (by simp [PyData.eqv])]
  cases a <;> cases b <;> simp only [Bd.k, NestedKey.data, NestedKey.datas]
  case own.own => rw [same]; simp only [pLts]; split <;> exact ⟨_, rfl⟩
  case rol.rol r s =>
    rw [same]; simp only [pLts]
    split
    · exact ⟨_, rfl⟩
    · exact cmp_rK r s
  case thr.thr r l s m =>
    rw [same]; simp only [pLts]
    split
    · split <;> exact ⟨_, rfl⟩
    · exact cmp_rK r s
  case bot.bot r s r' s' =>
    rw [same]; simp only [pLts]
    split
    · split
      · exact ⟨_, rfl⟩
      · exact cmp_rK s s'
    · exact cmp_rK r r'
  all_goals (apply key; decide +kernel)
theorem cmp_gK : ∀ a b : Gr, ∃ c, pLt (gK a).data (gK b).data = some c := fun a b => by
  unfold gK
  simp only [NestedKey.data, NestedKey.datas, pLt, pLts]
  split
  · split
    · exact ⟨_, rfl⟩
    · exact cmp_bK a.2 b.2
  · exact cmp_rK a.1 b.1
abbrev gLt (a b : Gr) : Prop := ltK (gK a) (gK b) = true
abbrev rLt (a b : Rl) : Prop := ltK (rK a) (rK b) = true
theorem ltK_of {a b : NK} {c : Bool} (h : pLt a.data b.data = some c) (ne : a ≠ b) : ltK a b = c := pLt_data h (eqv_ne ne)
theorem pLt_gK (a b : Gr) : pLt (gK a).data (gK b).data = some (ltK (gK a) (gK b)) := by
  by_cases e : a = b
  · subst e
    rw [ltK_irr]
    exact pLt_self _
  · obtain ⟨c, h⟩ := cmp_gK a b
    rw [h, ltK_of h fun z => e (gK_inj z)]
theorem pLt_rK (a b : Rl) : pLt (rK a).data (rK b).data = some (ltK (rK a) (rK b)) := by
  by_cases e : a = b
  · subst e
    rw [ltK_irr]
    exact pLt_self _
  · obtain ⟨c, h⟩ := cmp_rK a b
    rw [h, ltK_of h fun z => e (rK_inj z)]
theorem gLt_total {a b : Gr} (h : a ≠ b) : gLt a b ∨ gLt b a :=
  ltK_total (ks := [gK a, gK b]) (fun x hx y hy => by
    simp only [List.mem_cons, List.not_mem_nil, or_false] at hx hy
    rcases hx with rfl | rfl <;> rcases hy with rfl | rfl <;> exact cmp_gK _ _) (by simp) (by simp) fun z => h (gK_inj z)
theorem rLt_total {a b : Rl} (h : a ≠ b) : rLt a b ∨ rLt b a :=
  ltK_total (ks := [rK a, rK b]) (fun x hx y hy => by
    simp only [List.mem_cons, List.not_mem_nil, or_false] at hx hy
    rcases hx with rfl | rfl <;> rcases hy with rfl | rfl <;> exact cmp_rK _ _) (by simp) (by simp) fun z => h (rK_inj z)
theorem rLt_iff (a b : Rl) : rLt a b ↔ a.1 < b.1 ∨ a.1 = b.1 ∧ a.2 < b.2 := by
  obtain ⟨a1, a2⟩ := a
  obtain ⟨b1, b2⟩ := b
  have h := pLt_rK (a1, a2) (b1, b2)
  have e : pLt (rK (a1, a2)).data (rK (b1, b2)).data = some (decide (a1 < b1 ∨ a1 = b1 ∧ a2 < b2)) := by
    unfold rK
    simp only [NestedKey.data, NestedKey.datas, pLt, pLts, PyData.eqv]
    by_cases e1 : a1 = b1
    · subst e1
      by_cases e2 : a2 = b2
      · subst e2
        simp
      · have e3 : ¬ ((a2 : Int) = (b2 : Int)) := by omega
        simp [e3]
    · have e3 : ¬ ((a1 : Int) = (b1 : Int)) := by omega
      simp [e3, e1]
  rw [e] at h
  have h := Option.some.inj h
  show ltK (rK (a1, a2)) (rK (b1, b2)) = true ↔ _
  rw [← h]
  simp
/-! as data -/
theorem pd_rD (r : Rl) : pd (rD r) = some (rK r).data := rfl
theorem pd_bD (b : Bd) : pd b.d = some b.k.data := by cases b <;> rfl
theorem pd_gD (g : Gr) : pd (gD g) = some (gK g).data := by
  unfold gD gK
  simp only [pd, pds, pd_rD, pd_bD, Option.map_some, NestedKey.data, NestedKey.datas]
theorem pdv_rD (S : Sto) (r : Rl) : pdv S (rD r) = some (rK r).data := rfl
theorem pdv_bD (S : Sto) (b : Bd) : pdv S b.d = some b.k.data := by cases b <;> rfl
theorem pdv_gD (S : Sto) (g : Gr) : pdv S (gD g) = some (gK g).data := pd_gD g
theorem sh_rK (r : Rl) : SeqAt.shaped (rK r).data = true := by
  simp [rK, NestedKey.data, NestedKey.datas, SeqAt.shaped, PyData.canLay0, PyData.canLayAll0, PyData.depth, PyData.depthAll]
theorem lay_rK (r : Rl) : (rK r).data.canLay0 = true := by simp [rK, NestedKey.data, NestedKey.datas, PyData.canLay0, PyData.canLayAll0]
theorem dep_rK (r : Rl) : (rK r).data.depth = 1 := by simp [rK, NestedKey.data, NestedKey.datas, PyData.depth, PyData.depthAll]
theorem lay_bK (b : Bd) : b.k.data.canLay0 = true := by
  cases b <;> simp [Bd.k, NestedKey.data, NestedKey.datas, PyData.canLay0, PyData.canLayAll0, ok_o, ok_r, ok_t, ok_b, lay_rK]
theorem dep_bK (b : Bd) : b.k.data.depth ≤ 2 := by
  cases b <;> simp [Bd.k, NestedKey.data, NestedKey.datas, PyData.depth, PyData.depthAll, dep_rK]
theorem lay_gK (g : Gr) : (gK g).data.canLay0 = true := by simp [gK, NestedKey.data, NestedKey.datas, PyData.canLay0, PyData.canLayAll0, lay_rK, lay_bK]
theorem dep_gK (g : Gr) : (gK g).data.depth ≤ 3 := by
  have := dep_bK g.2
  simp [gK, NestedKey.data, NestedKey.datas, PyData.depth, PyData.depthAll, dep_rK]
  omega
end Q
end
section
set_option Elab.async false
set_option linter.all false
set_option maxRecDepth 100000
set_option maxHeartbeats 2000000
open PySem L2 G P
local macro_rules | `(tactic| walk_at "ev") => `(tactic| simp (config := { decide := false }) only [seval, G.evB0, G.evB1, G.evB2, G.evB3, G.evB4, G.evB5, List.getElem?_set_self, List.length_set, List.set_set, List.map_cons, List.map_nil, List.length_cons, List.length_nil, List.replicate, List.cons_append, List.nil_append, List.getElem?_cons_zero, List.getElem?_cons_succ, List.set_cons_zero, List.set_cons_succ, Option.map_some, Option.map_none, Option.bind_some, Bool.not_true, Bool.not_false, if_true, if_false, decide_true, decide_false, Bool.false_eq_true, true_and, and_true, false_and, and_false, List.foldl_cons, List.foldl_nil, List.all_cons, List.all_nil, id_eq, Bool.and_true, Bool.true_and, eq_self, Bool.or_true, Bool.true_or, Bool.or_false, Bool.false_or, G.isNon, G.startE, G.bls, G.wipeE, P.evN0, Option.some.injEq, List.cons.injEq, List.nil_eq])
local macro_rules | `(tactic| walk_at "evs") => `(tactic| simp (config := { decide := false }) only [seval, G.evB0, G.evB1, G.evB2, G.evB3, G.evB4, G.evB5, List.getElem?_set_self, List.length_set, List.set_set, List.map_cons, List.map_nil, List.length_cons, List.length_nil, List.replicate, List.cons_append, List.nil_append, List.getElem?_cons_zero, List.getElem?_cons_succ, List.set_cons_zero, List.set_cons_succ, Option.map_some, Option.map_none, Option.bind_some, Bool.not_true, Bool.not_false, if_true, if_false, decide_true, decide_false, Bool.false_eq_true, true_and, and_true, false_and, and_false, List.foldl_cons, List.foldl_nil, List.all_cons, List.all_nil, id_eq, Bool.and_true, Bool.true_and, eq_self, Bool.or_true, Bool.true_or, Bool.or_false, Bool.false_or, G.isNon, G.startE, G.bls, G.wipeE, P.evN0, Option.some.injEq, List.cons.injEq, List.nil_eq, *])
namespace Q
open PySem L2 G P
/-! ### kinds of data by their keys -/
structure Enc {α : Type} (f : α → D) (k : α → NK) : Prop where
  pd : ∀ a, pd (f a) = some (k a).data
  lay : ∀ a, (k a).data.canLay0 = true
  dep : ∀ a, (k a).data.depth ≤ 8
  inj : ∀ a b, k a = k b → a = b
  nol : ∀ S a, seqL S (f a) = none
section
variable {α : Type} {f : α → D} {k : α → NK} (h : Enc f k)
include h
theorem Enc.pdv (S : Sto) (a : α) : pdv S (f a) = some (k a).data := by
  unfold G.pdv
  rw [h.nol S a]
  exact h.pd a
theorem Enc.sh (a : α) : SeqAt.shaped (k a).data = true := by
  have h1 := h.lay a
  have h2 := h.dep a
  simp only [SeqAt.shaped, h1, Bool.true_and, decide_eq_true_eq]
  omega
theorem Enc.pds : ∀ l : List α, pds (l.map f) = some (l.map fun a => (k a).data)
  | [] => rfl
  | a :: l => by simp only [List.map_cons, G.pds, h.pd, Enc.pds l]
theorem Enc.layAll : ∀ l : List α, PyData.canLayAll0 (l.map fun a => (k a).data) = true
  | [] => rfl
  | a :: l => by simp only [List.map_cons, PyData.canLayAll0, h.lay, Enc.layAll l]; rfl
theorem Enc.depAll : ∀ l : List α, PyData.depthAll (l.map fun a => (k a).data) ≤ 8
  | [] => Nat.zero_le _
  | a :: l => by
    simp only [List.map_cons, PyData.depthAll]
    have := h.dep a
    have := Enc.depAll l
    omega
theorem Enc.eqv [DecidableEq α] (a b : α) : PyData.eqv (k a).data (k b).data = decide (a = b) := by
  by_cases e : a = b
  · subst e
    rw [eqv_self_of]
    simp
  · rw [eqv_ne fun z => e (h.inj a b z)]
    simp [e]
theorem Enc.shT (l : List α) : SeqAt.shaped (.tuple (l.map fun a => (k a).data)) = true := by
  have h1 := h.layAll l
  have h2 := h.depAll l
  simp only [SeqAt.shaped, PyData.canLay0, h1, PyData.depth, Bool.true_and]
  exact decide_eq_true (by omega)
theorem Enc.shL (l : List α) : SeqAt.shaped (.list (l.map fun a => (k a).data)) = true := by
  have h1 := h.layAll l
  have h2 := h.depAll l
  simp only [SeqAt.shaped, PyData.canLay0, h1, PyData.depth, Bool.true_and]
  exact decide_eq_true (by omega)
theorem Enc.any [DecidableEq α] (a : α) (l : List α) : ((l.map fun a => (k a).data).any fun z => PyData.eqv z (k a).data) = decide (a ∈ l) := by
  induction l with
  | nil => rfl
  | cons b l ih =>
    rw [List.map_cons, List.any_cons, ih, h.eqv]
    by_cases e : b = a
    · subst e; simp
    · have : ¬ a = b := fun z => e z.symm
      simp [e, this]
theorem Enc.inT [DecidableEq α] (S : Sto) (a : α) (l : List α) : dIn S (f a) (.tup (l.map f)) = some (.bl (decide (a ∈ l))) := by
  have e : dInB S (f a) (.tup (l.map f)) = some (decide (a ∈ l)) := by
    unfold dInB
    simp only [seqL, seqT, h.pdv, h.pds]
    rw [if_pos ⟨h.sh a, h.shT l⟩, h.any]
  unfold dIn
  rw [e]
  rfl
theorem Enc.inL [DecidableEq α] (S : Sto) (a : α) (l : List α) : dIn S (f a) (.lst (l.map f)) = some (.bl (decide (a ∈ l))) := by
  have e : dInB S (f a) (.lst (l.map f)) = some (decide (a ∈ l)) := by
    unfold dInB
    simp only [seqL, seqT, h.pdv, h.pds]
    rw [if_pos ⟨h.sh a, h.shL l⟩, h.any]
  unfold dIn
  rw [e]
  rfl
theorem Enc.ninT [DecidableEq α] (S : Sto) (a : α) (l : List α) : dNotIn S (f a) (.tup (l.map f)) = some (.bl (!decide (a ∈ l))) := by
  have e : dInB S (f a) (.tup (l.map f)) = some (decide (a ∈ l)) := by
    unfold dInB
    simp only [seqL, seqT, h.pdv, h.pds]
    rw [if_pos ⟨h.sh a, h.shT l⟩, h.any]
  unfold dNotIn
  rw [e]
  rfl
theorem Enc.ninL [DecidableEq α] (S : Sto) (a : α) (l : List α) : dNotIn S (f a) (.lst (l.map f)) = some (.bl (!decide (a ∈ l))) := by
  have e : dInB S (f a) (.lst (l.map f)) = some (decide (a ∈ l)) := by
    unfold dInB
    simp only [seqL, seqT, h.pdv, h.pds]
    rw [if_pos ⟨h.sh a, h.shL l⟩, h.any]
  unfold dNotIn
  rw [e]
  rfl
theorem Enc.eqB [DecidableEq α] (S : Sto) (a b : α) (hs : ∀ x, f a ≠ .str x) : dEqB S (f a) (f b) = some (decide (a = b)) := by
  unfold dEqB
  split
  · rename_i x y e1 e2
    exact absurd e1 (hs _)
  · simp only [h.pdv]
    rw [if_pos ⟨h.sh a, h.sh b⟩, h.eqv]
theorem Enc.eq [DecidableEq α] (S : Sto) (a b : α) (hs : ∀ x, f a ≠ .str x) : dEq S (f a) (f b) = some (.bl (decide (a = b))) := by
  unfold dEq
  rw [h.eqB S a b hs]
  rfl
theorem Enc.ne [DecidableEq α] (S : Sto) (a b : α) (hs : ∀ x, f a ≠ .str x) : dNe S (f a) (f b) = some (.bl (!decide (a = b))) := by
  unfold dNe
  rw [h.eqB S a b hs]
  rfl
theorem Enc.eqvAll [DecidableEq α] : ∀ l m : List α, PyData.eqvAll (l.map fun a => (k a).data) (m.map fun a => (k a).data) = decide (l = m)
  | [], [] => rfl
  | [], _ :: _ => rfl
  | _ :: _, [] => rfl
  | a :: l, b :: m => by
    simp only [List.map_cons, PyData.eqvAll, h.eqv, Enc.eqvAll l m, List.cons.injEq]
    by_cases e1 : a = b <;> by_cases e2 : l = m <;> simp [e1, e2]
theorem Enc.eqL [DecidableEq α] (S : Sto) (l m : List α) : dEq S (.lst (l.map f)) (.lst (m.map f)) = some (.bl (decide (l = m))) := by
  unfold dEq dEqB
  simp only [pdv_lst, h.pds, Option.map_some]
  rw [if_pos ⟨h.shL l, h.shL m⟩]
  simp only [PyData.eqv, h.eqvAll, Option.map_some]
theorem Enc.neL [DecidableEq α] (S : Sto) (l m : List α) : dNe S (.lst (l.map f)) (.lst (m.map f)) = some (.bl (!decide (l = m))) := by
  unfold dNe dEqB
  simp only [pdv_lst, h.pds, Option.map_some]
  rw [if_pos ⟨h.shL l, h.shL m⟩]
  simp only [PyData.eqv, h.eqvAll, Option.map_some]
theorem Enc.eqT [DecidableEq α] (S : Sto) (l m : List α) : dEq S (.tup (l.map f)) (.tup (m.map f)) = some (.bl (decide (l = m))) := by
  unfold dEq dEqB
  simp only [pdv_tup, h.pds, Option.map_some]
  rw [if_pos ⟨h.shT l, h.shT m⟩]
  simp only [PyData.eqv, h.eqvAll, Option.map_some]
theorem Enc.neT [DecidableEq α] (S : Sto) (l m : List α) : dNe S (.tup (l.map f)) (.tup (m.map f)) = some (.bl (!decide (l = m))) := by
  unfold dNe dEqB
  simp only [pdv_tup, h.pds, Option.map_some]
  rw [if_pos ⟨h.shT l, h.shT m⟩]
  simp only [PyData.eqv, h.eqvAll, Option.map_some]
end
def iD (n : Nat) : D := .int n
theorem encN : Enc iD (fun n => .num n) := ⟨fun _ => rfl, fun _ => by simp [NestedKey.data, PyData.canLay0], fun _ => by simp [NestedKey.data, PyData.depth], fun a b e => Int.ofNat_inj.mp (by simpa using e), fun _ _ => rfl⟩
theorem encR : Enc rD rK := ⟨pd_rD, lay_rK, fun a => by rw [dep_rK]; omega, fun _ _ => rK_inj, fun _ _ => rfl⟩
theorem encG : Enc gD gK := ⟨pd_gD, lay_gK, fun a => by have := dep_gK a; omega, fun _ _ => gK_inj, fun _ _ => rfl⟩
/-! comparisons -/
theorem dLt_r (S : Sto) (a b : Rl) : dLt S (rD a) (rD b) = some (.bl (ltK (rK a) (rK b))) := by
  unfold dLt
  simp only [encR.pdv]
  rw [if_pos ⟨encR.sh a, encR.sh b⟩, pLt_rK]
  rfl
theorem dLe_g (S : Sto) (a b : Gr) : dLe S (gD a) (gD b) = some (.bl (!(ltK (gK b) (gK a)))) := by
  unfold dLe
  simp only [encG.pdv]
  rw [if_pos ⟨encG.sh a, encG.sh b⟩, pLe_flip, pLt_gK]
  rfl
theorem dEq_r (S : Sto) (a b : Rl) : dEq S (rD a) (rD b) = some (.bl (decide (a = b))) := encR.eq S a b fun _ z => by cases z
theorem dNe_r (S : Sto) (a b : Rl) : dNe S (rD a) (rD b) = some (.bl (!decide (a = b))) := encR.ne S a b fun _ z => by cases z
theorem dEq_g (S : Sto) (a b : Gr) : dEq S (gD a) (gD b) = some (.bl (decide (a = b))) := encG.eq S a b fun _ z => by cases z
theorem dNe_g (S : Sto) (a b : Gr) : dNe S (gD a) (gD b) = some (.bl (!decide (a = b))) := encG.ne S a b fun _ z => by cases z
/-! parts -/
theorem ix_r0 (S : Sto) (r : Rl) : dIdxA S (rD r) (.int 0) = some (.int r.1) := by unfold rD; rw [dIdxA_tup, atI_0]
theorem ix_r1 (S : Sto) (r : Rl) : dIdxA S (rD r) (.int 1) = some (.int r.2) := by unfold rD; rw [dIdxA_tup, atI_1]
theorem ix_g0 (S : Sto) (g : Gr) : dIdxA S (gD g) (.int 0) = some (rD g.1) := by unfold gD; rw [dIdxA_tup, atI_0]
theorem ix_g1 (S : Sto) (g : Gr) : dIdxA S (gD g) (.int 1) = some g.2.d := by unfold gD; rw [dIdxA_tup, atI_1]
theorem gT_g (gs : MGs) (g : Gr) (en : En) : gT 2 gs (gD g) en = gs [rD g.1, g.2.d] en := rfl
theorem gT_r (gs : MGs) (r : Rl) (en : En) : gT 2 gs (rD r) en = gs [.int r.1, .int r.2] en := rfl
theorem isi_r (S : Sto) (r : Rl) : dIsi S [rD r, .ty "tuple"] = some (.bl true) := isi_tup_tup _ _
theorem isi_g (S : Sto) (r : Gr) : dIsi S [gD r, .ty "tuple"] = some (.bl true) := isi_tup_tup _ _
theorem len_r (S : Sto) (r : Rl) : dLen S [rD r] = some (.int 2) := rfl
theorem len_g (S : Sto) (r : Gr) : dLen S [gD r] = some (.int 2) := rfl
theorem bel_r (n : Nat) (r : Rl) : D.bel n (rD r) = True := by simp [rD, D.bel, D.bels]
theorem bel_b (n : Nat) (b : Bd) : D.bel n b.d = True := by cases b <;> simp [Bd.d, D.bel, D.bels, bel_r]
theorem bel_g (n : Nat) (g : Gr) : D.bel n (gD g) = True := by simp [gD, D.bel, D.bels, bel_r, bel_b]
theorem bels_map {α : Type} (n : Nat) (f : α → D) (h : ∀ a, D.bel n (f a) = True) : ∀ l : List α, D.bels n (l.map f) = True
  | [] => by simp only [List.map_nil, D.bels]
  | a :: l => by simp only [List.map_cons, D.bels, h a, bels_map n f h l, and_self]
theorem bels_r (n : Nat) (l : List Rl) : D.bels n (l.map rD) = True := bels_map n _ (bel_r n) l
theorem bels_g (n : Nat) (l : List Gr) : D.bels n (l.map gD) = True := bels_map n _ (bel_g n) l
theorem bels_i (n : Nat) (l : List Nat) : D.bels n (l.map iD) = True := bels_map n _ (fun _ => by simp [iD, D.bel]) l
theorem tk_r (r : Rl) : tkeyD (rD r) = some [.inl r.1, .inl r.2] := rfl
theorem in_s2 {S : Sto} {x a b : Str} (hx : PyData.strOk x = true) (ha : PyData.strOk a = true) (hb : PyData.strOk b = true) : dIn S (.str x) (.tup [.str a, .str b]) = some (.bl (decide (a = x) || decide (b = x))) := by
  have e : dInB S (.str x) (.tup [.str a, .str b]) = some (decide (a = x) || decide (b = x)) := by
    unfold dInB
    simp only [seqL, seqT, pdv_str, G.pds, G.pd]
    rw [if_pos ⟨by simp [SeqAt.shaped, PyData.canLay0, PyData.depth, hx], by simp [SeqAt.shaped, PyData.canLay0, PyData.canLayAll0, PyData.depth, PyData.depthAll, ha, hb]⟩]
    have be : ∀ u v : Str, (u == v) = decide (u = v) := fun u v => by
      by_cases h : u = v
      · subst h; simp
      · rw [decide_eq_false h]; exact beq_eq_false_iff_ne.mpr h
    simp [PyData.eqv, be]
  unfold dIn
  rw [e]
  rfl
theorem in_s4 {S : Sto} {x a b c d : Str} (hx : PyData.strOk x = true) (ha : PyData.strOk a = true) (hb : PyData.strOk b = true) (hc : PyData.strOk c = true) (hd : PyData.strOk d = true) :
    dIn S (.str x) (.tup [.str a, .str b, .str c, .str d]) = some (.bl (decide (a = x) || (decide (b = x) || (decide (c = x) || decide (d = x))))) := by
  have e : dInB S (.str x) (.tup [.str a, .str b, .str c, .str d]) = some (decide (a = x) || (decide (b = x) || (decide (c = x) || decide (d = x)))) := by
    unfold dInB
    simp only [seqL, seqT, pdv_str, G.pds, G.pd]
    rw [if_pos ⟨by simp [SeqAt.shaped, PyData.canLay0, PyData.depth, hx], by simp [SeqAt.shaped, PyData.canLay0, PyData.canLayAll0, PyData.depth, PyData.depthAll, ha, hb, hc, hd]⟩]
    have be : ∀ u v : Str, (u == v) = decide (u = v) := fun u v => by
      by_cases h : u = v
      · subst h; simp
      · rw [decide_eq_false h]; exact beq_eq_false_iff_ne.mpr h
    simp [PyData.eqv, be]
  unfold dIn
  rw [e]
  rfl
end Q

local macro_rules | `(tactic| walk_at "ev") => `(tactic| simp (config := { decide := false }) only [seval, G.evB0, G.evB1, G.evB2, G.evB3, G.evB4, G.evB5, List.getElem?_set_self, List.length_set, List.set_set, List.map_cons, List.map_nil, List.length_cons, List.length_nil, List.replicate, List.cons_append, List.nil_append, List.getElem?_cons_zero, List.getElem?_cons_succ, List.set_cons_zero, List.set_cons_succ, Option.map_some, Option.map_none, Option.bind_some, Bool.not_true, Bool.not_false, if_true, if_false, decide_true, decide_false, Bool.false_eq_true, true_and, and_true, false_and, and_false, List.foldl_cons, List.foldl_nil, List.all_cons, List.all_nil, id_eq, Bool.and_true, Bool.true_and, eq_self, Bool.or_true, Bool.true_or, Bool.or_false, Bool.false_or, G.isNon, G.startE, G.bls, G.wipeE, P.evN0, dEq_str, dNe_str, w_or, w_ot, w_ob, w_ro, w_rt, w_rb, w_to, w_tr, w_tb, w_bo, w_br, w_bt, ok_o, ok_r, ok_t, ok_b, ix_r0, ix_r1, ix_g0, ix_g1, isi_r, isi_g, len_r, len_g, bel_r, bel_b, bel_g, bels_r, bels_g, bels_i, dLt_r, dLe_g, dEq_r, dNe_r, dEq_g, dNe_g, gT_g, gT_r, Option.some.injEq, List.cons.injEq, List.nil_eq])
local macro_rules | `(tactic| walk_at "evs") => `(tactic| simp (config := { decide := false }) only [seval, G.evB0, G.evB1, G.evB2, G.evB3, G.evB4, G.evB5, List.getElem?_set_self, List.length_set, List.set_set, List.map_cons, List.map_nil, List.length_cons, List.length_nil, List.replicate, List.cons_append, List.nil_append, List.getElem?_cons_zero, List.getElem?_cons_succ, List.set_cons_zero, List.set_cons_succ, Option.map_some, Option.map_none, Option.bind_some, Bool.not_true, Bool.not_false, if_true, if_false, decide_true, decide_false, Bool.false_eq_true, true_and, and_true, false_and, and_false, List.foldl_cons, List.foldl_nil, List.all_cons, List.all_nil, id_eq, Bool.and_true, Bool.true_and, eq_self, Bool.or_true, Bool.true_or, Bool.or_false, Bool.false_or, G.isNon, G.startE, G.bls, G.wipeE, P.evN0, dEq_str, dNe_str, w_or, w_ot, w_ob, w_ro, w_rt, w_rb, w_to, w_tr, w_tb, w_bo, w_br, w_bt, ok_o, ok_r, ok_t, ok_b, ix_r0, ix_r1, ix_g0, ix_g1, isi_r, isi_g, len_r, len_g, bel_r, bel_b, bel_g, bels_r, bels_g, bels_i, dLt_r, dLe_g, dEq_r, dNe_r, dEq_g, dNe_g, gT_g, gT_r, Option.some.injEq, List.cons.injEq, List.nil_eq, *])
namespace Q
open PySem L2 G P
def evQ2_0 := And.intro @dEq_str (And.intro @dNe_str (And.intro @w_or (And.intro @w_ot (And.intro @w_ob (And.intro @w_ro (And.intro @w_rt (And.intro @w_rb (And.intro @w_to (And.intro @w_tr (And.intro @w_tb (And.intro @w_bo (And.intro @w_br (And.intro @w_bt (And.intro @ok_o (And.intro @ok_r (And.intro @ok_t (And.intro @ok_b (And.intro @ix_r0 (And.intro @ix_r1 (And.intro @ix_g0 (And.intro @ix_g1 (And.intro @isi_r (And.intro @isi_g (And.intro @len_r (And.intro @len_g (And.intro @bel_r (And.intro @bel_b (And.intro @bel_g (And.intro @bels_r (And.intro @bels_g (And.intro @bels_i (And.intro @dLt_r (And.intro @dLe_g (And.intro @dEq_r (And.intro @dNe_r (And.intro @dEq_g (And.intro @dNe_g (And.intro @gT_g (And.intro @gT_r (True.intro))))))))))))))))))))))))))))))))))))))))
end Q
end
section
set_option Elab.async false
set_option linter.all false
set_option maxRecDepth 100000
set_option maxHeartbeats 2000000
open PySem L2 G P
open Q
local macro_rules | `(tactic| walk_at "ev") => `(tactic| simp (config := { decide := false }) only [seval, G.evB0, G.evB1, G.evB2, G.evB3, G.evB4, G.evB5, List.getElem?_set_self, List.length_set, List.set_set, List.map_cons, List.map_nil, List.length_cons, List.length_nil, List.replicate, List.cons_append, List.nil_append, List.getElem?_cons_zero, List.getElem?_cons_succ, List.set_cons_zero, List.set_cons_succ, Option.map_some, Option.map_none, Option.bind_some, Bool.not_true, Bool.not_false, if_true, if_false, decide_true, decide_false, Bool.false_eq_true, true_and, and_true, false_and, and_false, List.foldl_cons, List.foldl_nil, List.all_cons, List.all_nil, id_eq, Bool.and_true, Bool.true_and, eq_self, Bool.or_true, Bool.true_or, Bool.or_false, Bool.false_or, G.isNon, G.startE, G.bls, G.wipeE, P.evN0, Q.evQ2_0, Option.some.injEq, List.cons.injEq, List.nil_eq])
local macro_rules | `(tactic| walk_at "evs") => `(tactic| simp (config := { decide := false }) only [seval, G.evB0, G.evB1, G.evB2, G.evB3, G.evB4, G.evB5, List.getElem?_set_self, List.length_set, List.set_set, List.map_cons, List.map_nil, List.length_cons, List.length_nil, List.replicate, List.cons_append, List.nil_append, List.getElem?_cons_zero, List.getElem?_cons_succ, List.set_cons_zero, List.set_cons_succ, Option.map_some, Option.map_none, Option.bind_some, Bool.not_true, Bool.not_false, if_true, if_false, decide_true, decide_false, Bool.false_eq_true, true_and, and_true, false_and, and_false, List.foldl_cons, List.foldl_nil, List.all_cons, List.all_nil, id_eq, Bool.and_true, Bool.true_and, eq_self, Bool.or_true, Bool.true_or, Bool.or_false, Bool.false_or, G.isNon, G.startE, G.bls, G.wipeE, P.evN0, Q.evQ2_0, Option.some.injEq, List.cons.injEq, List.nil_eq, *])
namespace Q
open PySem L2 G P
theorem is_integer_run {S : Sto} {v lo hi : Int} : fn_is_integer.run [.int v, .int lo, .int hi] S = .ok (.bl (decide (lo ≤ v) && decide (v ≤ hi))) S := by
  unfold fn_is_integer ms_is_integer
  by_cases h : lo ≤ v
  · walk_at "evs"
  · walk_at "evs"
    simp
def Rl.ok (o l : Nat) (r : Rl) : Prop := r.1 < o ∧ r.2 < l
def Bd.ok (o l : Nat) : Bd → Prop
  | .own c => c < o
  | .rol r => Rl.ok o l r
  | .thr r m => Rl.ok o l r ∧ m < l
  | .bot r s => Rl.ok o l r ∧ Rl.ok o l s ∧ rLt r s
def Gr.ok (o l : Nat) (g : Gr) : Prop := Rl.ok o l g.1 ∧ g.2.ok o l
theorem rng {n c : Nat} (h : c < n) : (decide ((0 : Int) ≤ (c : Int)) && decide ((c : Int) ≤ (n : Int) - 1)) = true := by
  simp only [Bool.and_eq_true, decide_eq_true_eq]
  omega
theorem is_role_run {S : Sto} {o l : Nat} {r : Rl} (h : Rl.ok o l r) : fn_is_role.run [.int o, .int l, rD r] S = .ok (.bl true) S := by
  have R := @is_integer_run
  have h1 := rng h.1
  have h2 := rng h.2
  unfold fn_is_role ms_is_role
  walk_at "evs"
theorem is_word_run {S : Sto} {x : Str} (h : (decide (Str.ofString "owner" = x) || (decide (Str.ofString "role" = x) || (decide (Str.ofString "through" = x) || decide (Str.ofString "both" = x)))) = true) (hx : PyData.strOk x = true) :
    fn_is_word.run [.str x, .tup [.str "owner", .str "role", .str "through", .str "both"]] S = .ok (.bl true) S := by
  have R := in_s4 (S := S) hx ok_o ok_r ok_t ok_b
  rw [h] at R
  unfold fn_is_word ms_is_word
  walk_at "evs"
theorem is_body_run {S : Sto} {o l : Nat} {b : Bd} (h : b.ok o l) : fn_is_body.run [.int o, .int l, b.d] S = .ok (.bl true) S := by
  have R := @is_integer_run
  have R1 := @is_word_run S "owner" (by simp) ok_o
  have R2 := @is_word_run S "role" (by simp) ok_r
  have R3 := @is_word_run S "through" (by simp) ok_t
  have R4 := @is_word_run S "both" (by simp) ok_b
  have R5 := @is_role_run S o l
  have J := fun x => @in_s2 S x "owner" "role"
  unfold fn_is_body ms_is_body
  cases b with
  | own c =>
    have h1 := rng h
    simp only [Bd.d]
    walk_at "evs"
  | rol r =>
    have h1 := R5 h
    simp only [Bd.d]
    walk_at "evs"
  | thr r m =>
    have h1 := R5 h.1
    have h2 := rng h.2
    simp only [Bd.d]
    walk_at "evs"
  | bot r s =>
    have h1 := R5 h.1
    have h2 := R5 h.2.1
    have h3 : ltK (rK r) (rK s) = true := h.2.2
    simp only [Bd.d]
    walk_at "evs"
theorem grant_word_run {S : Sto} {o l : Nat} {g : Gr} (h : Gr.ok o l g) : fn_grant_word.run [.int o, .int l, gD g] S = .ok .non S := by
  have R := @is_role_run S o l g.1 h.1
  have R2 := @is_body_run S o l g.2 h.2
  unfold fn_grant_word ms_grant_word
  walk_at "evs"
end Q
end
section
set_option Elab.async false
set_option linter.all false
set_option maxRecDepth 100000
set_option maxHeartbeats 2000000
open PySem L2 G P
open Q
local macro_rules | `(tactic| walk_at "ev") => `(tactic| simp (config := { decide := false }) only [seval, G.evB0, G.evB1, G.evB2, G.evB3, G.evB4, G.evB5, List.getElem?_set_self, List.length_set, List.set_set, List.map_cons, List.map_nil, List.length_cons, List.length_nil, List.replicate, List.cons_append, List.nil_append, List.getElem?_cons_zero, List.getElem?_cons_succ, List.set_cons_zero, List.set_cons_succ, Option.map_some, Option.map_none, Option.bind_some, Bool.not_true, Bool.not_false, if_true, if_false, decide_true, decide_false, Bool.false_eq_true, true_and, and_true, false_and, and_false, List.foldl_cons, List.foldl_nil, List.all_cons, List.all_nil, id_eq, Bool.and_true, Bool.true_and, eq_self, Bool.or_true, Bool.true_or, Bool.or_false, Bool.false_or, G.isNon, G.startE, G.bls, G.wipeE, P.evN0, Q.evQ2_0, Option.some.injEq, List.cons.injEq, List.nil_eq])
local macro_rules | `(tactic| walk_at "evs") => `(tactic| simp (config := { decide := false }) only [seval, G.evB0, G.evB1, G.evB2, G.evB3, G.evB4, G.evB5, List.getElem?_set_self, List.length_set, List.set_set, List.map_cons, List.map_nil, List.length_cons, List.length_nil, List.replicate, List.cons_append, List.nil_append, List.getElem?_cons_zero, List.getElem?_cons_succ, List.set_cons_zero, List.set_cons_succ, Option.map_some, Option.map_none, Option.bind_some, Bool.not_true, Bool.not_false, if_true, if_false, decide_true, decide_false, Bool.false_eq_true, true_and, and_true, false_and, and_false, List.foldl_cons, List.foldl_nil, List.all_cons, List.all_nil, id_eq, Bool.and_true, Bool.true_and, eq_self, Bool.or_true, Bool.true_or, Bool.or_false, Bool.false_or, G.isNon, G.startE, G.bls, G.wipeE, P.evN0, Q.evQ2_0, Option.some.injEq, List.cons.injEq, List.nil_eq, *])
namespace Q
open PySem L2 G P
/-! ### all roles -/
def roles (o l : Nat) : List Rl := (List.range o).flatMap fun a => (List.range l).map fun b => (a, b)
theorem mem_roles {o l : Nat} {r : Rl} : r ∈ roles o l ↔ Rl.ok o l r := by
  unfold roles Rl.ok
  simp only [List.mem_flatMap, List.mem_range, List.mem_map]
  constructor
  · rintro ⟨a, ha, b, hb, rfl⟩
    exact ⟨ha, hb⟩
  · rintro ⟨h1, h2⟩
    exact ⟨r.1, h1, r.2, h2, rfl⟩
theorem flat_len (l : Nat) : ∀ pre : List Nat, (pre.flatMap fun a => (List.range l).map fun b => (a, b)).length = pre.length * l
  | [] => by simp
  | p :: pre => by rw [List.flatMap_cons, List.length_append, flat_len l pre]; simp [Nat.succ_mul, Nat.add_comm]
theorem roles_len (o l : Nat) : (roles o l).length = o * l := by
  unfold roles
  rw [flat_len, List.length_range]
theorem roles_nodup (o l : Nat) : (roles o l).Nodup := by
  unfold roles
  induction o with
  | zero => simp
  | succ o ih =>
    rw [List.range_succ, List.flatMap_append, List.nodup_append]
    refine ⟨ih, ?_, ?_⟩
    · simp only [List.flatMap_cons, List.flatMap_nil, List.append_nil]
      exact List.Pairwise.map _ (fun a b h e => h (Prod.mk.inj e).2) (List.nodup_range)
    · intro a ha b hb e
      subst e
      simp only [List.mem_flatMap, List.mem_range, List.mem_map, List.flatMap_cons, List.flatMap_nil, List.append_nil] at ha hb
      obtain ⟨x, hx, y, _, rfl⟩ := ha
      obtain ⟨z, _, e⟩ := hb
      have := (Prod.mk.inj e).1
      omega
/-- what a loop gathers, row by row -/
theorem all_roles_core {S : Sto} {o l : Nat} (ho : o ≤ 900) (hl : l ≤ 1000) {Q : Fl → Sto → Prop} (q : ∀ x3, Q (.nx [some (.int o), some (.int l), some (.ref S.length), x3, none]) (S ++ [.lst ((roles o l).map rD)])) :
    Wp (loop (gN 3) (sExt (mVar 2) (mLc (iRg1 (aCons (mVar 1) aNil)) (gN 4) tYesM (mTup (aCons (mVar 3) (aCons (mVar 4) aNil))) [4])) (fun _ => True) ((List.range o).map fun k => D.int (k : Nat))
      [some (.int o), some (.int l), some (.ref S.length), none, none] (S ++ [.lst []])) Q := by
  refine Wp_for (fun pre en S' => ∃ x3, en = [some (.int o), some (.int l), some (.ref S.length), x3, none] ∧ S' = S ++ [.lst ((pre.flatMap fun a => (List.range l).map fun b => (a, b)).map rD)]) ⟨none, rfl, rfl⟩ ?_ ?_
  · rintro pre a suf en S' hl' ⟨x3, rfl, rfl⟩
    have hp : pre.length ≤ o := by
      have := congrArg List.length hl'
      simp at this
      omega
    have hb : pre.length * l ≤ 900 * 1000 := Nat.mul_le_mul (by omega) hl
    refine ⟨_, rfl, ?_⟩
    have hl9 : l ≤ 1000000 := by omega
    walk_at "evs"
    rw [comp_all (f := fun b : Nat => rD (a, b)) (List.range l) (fun b _ => ⟨_, rfl, by walk_at "ev"; rfl⟩) (by simp; omega)]
    walk_at "ev"
    rw [extO2_lst (by rw [List.length_map, flat_len]; simp; omega)]
    walk_at "ev"
    exact ⟨_, rfl, by simp⟩
  · rintro en S' ⟨x3, rfl, rfl⟩
    exact q x3
theorem all_roles_run {S : Sto} {o l : Nat} (ho : o ≤ 900) (hl : l ≤ 1000) : fn_all_roles.run [.int o, .int l] S = .ok (.tup ((roles o l).map rD)) S := by
  unfold fn_all_roles ms_all_roles
  have ho9 : o ≤ 1000000 := by omega
  rw [dropF_run]
  refine drop_of ?_ (by walk_at "ev")
  walk_at "evs"
  refine all_roles_core ho hl fun x3 => ?_
  walk_at "ev"
  rw [dTuple_ref (getA rfl)]
  walk_at "ev"
  exact ⟨_, rfl⟩
theorem law_all_roles_run {S : Sto} {o l : Nat} (ho : o ≤ 900) (hl : l ≤ 1000) : fn_law_all_roles.run [.int o, .int l] S = .ok (.lst ((roles o l).map rD)) S := by
  unfold fn_law_all_roles ms_law_all_roles
  have ho9 : o ≤ 1000000 := by omega
  rw [frzF_run]
  refine frz_of (o := .lst ((roles o l).map rD)) 0 ?_ (by simp only [Ob.bel, bels_r])
  walk_at "evs"
  refine all_roles_core ho hl fun x3 => ?_
  walk_at "ev"
  exact ⟨_, rfl, rfl, rfl⟩
end Q
end
section
set_option Elab.async false
set_option linter.all false
set_option maxRecDepth 100000
set_option maxHeartbeats 2000000
open PySem L2 G P
open Q

local macro_rules | `(tactic| walk_at "ev") => `(tactic| simp (config := { decide := false }) only [seval, G.evB0, G.evB1, G.evB2, G.evB3, G.evB4, G.evB5, List.getElem?_set_self, List.length_set, List.set_set, List.map_cons, List.map_nil, List.length_cons, List.length_nil, List.replicate, List.cons_append, List.nil_append, List.getElem?_cons_zero, List.getElem?_cons_succ, List.set_cons_zero, List.set_cons_succ, Option.map_some, Option.map_none, Option.bind_some, Bool.not_true, Bool.not_false, if_true, if_false, decide_true, decide_false, Bool.false_eq_true, true_and, and_true, false_and, and_false, List.foldl_cons, List.foldl_nil, List.all_cons, List.all_nil, id_eq, Bool.and_true, Bool.true_and, eq_self, Bool.or_true, Bool.true_or, Bool.or_false, Bool.false_or, G.isNon, G.startE, G.bls, G.wipeE, P.evN0, Q.evQ2_0])
local macro_rules | `(tactic| walk_at "evs") => `(tactic| simp (config := { decide := false }) only [seval, G.evB0, G.evB1, G.evB2, G.evB3, G.evB4, G.evB5, List.getElem?_set_self, List.length_set, List.set_set, List.map_cons, List.map_nil, List.length_cons, List.length_nil, List.replicate, List.cons_append, List.nil_append, List.getElem?_cons_zero, List.getElem?_cons_succ, List.set_cons_zero, List.set_cons_succ, Option.map_some, Option.map_none, Option.bind_some, Bool.not_true, Bool.not_false, if_true, if_false, decide_true, decide_false, Bool.false_eq_true, true_and, and_true, false_and, and_false, List.foldl_cons, List.foldl_nil, List.all_cons, List.all_nil, id_eq, Bool.and_true, Bool.true_and, eq_self, Bool.or_true, Bool.true_or, Bool.or_false, Bool.false_or, G.isNon, G.startE, G.bls, G.wipeE, P.evN0, Q.evQ2_0, *])
namespace Q
open PySem L2 G P
/-- a policy's parts -/
structure PolOk (o l : Nat) (gs : List Gr) : Prop where
  o1 : 1 ≤ o
  o7 : o ≤ 7
  l1 : 1 ≤ l
  l4 : l ≤ 4
  len : gs.length ≤ 240
  ok : ∀ g ∈ gs, Gr.ok o l g
  asc : gs.Pairwise gLt
theorem asc_at {gs : List Gr} (h : gs.Pairwise gLt) {i : Nat} {a b : Gr} (ha : gs[i]? = some a) (hb : gs[i + 1]? = some b) : gLt a b := by
  obtain ⟨h1, rfl⟩ := List.getElem?_eq_some_iff.mp ha
  obtain ⟨h2, rfl⟩ := List.getElem?_eq_some_iff.mp hb
  exact List.pairwise_iff_getElem.mp h i (i + 1) h1 h2 (Nat.lt_succ_self _)
theorem check_policy_run {S : Sto} {o l : Nat} {gs : List Gr} (h : PolOk o l gs) : fn_check_policy.run [.int o, .int l, .tup (gs.map gD)] S = .ok .non S := by
  have R := @is_integer_run S
  have e1 : (decide ((1 : Int) ≤ (o : Int)) && decide ((o : Int) ≤ 7)) = true := by
    have := h.o1; have := h.o7
    simp only [Bool.and_eq_true, decide_eq_true_eq]; omega
  have e2 : (decide ((1 : Int) ≤ (l : Int)) && decide ((l : Int) ≤ 4)) = true := by
    have := h.l1; have := h.l4
    simp only [Bool.and_eq_true, decide_eq_true_eq]; omega
  have e3 : (decide ((240 : Int) < ((gs.map gD).length : Int))) = false := by
    have := h.len
    rw [List.length_map]
    exact decide_eq_false (by omega)
  unfold fn_check_policy ms_check_policy
  rw [dropF_run]
  refine drop_of ?_ (by walk_at "ev")
  walk_at "evs"
  rw [enumD_map]
  refine Wp_for (fun pre en S' => ∃ x3 x4 x5, en = [some (.int o), some (.int l), some (.tup (gs.map gD)), x3, x4, x5] ∧ S' = S) ⟨_, _, _, rfl, rfl⟩ ?_ ?_
  · rintro pre ⟨g, i⟩ suf en S' hl ⟨x3, x4, x5, rfl, rfl⟩
    have hg : gs[i]? = some g := by
      have : (g, i) ∈ gs.zipIdx := by rw [hl]; simp
      exact List.mem_zipIdx_iff_getElem?.mp this
    have hm : g ∈ gs := List.mem_of_getElem? hg
    have R2 := @grant_word_run S' o l g (h.ok g hm)
    refine ⟨_, rfl, ?_⟩
    cases i with
    | zero =>
      walk_at "evs"
      exact ⟨_, _, _, rfl⟩
    | succ i =>
      have hi : i < gs.length := by
        have := (List.getElem?_eq_some_iff.mp hg).1
        omega
      have lt := asc_at h.asc (List.getElem?_eq_getElem hi) hg
      have e4 : atI (gs.map gD) (((i + 1 : Nat) : Int) - 1) = some (gD gs[i]) := by
        refine atI_at (by omega) ?_
        rw [show (((i + 1 : Nat) : Int) - 1).toNat = i by omega, List.getElem?_map, List.getElem?_eq_getElem hi]
        rfl
      have e5 : decide ((0 : Int) < ((i + 1 : Nat) : Int)) = true := decide_eq_true (by omega)
      have e6 : ltK (gK gs[i]) (gK g) = true := lt
      walk_at "evs"
      exact ⟨_, _, _, rfl⟩
  · rintro en S' ⟨x3, x4, x5, rfl, rfl⟩
    walk_at "ev"
    exact ⟨[], by simp⟩
/-! ### policies -/
def polD (o l : Nat) (gs : List Gr) : D := .ins 0 ["parts"] [.tup [.int o, .int l, .tup (gs.map gD)]]
theorem Policy_init_run {S : Sto} {o l : Nat} {gs : List Gr} (h : PolOk o l gs) : fn_Policy_init.run [.ref S.length, .int o, .int l, .tup (gs.map gD)] (S ++ [.ins 0 [] []]) = .ok .non (S ++ [.ins 0 ["parts"] [.tup [.int o, .int l, .tup (gs.map gD)]]]) := by
  have R := @check_policy_run (S ++ [.ins 0 [] []]) o l gs h
  unfold fn_Policy_init ms_Policy_init
  walk_at "evs"
  rw [fsK1_ok (getA0 _ _) (by simp)]
  walk_at "ev"
  rfl
theorem make_pol {S : Sto} {o l : Nat} {gs : List Gr} (h : PolOk o l gs) : makeK 0 fn_Policy_init [.int o, .int l, .tup (gs.map gD)] S = .ok (polD o l gs) S :=
  mk_init (by rw [n_Policy_init]; rfl) (Policy_init_run h) (by simp only [D.bels, D.bel, bels_g, and_self])
theorem owners_run {S : Sto} {o l : Nat} {gs : List Gr} : fn_Policy_owners.run [polD o l gs] S = .ok (.int o) S := by
  unfold fn_Policy_owners ms_Policy_owners polD
  walk_at "ev"
theorem labels_run {S : Sto} {o l : Nat} {gs : List Gr} : fn_Policy_labels.run [polD o l gs] S = .ok (.int l) S := by
  unfold fn_Policy_labels ms_Policy_labels polD
  walk_at "ev"
theorem grants_run {S : Sto} {o l : Nat} {gs : List Gr} : fn_Policy_grants.run [polD o l gs] S = .ok (.tup (gs.map gD)) S := by
  unfold fn_Policy_grants ms_Policy_grants polD
  walk_at "ev"
theorem prop_owners (S : Sto) (o l : Nat) (gs : List Gr) : propK 0 fn_Policy_owners (polD o l gs) S = .ok (.int o) S := by
  rw [polD, propK_ins n_Policy_owners, ← polD, owners_run]
  rfl
theorem prop_labels (S : Sto) (o l : Nat) (gs : List Gr) : propK 0 fn_Policy_labels (polD o l gs) S = .ok (.int l) S := by
  rw [polD, propK_ins n_Policy_labels, ← polD, labels_run]
  rfl
theorem prop_grants (S : Sto) (o l : Nat) (gs : List Gr) : propK 0 fn_Policy_grants (polD o l gs) S = .ok (.tup (gs.map gD)) S := by
  rw [polD, propK_ins n_Policy_grants, ← polD, grants_run]
  rfl
theorem bel_pol (n o l : Nat) (gs : List Gr) : D.bel n (polD o l gs) = True := by
  simp only [polD, D.bel, D.bels, bels_g, and_self]
local macro_rules | `(tactic| walk_at "ev") => `(tactic| simp (config := { decide := false }) only [seval, G.evB0, G.evB1, G.evB2, G.evB3, G.evB4, G.evB5, List.getElem?_set_self, List.length_set, List.set_set, List.map_cons, List.map_nil, List.length_cons, List.length_nil, List.replicate, List.cons_append, List.nil_append, List.getElem?_cons_zero, List.getElem?_cons_succ, List.set_cons_zero, List.set_cons_succ, Option.map_some, Option.map_none, Option.bind_some, Bool.not_true, Bool.not_false, if_true, if_false, decide_true, decide_false, Bool.false_eq_true, true_and, and_true, false_and, and_false, List.foldl_cons, List.foldl_nil, List.all_cons, List.all_nil, id_eq, Bool.and_true, Bool.true_and, eq_self, Bool.or_true, Bool.true_or, Bool.or_false, Bool.false_or, G.isNon, G.startE, G.bls, G.wipeE, P.evN0, Q.evQ2_0, bel_pol, prop_owners, prop_labels, prop_grants])
local macro_rules | `(tactic| walk_at "evs") => `(tactic| simp (config := { decide := false }) only [seval, G.evB0, G.evB1, G.evB2, G.evB3, G.evB4, G.evB5, List.getElem?_set_self, List.length_set, List.set_set, List.map_cons, List.map_nil, List.length_cons, List.length_nil, List.replicate, List.cons_append, List.nil_append, List.getElem?_cons_zero, List.getElem?_cons_succ, List.set_cons_zero, List.set_cons_succ, Option.map_some, Option.map_none, Option.bind_some, Bool.not_true, Bool.not_false, if_true, if_false, decide_true, decide_false, Bool.false_eq_true, true_and, and_true, false_and, and_false, List.foldl_cons, List.foldl_nil, List.all_cons, List.all_nil, id_eq, Bool.and_true, Bool.true_and, eq_self, Bool.or_true, Bool.true_or, Bool.or_false, Bool.false_or, G.isNon, G.startE, G.bls, G.wipeE, P.evN0, Q.evQ2_0, bel_pol, prop_owners, prop_labels, prop_grants, *])

theorem roles_run {S : Sto} {o l : Nat} {gs : List Gr} (ho : o ≤ 900) (hl : l ≤ 900) : fn_Policy_roles.run [polD o l gs] S = .ok (.tup ((roles o l).map rD)) S := by
  have R := @all_roles_run S o l ho (by omega)
  unfold fn_Policy_roles ms_Policy_roles
  walk_at "evs"
theorem meth_roles {S : Sto} {o l : Nat} {gs : List Gr} {en : En} (ho : o ≤ 900) (hl : l ≤ 900) : methK 0 "roles" fn_Policy_roles aNil en (polD o l gs) S = .ok (.tup ((roles o l).map rD)) S := by
  rw [polD, methK_ins (by decide +kernel), ← polD, aNil_ap, Res.bind_ok, methK2_ok (by rw [n_Policy_roles]; rfl), roles_run ho hl]
end Q
end
section
set_option Elab.async false
set_option linter.all false
set_option maxRecDepth 100000
set_option maxHeartbeats 2000000
open PySem L2 G P
open Q

local macro_rules | `(tactic| walk_at "ev") => `(tactic| simp (config := { decide := false }) only [seval, G.evB0, G.evB1, G.evB2, G.evB3, G.evB4, G.evB5, List.getElem?_set_self, List.length_set, List.set_set, List.map_cons, List.map_nil, List.length_cons, List.length_nil, List.replicate, List.cons_append, List.nil_append, List.getElem?_cons_zero, List.getElem?_cons_succ, List.set_cons_zero, List.set_cons_succ, Option.map_some, Option.map_none, Option.bind_some, Bool.not_true, Bool.not_false, if_true, if_false, decide_true, decide_false, Bool.false_eq_true, true_and, and_true, false_and, and_false, List.foldl_cons, List.foldl_nil, List.all_cons, List.all_nil, id_eq, Bool.and_true, Bool.true_and, eq_self, Bool.or_true, Bool.true_or, Bool.or_false, Bool.false_or, G.isNon, G.startE, G.bls, G.wipeE, P.evN0, Q.evQ2_0])
local macro_rules | `(tactic| walk_at "evs") => `(tactic| simp (config := { decide := false }) only [seval, G.evB0, G.evB1, G.evB2, G.evB3, G.evB4, G.evB5, List.getElem?_set_self, List.length_set, List.set_set, List.map_cons, List.map_nil, List.length_cons, List.length_nil, List.replicate, List.cons_append, List.nil_append, List.getElem?_cons_zero, List.getElem?_cons_succ, List.set_cons_zero, List.set_cons_succ, Option.map_some, Option.map_none, Option.bind_some, Bool.not_true, Bool.not_false, if_true, if_false, decide_true, decide_false, Bool.false_eq_true, true_and, and_true, false_and, and_false, List.foldl_cons, List.foldl_nil, List.all_cons, List.all_nil, id_eq, Bool.and_true, Bool.true_and, eq_self, Bool.or_true, Bool.true_or, Bool.or_false, Bool.false_or, G.isNon, G.startE, G.bls, G.wipeE, P.evN0, Q.evQ2_0, *])
namespace Q
open PySem L2 G P
/-! ### bits -/
theorem bitNot_eq (x : Int) : Builtin.bitNot x = -x - 1 := rfl
theorem and_nat (a b : Nat) : Builtin.bitAnd (a : Int) (b : Int) = ((a &&& b : Nat) : Int) := by
  rw [PyProof.Rows.bitAnd_pp (by omega) (by omega)]
  simp
theorem or_nat (a b : Nat) : Builtin.bitOr (a : Int) (b : Int) = ((a ||| b : Nat) : Int) := by
  unfold Builtin.bitOr
  rw [PyProof.Rows.bitAnd_nn (by rw [bitNot_eq]; omega) (by rw [bitNot_eq]; omega)]
  simp only [bitNot_eq]
  have e1 : (-(-(a : Int) - 1) - 1).toNat = a := by omega
  have e2 : (-(-(b : Int) - 1) - 1).toNat = b := by omega
  rw [e1, e2]
  omega
/-- the places of the bits that are 1, from k on -/
def bitsFrom (k : Nat) (n : Nat) : List Nat := if h : n = 0 then [] else (if n % 2 = 1 then [k] else []) ++ bitsFrom (k + 1) (n / 2)
termination_by n
decreasing_by omega
theorem bitsFrom_zero (k : Nat) : bitsFrom k 0 = [] := by rw [bitsFrom]; simp
theorem bitsFrom_pos {k n : Nat} (h : n ≠ 0) : bitsFrom k n = (if n % 2 = 1 then [k] else []) ++ bitsFrom (k + 1) (n / 2) := by rw [bitsFrom, dif_neg h]
def bits (n : Nat) : List Nat := bitsFrom 0 n
theorem mem_bitsFrom : ∀ (n k i : Nat), i ∈ bitsFrom k n ↔ k ≤ i ∧ n.testBit (i - k) = true := by
  intro n
  induction n using Nat.strongRecOn with
  | _ n ih =>
    intro k i
    by_cases h : n = 0
    · subst h
      rw [bitsFrom_zero]
      simp
    · rw [bitsFrom_pos h, List.mem_append, ih (n / 2) (by omega) (k + 1) i]
      have t0 : n.testBit 0 = decide (n % 2 = 1) := by simp [Nat.testBit_zero]
      constructor
      · rintro (h1 | ⟨h1, h2⟩)
        · split at h1
          · rename_i h3
            simp only [List.mem_singleton] at h1
            subst h1
            refine ⟨Nat.le_refl _, ?_⟩
            rw [Nat.sub_self, t0]
            simpa using h3
          · simp at h1
        · refine ⟨by omega, ?_⟩
          rw [show i - k = (i - (k + 1)) + 1 by omega, Nat.testBit_succ]
          exact h2
      · rintro ⟨h1, h2⟩
        by_cases e : i = k
        · subst e
          left
          rw [Nat.sub_self, t0] at h2
          rw [if_pos (by simpa using h2)]
          simp
        · right
          refine ⟨by omega, ?_⟩
          rw [show i - k = (i - (k + 1)) + 1 by omega, Nat.testBit_succ] at h2
          exact h2
theorem mem_bits {n i : Nat} : i ∈ bits n ↔ n.testBit i = true := by
  unfold bits
  rw [mem_bitsFrom]
  simp
theorem asc_bitsFrom : ∀ (n k : Nat), (bitsFrom k n).Pairwise (· < ·) := by
  intro n
  induction n using Nat.strongRecOn with
  | _ n ih =>
    intro k
    by_cases h : n = 0
    · subst h
      rw [bitsFrom_zero]
      exact .nil
    · rw [bitsFrom_pos h]
      refine List.pairwise_append.mpr ⟨by split <;> simp, ih (n / 2) (by omega) (k + 1), fun a ha b hb => ?_⟩
      have h2 := ((mem_bitsFrom _ _ _).mp hb).1
      split at ha
      · simp only [List.mem_singleton] at ha
        omega
      · simp at ha
theorem asc_bits (n : Nat) : (bits n).Pairwise (· < ·) := asc_bitsFrom n 0
theorem bits_lt {n o : Nat} (h : n < 2 ^ o) {i : Nat} (hi : i ∈ bits n) : i < o := by
  rw [mem_bits] at hi
  have := Nat.ge_two_pow_of_testBit hi
  have := (Nat.pow_lt_pow_iff_right (a := 2) (by decide)).mp (Nat.lt_of_le_of_lt this h)
  exact this
theorem bitsFrom_len : ∀ (o n k : Nat), n < 2 ^ o → (bitsFrom k n).length ≤ o
  | 0, n, k, h => by
    have : n = 0 := by simpa using h
    subst this
    rw [bitsFrom_zero]
    exact Nat.le_refl _
  | o + 1, n, k, h => by
    by_cases e : n = 0
    · subst e; rw [bitsFrom_zero]; exact Nat.zero_le _
    · have := bitsFrom_len o (n / 2) (k + 1) (by rw [Nat.pow_succ] at h; omega)
      rw [bitsFrom_pos e, List.length_append]
      split <;> simp <;> omega
theorem bits_len {n o : Nat} (h : n < 2 ^ o) : (bits n).length ≤ o := bitsFrom_len o n 0 h
/-- two ascending rows of the same -/
theorem asc_eq : ∀ {l m : List Nat}, l.Pairwise (· < ·) → m.Pairwise (· < ·) → (∀ i, i ∈ l ↔ i ∈ m) → l = m := fun {l m} h1 h2 h => by
  refine List.Perm.eq_of_pairwise (le := (· < ·)) (fun a b _ _ x y => by omega) h1 h2 ?_
  exact (List.perm_ext_iff_of_nodup (h1.imp fun h => Nat.ne_of_lt h) (h2.imp fun h => Nat.ne_of_lt h)).mpr h
theorem members_run {S : Sto} {n : Nat} (hn : n < 100000) : fn_members.run [.int n] S = .ok (.tup ((bits n).map iD)) S := by
  unfold fn_members ms_members
  rw [dropF_run]
  refine drop_of ?_ (by walk_at "ev")
  walk_at "ev"
  refine Wp_whil (fun en S' => ∃ (m k : Nat) (acc : List Nat), en = [some (.int m), some (.ref S.length), some (.int k)] ∧ S' = S ++ [.lst (acc.map iD)] ∧ acc ++ bitsFrom k m = bits n ∧ acc.length ≤ k ∧ k + m ≤ n)
    (fun en _ => match en with | some (.int m) :: _ => m.toNat | _ => 0) ?_ 100000 _ _ ⟨n, 0, [], rfl, rfl, rfl, Nat.le_refl _, by omega⟩ (by simpa using hn)
  rintro en S' ⟨m, k, acc, rfl, rfl, e, hk, hm⟩
  by_cases h : m = 0
  · subst h
    rw [bitsFrom_zero, List.append_nil] at e
    subst e
    walk_at "ev"
    rw [dTuple_ref (getA0 _ _)]
    walk_at "ev"
    exact ⟨_, rfl⟩
  · have h0 : decide ((0 : Int) < (m : Int)) = true := decide_eq_true (by omega)
    rw [bitsFrom_pos h] at e
    have d1 : ((m : Int) / 2) = ((m / 2 : Nat) : Int) := by omega
    have d2 : ((k : Int) + 1) = ((k + 1 : Nat) : Int) := by omega
    have d3 : ((m : Int) % 2) = ((m % 2 : Nat) : Int) := by omega
    by_cases hb : m % 2 = 1
    · have h1 : decide (((m % 2 : Nat) : Int) = 1) = true := decide_eq_true (by omega)
      have hl : (acc.map iD).length < 1000000 := by rw [List.length_map]; omega
      rw [if_pos hb] at e
      walk_at "evs"
      refine ⟨⟨m / 2, k + 1, acc ++ [k], rfl, ?_, by rw [← e]; simp, by simp; omega, by omega⟩, by simp; omega⟩
      simp [iD]
    · have h1 : decide (((m % 2 : Nat) : Int) = 1) = false := decide_eq_false (by omega)
      rw [if_neg hb, List.nil_append] at e
      walk_at "evs"
      refine ⟨⟨m / 2, k + 1, acc, rfl, rfl, e, by omega, by omega⟩, by simp; omega⟩
end Q
end
section
set_option Elab.async false
set_option linter.all false
set_option maxRecDepth 100000
set_option maxHeartbeats 2000000
open PySem L2 G P
open Q

local macro_rules | `(tactic| walk_at "ev") => `(tactic| simp (config := { decide := false }) only [seval, G.evB0, G.evB1, G.evB2, G.evB3, G.evB4, G.evB5, List.getElem?_set_self, List.length_set, List.set_set, List.map_cons, List.map_nil, List.length_cons, List.length_nil, List.replicate, List.cons_append, List.nil_append, List.getElem?_cons_zero, List.getElem?_cons_succ, List.set_cons_zero, List.set_cons_succ, Option.map_some, Option.map_none, Option.bind_some, Bool.not_true, Bool.not_false, if_true, if_false, decide_true, decide_false, Bool.false_eq_true, true_and, and_true, false_and, and_false, List.foldl_cons, List.foldl_nil, List.all_cons, List.all_nil, id_eq, Bool.and_true, Bool.true_and, eq_self, Bool.or_true, Bool.true_or, Bool.or_false, Bool.false_or, G.isNon, G.startE, G.bls, G.wipeE, P.evN0, Q.evQ2_0])
local macro_rules | `(tactic| walk_at "evs") => `(tactic| simp (config := { decide := false }) only [seval, G.evB0, G.evB1, G.evB2, G.evB3, G.evB4, G.evB5, List.getElem?_set_self, List.length_set, List.set_set, List.map_cons, List.map_nil, List.length_cons, List.length_nil, List.replicate, List.cons_append, List.nil_append, List.getElem?_cons_zero, List.getElem?_cons_succ, List.set_cons_zero, List.set_cons_succ, Option.map_some, Option.map_none, Option.bind_some, Bool.not_true, Bool.not_false, if_true, if_false, decide_true, decide_false, Bool.false_eq_true, true_and, and_true, false_and, and_false, List.foldl_cons, List.foldl_nil, List.all_cons, List.all_nil, id_eq, Bool.and_true, Bool.true_and, eq_self, Bool.or_true, Bool.true_or, Bool.or_false, Bool.false_or, G.isNon, G.startE, G.bls, G.wipeE, P.evN0, Q.evQ2_0, *])
namespace Q
open PySem L2 G P
/-! ### dicts by a typed row of keys -/
section
variable {α : Type} [DecidableEq α] {q : α → List Key} (inj : ∀ a b, q a = q b → a = b)
include inj
theorem lookT_map (v : α → D) (a : α) : ∀ l : List α, a ∈ l → lookT (l.map q) (l.map v) (q a) = some (v a)
  | b :: l, h => by
    simp only [List.map_cons, lookT]
    by_cases e : b = a
    · subst e; rw [if_pos rfl]
    · rw [if_neg fun z => e (inj _ _ z)]
      exact lookT_map v a l ((List.mem_cons.mp h).resolve_left fun z => e z.symm)
theorem lookT_none (v : α → D) (a : α) : ∀ l : List α, a ∉ l → lookT (l.map q) (l.map v) (q a) = none
  | [], _ => rfl
  | b :: l, h => by
    simp only [List.map_cons, lookT]
    rw [if_neg fun z => h (by rw [inj _ _ z]; simp)]
    exact lookT_none v a l fun z => h (by simp [z])
theorem replT_map (v : α → D) (a : α) (d : D) : ∀ l : List α, replT (q a) d (l.map q) (l.map v) = l.map fun b => if b = a then d else v b
  | [] => rfl
  | b :: l => by
    simp only [List.map_cons, replT, replT_map v a d l]
    congr 1
    by_cases e : b = a
    · subst e; simp
    · rw [if_neg fun z => e (inj _ _ z), if_neg e]
theorem hasK_map (a : α) (l : List α) : (hasK (q a) (l.map q) = true) ↔ a ∈ l := by
  unfold hasK
  rw [List.any_map, List.any_eq_true]
  constructor
  · rintro ⟨b, hb, e⟩
    have : q b = q a := by simpa using e
    rw [← inj _ _ this]
    exact hb
  · intro h
    exact ⟨a, h, by simp⟩
end
def rq (r : Rl) : List Key := [.inl r.1, .inl r.2]
theorem rq_inj : ∀ a b, rq a = rq b → a = b := fun a b h => by
  unfold rq at h
  simp only [List.cons.injEq, Sum.inl.injEq, Int.ofNat_inj, and_true] at h
  exact Prod.ext h.1 h.2
theorem tks_r : ∀ l : List Rl, tkeysD (l.map rD) = some (l.map rq)
  | [] => rfl
  | r :: l => by simp only [List.map_cons, tkeysD, tk_r, tks_r l]; rfl
/-- a dict with all roles, and what stands at each -/
def kdD (o l : Nat) (v : Rl → D) : D := .dic ((roles o l).map rD) ((roles o l).map v)
def kdO (o l : Nat) (v : Rl → D) : Ob := .dic ((roles o l).map rD) ((roles o l).map v)
/-- such a dict, plain or in the store -/
def KdAt (S : Sto) (d : D) (o l : Nat) (v : Rl → D) : Prop := dicOf S d = some ((roles o l).map rD, (roles o l).map v)
theorem KdAt.d (S : Sto) (o l : Nat) (v : Rl → D) : KdAt S (kdD o l v) o l v := rfl
theorem KdAt.r {S : Sto} {i o l : Nat} {v : Rl → D} (h : S[i]? = some (kdO o l v)) : KdAt S (.ref i) o l v := by
  unfold KdAt
  rw [dicOf_ref, h]
  rfl
theorem KdAt.app {S T : Sto} {d : D} {o l : Nat} {v : Rl → D} (h : KdAt S d o l v) : KdAt (S ++ T) d o l v := by
  unfold KdAt at h ⊢
  cases d with
  | dic ks vs => exact h
  | ref i =>
    rw [dicOf_ref] at h ⊢
    cases e : S[i]? with
    | none => rw [e] at h; cases h
    | some x =>
      rw [getB (List.getElem?_eq_some_iff.mp e).1, e]
      rw [e] at h
      exact h
  | _ => cases h
theorem KdAt.get {S : Sto} {d : D} {o l : Nat} {v : Rl → D} (h : KdAt S d o l v) {r : Rl} (hr : Rl.ok o l r) : dGetO S d (rD r) = some (some (v r)) := by
  unfold dGetO
  rw [h]
  simp only [tk_r, tks_r]
  exact congrArg some (lookT_map rq_inj v r (roles o l) (mem_roles.mpr hr))
theorem KdAt.ix {S : Sto} {d : D} {o l : Nat} {v : Rl → D} (h : KdAt S d o l v) {r : Rl} (hr : Rl.ok o l r) : dIdxA S d (rD r) = some (v r) := dIdxA_get (tk_r r) (h.get hr)
theorem KdAt.ix2 {S : Sto} {d : D} {o l : Nat} {v : Rl → D} (h : KdAt S d o l v) {a b : Nat} (hr : Rl.ok o l (a, b)) : dIdxA S d (.tup [.int a, .int b]) = some (v (a, b)) := h.ix hr
theorem put_r {S : Sto} {i o l : Nat} {v : Rl → D} {en : En} {r : Rl} {d : D} (h : S[i]? = some (kdO o l v)) (hr : Rl.ok o l r) (hol : o * l ≤ 1000) : dpK3 en d (.ref i) (rD r) S = .ok (.nx en) (S.set i (kdO o l fun b => if b = r then d else v b)) := by
  rw [dpK3_ok h (tk_r r) (tks_r _) (by rw [List.length_map, roles_len]; omega)]
  unfold putT
  rw [if_pos (by rw [show ([Sum.inl (r.1 : Int), Sum.inl (r.2 : Int)] : List Key) = rq r from rfl, hasK_map rq_inj]; exact mem_roles.mpr hr)]
  rw [show ([Sum.inl (r.1 : Int), Sum.inl (r.2 : Int)] : List Key) = rq r from rfl, replT_map rq_inj]
  rfl
theorem bel_kdO {n o l : Nat} {v : Rl → D} (h : ∀ r, (v r).bel n = True) : (kdO o l v).bel n := by
  unfold kdO
  simp only [Ob.bel]
  rw [bels_map n v h]
  trivial
theorem bel_kdD {n o l : Nat} {v : Rl → D} (h : ∀ r, (v r).bel n = True) : (kdD o l v).bel n := by
  unfold kdD
  simp only [D.bel]
  rw [bels_map n v h]
  trivial
theorem kd_congr {o l : Nat} {v w : Rl → D} (h : ∀ r, Rl.ok o l r → v r = w r) : (roles o l).map v = (roles o l).map w := List.map_congr_left fun r hr => h r (mem_roles.mp hr)
/-- the roles' hashes differ -/
theorem hap {o l : Nat} (ho : o ≤ 8) (hl : l ≤ 4) : HApart ((roles o l).map rq) := by
  intro w
  have big : ((roles 8 4).map fun r : Rl => reduceHash (Builtin.Tuple.tupleHashOf [hashInt r.1, hashInt r.2])).Nodup := by decide +kernel
  have e : ((roles o l).map rq).map (fun k => reduceHash (Builtin.Tuple.tupleHashOf (k.map (keyH w)))) = (roles o l).map fun r : Rl => reduceHash (Builtin.Tuple.tupleHashOf [hashInt r.1, hashInt r.2]) := by
    rw [List.map_map]
    rfl
  rw [e]
  rw [List.nodup_iff_pairwise_ne, List.pairwise_map] at big ⊢
  refine (roles_nodup o l).imp_of_mem fun {a b} ha hb ne => ?_
  intro z
  have ha' : a ∈ roles 8 4 := mem_roles.mpr ⟨Nat.lt_of_lt_of_le (mem_roles.mp ha).1 ho, Nat.lt_of_lt_of_le (mem_roles.mp ha).2 hl⟩
  have hb' : b ∈ roles 8 4 := mem_roles.mpr ⟨Nat.lt_of_lt_of_le (mem_roles.mp hb).1 ho, Nat.lt_of_lt_of_le (mem_roles.mp hb).2 hl⟩
  have key : ∀ a ∈ roles 8 4, ∀ b ∈ roles 8 4, a ≠ b → reduceHash (Builtin.Tuple.tupleHashOf [hashInt (a.1 : Nat), hashInt (a.2 : Nat)]) ≠ reduceHash (Builtin.Tuple.tupleHashOf [hashInt (b.1 : Nat), hashInt (b.2 : Nat)]) := by
    intro a ha b hb ne
    obtain ⟨i, hi, rfl⟩ := List.mem_iff_getElem.mp ha
    obtain ⟨j, hj, rfl⟩ := List.mem_iff_getElem.mp hb
    rcases Nat.lt_trichotomy i j with h | h | h
    · exact List.pairwise_iff_getElem.mp big i j hi hj h
    · subst h; exact absurd rfl ne
    · exact fun e => List.pairwise_iff_getElem.mp big j i hj hi h e.symm
  exact key a ha' b hb' ne z
end Q
end
section
set_option Elab.async false
set_option linter.all false
set_option maxRecDepth 100000
set_option maxHeartbeats 2000000
open PySem L2 G P
open Q

local macro_rules | `(tactic| walk_at "ev") => `(tactic| simp (config := { decide := false }) only [seval, G.evB0, G.evB1, G.evB2, G.evB3, G.evB4, G.evB5, List.getElem?_set_self, List.length_set, List.set_set, List.map_cons, List.map_nil, List.length_cons, List.length_nil, List.replicate, List.cons_append, List.nil_append, List.getElem?_cons_zero, List.getElem?_cons_succ, List.set_cons_zero, List.set_cons_succ, Option.map_some, Option.map_none, Option.bind_some, Bool.not_true, Bool.not_false, if_true, if_false, decide_true, decide_false, Bool.false_eq_true, true_and, and_true, false_and, and_false, List.foldl_cons, List.foldl_nil, List.all_cons, List.all_nil, id_eq, Bool.and_true, Bool.true_and, eq_self, Bool.or_true, Bool.true_or, Bool.or_false, Bool.false_or, G.isNon, G.startE, G.bls, G.wipeE, P.evN0, Q.evQ2_0])
local macro_rules | `(tactic| walk_at "evs") => `(tactic| simp (config := { decide := false }) only [seval, G.evB0, G.evB1, G.evB2, G.evB3, G.evB4, G.evB5, List.getElem?_set_self, List.length_set, List.set_set, List.map_cons, List.map_nil, List.length_cons, List.length_nil, List.replicate, List.cons_append, List.nil_append, List.getElem?_cons_zero, List.getElem?_cons_succ, List.set_cons_zero, List.set_cons_succ, Option.map_some, Option.map_none, Option.bind_some, Bool.not_true, Bool.not_false, if_true, if_false, decide_true, decide_false, Bool.false_eq_true, true_and, and_true, false_and, and_false, List.foldl_cons, List.foldl_nil, List.all_cons, List.all_nil, id_eq, Bool.and_true, Bool.true_and, eq_self, Bool.or_true, Bool.true_or, Bool.or_false, Bool.false_or, G.isNon, G.startE, G.bls, G.wipeE, P.evN0, Q.evQ2_0, *])
namespace Q
open PySem L2 G P
/-! ### who holds what: as bits, round by round -/
abbrev Kn := Rl → Nat
def nD (f : Kn) : Rl → D := fun r => .int (f r : Nat)
theorem nD_ap (f : Kn) (r : Rl) : nD f r = .int (f r : Nat) := rfl
local macro_rules | `(tactic| walk_at "ev") => `(tactic| simp (config := { decide := false }) only [seval, G.evB0, G.evB1, G.evB2, G.evB3, G.evB4, G.evB5, List.getElem?_set_self, List.length_set, List.set_set, List.map_cons, List.map_nil, List.length_cons, List.length_nil, List.replicate, List.cons_append, List.nil_append, List.getElem?_cons_zero, List.getElem?_cons_succ, List.set_cons_zero, List.set_cons_succ, Option.map_some, Option.map_none, Option.bind_some, Bool.not_true, Bool.not_false, if_true, if_false, decide_true, decide_false, Bool.false_eq_true, true_and, and_true, false_and, and_false, List.foldl_cons, List.foldl_nil, List.all_cons, List.all_nil, id_eq, Bool.and_true, Bool.true_and, eq_self, Bool.or_true, Bool.true_or, Bool.or_false, Bool.false_or, G.isNon, G.startE, G.bls, G.wipeE, P.evN0, Q.evQ2_0, nD_ap, and_nat, or_nat])
local macro_rules | `(tactic| walk_at "evs") => `(tactic| simp (config := { decide := false }) only [seval, G.evB0, G.evB1, G.evB2, G.evB3, G.evB4, G.evB5, List.getElem?_set_self, List.length_set, List.set_set, List.map_cons, List.map_nil, List.length_cons, List.length_nil, List.replicate, List.cons_append, List.nil_append, List.getElem?_cons_zero, List.getElem?_cons_succ, List.set_cons_zero, List.set_cons_succ, Option.map_some, Option.map_none, Option.bind_some, Bool.not_true, Bool.not_false, if_true, if_false, decide_true, decide_false, Bool.false_eq_true, true_and, and_true, false_and, and_false, List.foldl_cons, List.foldl_nil, List.all_cons, List.all_nil, id_eq, Bool.and_true, Bool.true_and, eq_self, Bool.or_true, Bool.true_or, Bool.or_false, Bool.false_or, G.isNon, G.startE, G.bls, G.wipeE, P.evN0, Q.evQ2_0, nD_ap, and_nat, or_nat, *])

theorem bel_nD (n : Nat) (f : Kn) (r : Rl) : D.bel n (nD f r) = True := by simp [nD, D.bel]
def byF (f : Kn) : Bd → Nat
  | .own c => 2 ^ c
  | .rol r => f r
  | .bot r s => f r &&& f s
  | .thr r m => (bits (f r)).foldl (fun a w => a ||| f (w, m)) 0
def KnOk (o l : Nat) (f : Kn) : Prop := ∀ r, Rl.ok o l r → f r < 2 ^ o
theorem pow_le {o : Nat} (h : o ≤ 8) : 2 ^ o ≤ 256 := Nat.pow_le_pow_right (by decide) h
theorem by_body_run {S : Sto} {d : D} {o l : Nat} {f : Kn} {b : Bd} (h : KdAt S d o l (nD f)) (hf : KnOk o l f) (hb : b.ok o l) (ho : o ≤ 8) : fn_by_body.run [b.d, d] S = .ok (.int (byF f b)) S := by
  have p8 := pow_le ho
  unfold fn_by_body ms_by_body
  cases b with
  | own c =>
    have hc : c < o := hb
    have e : (1 * 2 ^ ((c : Int)).toNat : Int) = ((2 ^ c : Nat) : Int) := by simp
    have cp : CPow 1 (c : Int) := ⟨by omega, by omega, by decide⟩
    simp only [Bd.d, byF]
    walk_at "evs"
  | rol r =>
    have e := h.ix (r := r) hb
    simp only [Bd.d, byF]
    walk_at "evs"
  | bot r s =>
    have e := h.ix (r := r) hb.1
    have e2 := h.ix (r := s) hb.2.1
    simp only [Bd.d, byF]
    walk_at "evs"
  | thr r m =>
    have e := h.ix (r := r) hb.1
    have fr := hf r hb.1
    have R := @members_run S (f r) (by omega)
    simp only [Bd.d, byF]
    rw [dropF_run]
    refine drop_of ?_ (by walk_at "ev")
    walk_at "evs"
    refine Wp_for (fun pre en S' => ∃ x3, en = [some (.tup [.str "through", rD r, .int m]), some d, some (.int ((pre.foldl (fun a w => a ||| f (w, m)) 0 : Nat))), x3] ∧ S' = S) ⟨_, rfl, rfl⟩ ?_ ?_
    · rintro pre a suf en S' hl ⟨x3, rfl, rfl⟩
      have ha : a ∈ bits (f r) := by rw [hl]; simp
      have ok : Rl.ok o l (a, m) := ⟨bits_lt fr ha, hb.2⟩
      have e3 := h.ix2 ok
      refine ⟨_, rfl, ?_⟩
      simp only [iD]
      walk_at "evs"
      exact ⟨_, by rw [List.foldl_append]; rfl⟩
    · rintro en S' ⟨x3, rfl, rfl⟩
      walk_at "ev"
      exact ⟨[], by simp⟩
/-! one round -/
def stp (f : Kn) (h : Kn) (g : Gr) : Kn := fun r => if r = g.1 then h r ||| byF f g.2 else h r
def nextF (gs : List Gr) (f : Kn) : Kn := gs.foldl (stp f) f
def Grs (x : D) (gs : List Gr) : Prop := ∀ S, seqIK x S = .ok ⟨gs.map gD, fun _ => True⟩ S
theorem Grs.t (gs : List Gr) : Grs (.tup (gs.map gD)) gs := fun S => seqIK_tup _ _
theorem Grs.l (gs : List Gr) : Grs (.lst (gs.map gD)) gs := fun S => seqIK_lst _ _
theorem next_round_run {S : Sto} {x d : D} {o l : Nat} {f : Kn} {gs : List Gr} (hx : Grs x gs) (h : KdAt S d o l (nD f)) (hf : KnOk o l f) (hg : ∀ g ∈ gs, Gr.ok o l g) (ho : o ≤ 8) (hl : l ≤ 4) :
    fn_next_round.run [x, d] S = .ok (kdD o l (nD (nextF gs f))) S := by
  have hol : o * l ≤ 1000 := Nat.le_trans (Nat.mul_le_mul ho hl) (by decide)
  unfold fn_next_round ms_next_round
  rw [frzF_run]
  refine frz_of (o := kdO o l (nD (nextF gs f))) 0 ?_ (bel_kdO fun r => bel_nD _ _ r)
  walk_at "ev"
  rw [dictK_ok h (tks_r _) (hap ho hl)]
  walk_at "ev"
  rw [hx]
  walk_at "ev"
  refine Wp_for (fun pre en S' => ∃ x3 x4, en = [some x, some d, some (.ref S.length), x3, x4] ∧ S' = S ++ [kdO o l (nD (pre.foldl (stp f) f))]) ⟨_, _, rfl, rfl⟩ ?_ ?_
  · rintro pre g suf en S' hl' ⟨x3, x4, rfl, rfl⟩
    have gok := hg g (by rw [hl']; simp)
    have R := @by_body_run (S ++ [kdO o l (nD (pre.foldl (stp f) f))]) d o l f g.2 h.app hf gok.2 ho
    have e := (KdAt.r (S := S ++ [kdO o l (nD (pre.foldl (stp f) f))]) (i := S.length) (getA0 _ _)).ix gok.1
    refine ⟨_, rfl, ?_⟩
    walk_at "evs"
    rw [put_r (getA0 _ _) gok.1 hol, setA0]
    refine ⟨_, _, rfl, ?_⟩
    rw [List.foldl_append]
    simp only [List.foldl_cons, List.foldl_nil, List.set_cons_zero]
    congr 2
    unfold kdO
    congr 1
    refine List.map_congr_left fun r _ => ?_
    simp only [nD, stp]
    split <;> rename_i hr
    · rw [hr]
    · rfl
  · rintro en S' ⟨x3, x4, rfl, rfl⟩
    walk_at "ev"
    exact ⟨_, rfl, rfl, rfl⟩
end Q
end
section
set_option Elab.async false
set_option linter.all false
set_option maxRecDepth 100000
set_option maxHeartbeats 2000000
open PySem L2 G P
open Q

local macro_rules | `(tactic| walk_at "ev") => `(tactic| simp (config := { decide := false }) only [seval, G.evB0, G.evB1, G.evB2, G.evB3, G.evB4, G.evB5, List.getElem?_set_self, List.length_set, List.set_set, List.map_cons, List.map_nil, List.length_cons, List.length_nil, List.replicate, List.cons_append, List.nil_append, List.getElem?_cons_zero, List.getElem?_cons_succ, List.set_cons_zero, List.set_cons_succ, Option.map_some, Option.map_none, Option.bind_some, Bool.not_true, Bool.not_false, if_true, if_false, decide_true, decide_false, Bool.false_eq_true, true_and, and_true, false_and, and_false, List.foldl_cons, List.foldl_nil, List.all_cons, List.all_nil, id_eq, Bool.and_true, Bool.true_and, eq_self, Bool.or_true, Bool.true_or, Bool.or_false, Bool.false_or, G.isNon, G.startE, G.bls, G.wipeE, P.evN0, Q.evQ2_0])
local macro_rules | `(tactic| walk_at "evs") => `(tactic| simp (config := { decide := false }) only [seval, G.evB0, G.evB1, G.evB2, G.evB3, G.evB4, G.evB5, List.getElem?_set_self, List.length_set, List.set_set, List.map_cons, List.map_nil, List.length_cons, List.length_nil, List.replicate, List.cons_append, List.nil_append, List.getElem?_cons_zero, List.getElem?_cons_succ, List.set_cons_zero, List.set_cons_succ, Option.map_some, Option.map_none, Option.bind_some, Bool.not_true, Bool.not_false, if_true, if_false, decide_true, decide_false, Bool.false_eq_true, true_and, and_true, false_and, and_false, List.foldl_cons, List.foldl_nil, List.all_cons, List.all_nil, id_eq, Bool.and_true, Bool.true_and, eq_self, Bool.or_true, Bool.true_or, Bool.or_false, Bool.false_or, G.isNon, G.startE, G.bls, G.wipeE, P.evN0, Q.evQ2_0, *])
namespace Q
open PySem L2 G P
/-! ### who holds what -/
inductive Hd (gs : List Gr) (T0 : Rl → Nat → Prop) : Rl → Nat → Prop
  | base {r : Rl} {w : Nat} : T0 r w → Hd gs T0 r w
  | own {r : Rl} {c : Nat} : (r, Bd.own c) ∈ gs → Hd gs T0 r c
  | rol {r s : Rl} {w : Nat} : (r, Bd.rol s) ∈ gs → Hd gs T0 s w → Hd gs T0 r w
  | bot {r s t : Rl} {w : Nat} : (r, Bd.bot s t) ∈ gs → Hd gs T0 s w → Hd gs T0 t w → Hd gs T0 r w
  | thr {r s : Rl} {m u w : Nat} : (r, Bd.thr s m) ∈ gs → Hd gs T0 s u → Hd gs T0 (u, m) w → Hd gs T0 r w
/-- who holds a role by a body -/
def byS (T : Rl → Nat → Prop) : Bd → Nat → Prop
  | .own c, w => w = c
  | .rol r, w => T r w
  | .bot r s, w => T r w ∧ T s w
  | .thr r m, w => ∃ u, T r u ∧ T (u, m) w
theorem Hd.by {gs : List Gr} {T0 : Rl → Nat → Prop} {r : Rl} {b : Bd} {w : Nat} (h : (r, b) ∈ gs) (hb : byS (Hd gs T0) b w) : Hd gs T0 r w := by
  cases b with
  | own c => obtain rfl : w = c := hb; exact .own h
  | rol s => exact .rol h hb
  | bot s t => exact .bot h hb.1 hb.2
  | thr s m => obtain ⟨u, h1, h2⟩ := hb; exact .thr h h1 h2
theorem byS_mono {T U : Rl → Nat → Prop} (h : ∀ r w, T r w → U r w) {b : Bd} {w : Nat} (hb : byS T b w) : byS U b w := by
  cases b with
  | own c => exact hb
  | rol s => exact h _ _ hb
  | bot s t => exact ⟨h _ _ hb.1, h _ _ hb.2⟩
  | thr s m => obtain ⟨u, h1, h2⟩ := hb; exact ⟨u, h _ _ h1, h _ _ h2⟩
/-- the least that is closed -/
theorem Hd.least {gs : List Gr} {T0 U : Rl → Nat → Prop} (h0 : ∀ r w, T0 r w → U r w) (hc : ∀ r b w, (r, b) ∈ gs → byS U b w → U r w) {r : Rl} {w : Nat} (h : Hd gs T0 r w) : U r w := by
  induction h with
  | base h => exact h0 _ _ h
  | own h => exact hc _ _ _ h rfl
  | rol h _ ih => exact hc _ _ _ h ih
  | bot h _ _ ih1 ih2 => exact hc _ _ _ h ⟨ih1, ih2⟩
  | thr h _ _ ih1 ih2 => exact hc _ _ _ h ⟨_, ih1, ih2⟩
theorem Hd.mono {gs gs' : List Gr} {T0 T1 : Rl → Nat → Prop} (hg : ∀ g ∈ gs, g ∈ gs') (h0 : ∀ r w, T0 r w → T1 r w) {r : Rl} {w : Nat} (h : Hd gs T0 r w) : Hd gs' T1 r w :=
  h.least (fun r w h => .base (h0 r w h)) fun r b w h hb => Hd.by (hg _ h) hb
abbrev tb (f : Kn) : Rl → Nat → Prop := fun r w => (f r).testBit w = true
theorem fold_or (f : Nat → Nat) (w : Nat) : ∀ (l : List Nat) (a : Nat), (l.foldl (fun a u => a ||| f u) a).testBit w = true ↔ a.testBit w = true ∨ ∃ u ∈ l, (f u).testBit w = true
  | [], a => by simp
  | u :: l, a => by
    rw [List.foldl_cons, fold_or f w l]
    simp only [Nat.testBit_or, Bool.or_eq_true, List.mem_cons]
    constructor
    · rintro ((h | h) | ⟨v, hv, h⟩)
      · exact .inl h
      · exact .inr ⟨u, .inl rfl, h⟩
      · exact .inr ⟨v, .inr hv, h⟩
    · rintro (h | ⟨v, rfl | hv, h⟩)
      · exact .inl (.inl h)
      · exact .inl (.inr h)
      · exact .inr ⟨v, hv, h⟩
theorem byF_bit (f : Kn) (b : Bd) (w : Nat) : (byF f b).testBit w = true ↔ byS (tb f) b w := by
  cases b with
  | own c =>
    simp only [byF, byS, Nat.testBit_two_pow, decide_eq_true_eq]
    exact ⟨fun h => h.symm, fun h => h.symm⟩
  | rol r => exact Iff.rfl
  | bot r s => simp only [byF, byS, tb, Nat.testBit_and, Bool.and_eq_true]
  | thr r m =>
    simp only [byF, byS, tb]
    rw [fold_or (fun u => f (u, m))]
    simp only [Nat.zero_testBit, Bool.false_eq_true, false_or, mem_bits]
theorem fold_stp (f : Kn) (r : Rl) (w : Nat) : ∀ (gs : List Gr) (h : Kn), (gs.foldl (stp f) h r).testBit w = true ↔ (h r).testBit w = true ∨ ∃ b, (r, b) ∈ gs ∧ byS (tb f) b w
  | [], h => by simp
  | g :: gs, h => by
    rw [List.foldl_cons, fold_stp f r w gs]
    unfold stp
    obtain ⟨r', b'⟩ := g
    by_cases e : r = r'
    · subst e
      simp only [if_true, Nat.testBit_or, Bool.or_eq_true, byF_bit, List.mem_cons]
      constructor
      · rintro ((h1 | h1) | ⟨b, hb, h1⟩)
        · exact .inl h1
        · exact .inr ⟨b', .inl rfl, h1⟩
        · exact .inr ⟨b, .inr hb, h1⟩
      · rintro (h1 | ⟨b, hb | hb, h1⟩)
        · exact .inl (.inl h1)
        · cases hb; exact .inl (.inr h1)
        · exact .inr ⟨b, hb, h1⟩
    · simp only [e, if_false, List.mem_cons]
      constructor
      · rintro (h1 | ⟨b, hb, h1⟩)
        · exact .inl h1
        · exact .inr ⟨b, .inr hb, h1⟩
      · rintro (h1 | ⟨b, hb | hb, h1⟩)
        · exact .inl h1
        · exact absurd (Prod.mk.inj hb).1 e
        · exact .inr ⟨b, hb, h1⟩
theorem nextF_bit (gs : List Gr) (f : Kn) (r : Rl) (w : Nat) : (nextF gs f r).testBit w = true ↔ (f r).testBit w = true ∨ ∃ b, (r, b) ∈ gs ∧ byS (tb f) b w := fold_stp f r w gs f
theorem fold_ge (f : Kn) (r : Rl) : ∀ (gs : List Gr) (h : Kn), h r ≤ gs.foldl (stp f) h r
  | [], h => Nat.le_refl _
  | g :: gs, h => by
    rw [List.foldl_cons]
    refine Nat.le_trans ?_ (fold_ge f r gs _)
    unfold stp
    split
    · exact Nat.left_le_or
    · exact Nat.le_refl _
theorem nextF_ge (gs : List Gr) (f : Kn) (r : Rl) : f r ≤ nextF gs f r := fold_ge f r gs f
theorem bit_ext {a b : Nat} (h : ∀ w, a.testBit w = true ↔ b.testBit w = true) : a = b := Nat.eq_of_testBit_eq fun w => Bool.eq_iff_iff.mpr (h w)
theorem lt_of_bits {n o : Nat} (h : ∀ w, n.testBit w = true → w < o) : n < 2 ^ o := Nat.lt_pow_two_of_testBit n fun i hi => by
  cases e : n.testBit i with
  | false => rfl
  | true => exact absurd (h i e) (by omega)
theorem byF_lt {o l : Nat} {f : Kn} (hf : KnOk o l f) {b : Bd} (hb : b.ok o l) : byF f b < 2 ^ o := by
  refine lt_of_bits fun w hw => ?_
  rw [byF_bit] at hw
  cases b with
  | own c => obtain rfl : w = c := hw; exact hb
  | rol r => exact bits_lt (hf r hb) (mem_bits.mpr hw)
  | bot r s => exact bits_lt (hf r hb.1) (mem_bits.mpr hw.1)
  | thr r m =>
    obtain ⟨u, h1, h2⟩ := hw
    exact bits_lt (hf (u, m) ⟨bits_lt (hf r hb.1) (mem_bits.mpr h1), hb.2⟩) (mem_bits.mpr h2)
theorem nextF_ok {o l : Nat} {gs : List Gr} {f : Kn} (hf : KnOk o l f) (hg : ∀ g ∈ gs, Gr.ok o l g) : KnOk o l (nextF gs f) := by
  intro r hr
  refine lt_of_bits fun w hw => ?_
  rw [nextF_bit] at hw
  rcases hw with h | ⟨b, hb, h⟩
  · exact bits_lt (hf r hr) (mem_bits.mpr h)
  · exact bits_lt (byF_lt hf (hg _ hb).2) (mem_bits.mpr ((byF_bit f b w).mpr h))
/-- what is found out of T0 -/
def Good (o l : Nat) (gs : List Gr) (T0 : Rl → Nat → Prop) (f : Kn) : Prop := KnOk o l f ∧ ∀ r, Rl.ok o l r → ∀ w, (f r).testBit w = true ↔ Hd gs T0 r w
/-- on the way -/
def Way (o l : Nat) (gs : List Gr) (T0 : Rl → Nat → Prop) (f : Kn) : Prop := KnOk o l f ∧ (∀ r, Rl.ok o l r → ∀ w, (f r).testBit w = true → Hd gs T0 r w) ∧ ∀ r, Rl.ok o l r → ∀ w, T0 r w → (f r).testBit w = true
theorem byS_ok {o l : Nat} {f : Kn} {T : Rl → Nat → Prop} (hf : KnOk o l f) (h : ∀ r, Rl.ok o l r → ∀ w, (f r).testBit w = true → T r w) {b : Bd} (hb : b.ok o l) {w : Nat} (hw : byS (tb f) b w) : byS T b w := by
  cases b with
  | own c => exact hw
  | rol r => exact h r hb w hw
  | bot r s => exact ⟨h r hb.1 w hw.1, h s hb.2.1 w hw.2⟩
  | thr r m =>
    obtain ⟨u, h1, h2⟩ := hw
    exact ⟨u, h r hb.1 u h1, h (u, m) ⟨bits_lt (hf r hb.1) (mem_bits.mpr h1), hb.2⟩ w h2⟩
theorem Way.next {o l : Nat} {gs : List Gr} {T0 : Rl → Nat → Prop} {f : Kn} (h : Way o l gs T0 f) (hg : ∀ g ∈ gs, Gr.ok o l g) : Way o l gs T0 (nextF gs f) := by
  obtain ⟨h1, h2, h3⟩ := h
  refine ⟨nextF_ok h1 hg, fun r hr w hw => ?_, fun r hr w hw => (nextF_bit gs f r w).mpr (.inl (h3 r hr w hw))⟩
  rcases (nextF_bit gs f r w).mp hw with h | ⟨b, hb, h⟩
  · exact h2 r hr w h
  · exact Hd.by hb (byS_ok h1 h2 (hg _ hb).2 h)
theorem Way.done {o l : Nat} {gs : List Gr} {T0 : Rl → Nat → Prop} {f : Kn} (h : Way o l gs T0 f) (hg : ∀ g ∈ gs, Gr.ok o l g) (ht : ∀ r w, T0 r w → Rl.ok o l r) (e : ∀ r, Rl.ok o l r → nextF gs f r = f r) : Good o l gs T0 f := by
  obtain ⟨h1, h2, h3⟩ := h
  refine ⟨h1, fun r hr w => ⟨h2 r hr w, fun hw => ?_⟩⟩
  have key : Rl.ok o l r ∧ (f r).testBit w = true := by
    refine hw.least (U := fun r w => Rl.ok o l r ∧ (f r).testBit w = true) (fun r w h => ⟨ht r w h, h3 r (ht r w h) w h⟩) fun r b w hb hw => ?_
    have ok := hg _ hb
    refine ⟨ok.1, ?_⟩
    rw [← e r ok.1, nextF_bit]
    exact .inr ⟨b, hb, byS_mono (fun _ _ h => h.2) hw⟩
  exact key.2
theorem Good.eq {o l : Nat} {gs : List Gr} {T0 : Rl → Nat → Prop} {f g : Kn} (h : Good o l gs T0 f) (h' : Good o l gs T0 g) {r : Rl} (hr : Rl.ok o l r) : f r = g r := bit_ext fun w => (h.2 r hr w).trans (h'.2 r hr w).symm
/-! the rounds come to an end -/
def gap (o l : Nat) (f : Kn) : Nat := ((roles o l).map fun r => 2 ^ o - f r).sum
theorem sum_le {α : Type} {f g : α → Nat} : ∀ {l : List α}, (∀ a ∈ l, f a ≤ g a) → (l.map f).sum ≤ (l.map g).sum
  | [], _ => Nat.le_refl _
  | a :: l, h => by
    simp only [List.map_cons, List.sum_cons]
    have := h a (by simp)
    have := sum_le (l := l) (fun b hb => h b (by simp [hb]))
    omega
theorem sum_lt {α : Type} {f g : α → Nat} : ∀ {l : List α}, (∀ a ∈ l, f a ≤ g a) → (∃ a ∈ l, f a < g a) → (l.map f).sum < (l.map g).sum
  | [], _, h => by obtain ⟨a, ha, _⟩ := h; simp at ha
  | a :: l, h, ⟨b, hb, hlt⟩ => by
    simp only [List.map_cons, List.sum_cons]
    have h1 := h a (by simp)
    have h2 := sum_le (l := l) (fun b hb => h b (by simp [hb]))
    rcases List.mem_cons.mp hb with e | e
    · subst e; omega
    · have := sum_lt (l := l) (fun b hb => h b (by simp [hb])) ⟨b, e, hlt⟩
      omega
theorem gap_lt {o l : Nat} {gs : List Gr} {f : Kn} (hf : KnOk o l f) (h : ¬ ∀ r, Rl.ok o l r → nextF gs f r = f r) : gap o l (nextF gs f) < gap o l f := by
  unfold gap
  refine sum_lt (fun r _ => ?_) ?_
  · have := nextF_ge gs f r
    omega
  · have : ∃ r, Rl.ok o l r ∧ nextF gs f r ≠ f r := Classical.byContradiction fun z => h fun r hr => Classical.byContradiction fun y => z ⟨r, hr, y⟩
    obtain ⟨r, hr, ne⟩ := this
    refine ⟨r, mem_roles.mpr hr, ?_⟩
    have := nextF_ge gs f r
    have := hf r hr
    omega
theorem gap_le {o l : Nat} (f : Kn) (ho : o ≤ 8) (hl : l ≤ 4) : gap o l f ≤ 8192 := by
  have h1 : gap o l f ≤ ((roles o l).map fun _ => 256).sum := sum_le fun r _ => by have := pow_le ho; omega
  rw [List.map_const', List.sum_replicate_nat, roles_len] at h1
  have : o * l ≤ 8 * 4 := Nat.mul_le_mul ho hl
  omega
/-! dicts compared -/
theorem eqTD_map (f g : Kn) (l0 : List Rl) : ∀ l : List Rl, (∀ r ∈ l, r ∈ l0) → (eqTD (l0.map rq) (l0.map (nD g)) (l.map rq) (l.map (nD f)) = true ↔ ∀ r ∈ l, f r = g r)
  | [], _ => by simp [eqTD]
  | r :: l, h => by
    simp only [List.map_cons, eqTD, Bool.and_eq_true]
    rw [lookT_map rq_inj (nD g) r l0 (h r (by simp)), eqTD_map f g l0 l fun s hs => h s (by simp [hs])]
    simp only [nD, dvEq, beq_iff_eq, Int.ofNat_inj, List.mem_cons, forall_eq_or_imp]
theorem eqT_kd {S : Sto} {d e : D} {o l : Nat} {f g : Kn} (hd : KdAt S d o l (nD f)) (he : KdAt S e o l (nD g)) : ∃ k : Bool, dEqTB S d e = some k ∧ (k = true ↔ ∀ r, Rl.ok o l r → f r = g r) := by
  have ids : ∀ h : Kn, ((roles o l).map (nD h)).all isID = true := fun h => by
    rw [List.all_map, List.all_eq_true]
    intro r _
    rfl
  unfold dEqTB
  rw [hd, he]
  simp only [tks_r, ids, and_self, if_true]
  refine ⟨_, rfl, ?_⟩
  rw [Bool.and_eq_true, eqTD_map f g _ _ fun r h => h]
  simp only [List.length_map, beq_self_eq_true, true_and]
  exact ⟨fun h r hr => h r (mem_roles.mpr hr), fun h r hr => h r (mem_roles.mp hr)⟩
end Q
end
section
set_option Elab.async false
set_option linter.all false
set_option maxRecDepth 100000
set_option maxHeartbeats 2000000
open PySem L2 G P
open Q
local macro_rules | `(tactic| walk_at "ev") => `(tactic| simp (config := { decide := false }) only [seval, G.evB0, G.evB1, G.evB2, G.evB3, G.evB4, G.evB5, List.getElem?_set_self, List.length_set, List.set_set, List.map_cons, List.map_nil, List.length_cons, List.length_nil, List.replicate, List.cons_append, List.nil_append, List.getElem?_cons_zero, List.getElem?_cons_succ, List.set_cons_zero, List.set_cons_succ, Option.map_some, Option.map_none, Option.bind_some, Bool.not_true, Bool.not_false, if_true, if_false, decide_true, decide_false, Bool.false_eq_true, true_and, and_true, false_and, and_false, List.foldl_cons, List.foldl_nil, List.all_cons, List.all_nil, id_eq, Bool.and_true, Bool.true_and, eq_self, Bool.or_true, Bool.true_or, Bool.or_false, Bool.false_or, G.isNon, G.startE, G.bls, G.wipeE, P.evN0, Q.evQ2_0, nD_ap])
local macro_rules | `(tactic| walk_at "evs") => `(tactic| simp (config := { decide := false }) only [seval, G.evB0, G.evB1, G.evB2, G.evB3, G.evB4, G.evB5, List.getElem?_set_self, List.length_set, List.set_set, List.map_cons, List.map_nil, List.length_cons, List.length_nil, List.replicate, List.cons_append, List.nil_append, List.getElem?_cons_zero, List.getElem?_cons_succ, List.set_cons_zero, List.set_cons_succ, Option.map_some, Option.map_none, Option.bind_some, Bool.not_true, Bool.not_false, if_true, if_false, decide_true, decide_false, Bool.false_eq_true, true_and, and_true, false_and, and_false, List.foldl_cons, List.foldl_nil, List.all_cons, List.all_nil, id_eq, Bool.and_true, Bool.true_and, eq_self, Bool.or_true, Bool.true_or, Bool.or_false, Bool.false_or, G.isNon, G.startE, G.bls, G.wipeE, P.evN0, Q.evQ2_0, nD_ap, *])

namespace Q
open PySem L2 G P
/-- what a dict tells of those who hold from the beginning -/
def BgAt (S : Sto) (d : D) (o l : Nat) (f : Kn) : Prop := ∃ ks vs qs, dicOf S d = some (ks, vs) ∧ tkeysD ks = some qs ∧ ∀ r, Rl.ok o l r → lookT qs vs (rq r) = some (.int (f r : Nat)) ∨ (lookT qs vs (rq r) = none ∧ f r = 0)
theorem BgAt.emp (S : Sto) (o l : Nat) : BgAt S (.dic [] []) o l fun _ => 0 := ⟨[], [], [], rfl, rfl, fun r _ => .inr ⟨rfl, rfl⟩⟩
theorem BgAt.app {S T : Sto} {d : D} {o l : Nat} {f : Kn} (h : BgAt S d o l f) : BgAt (S ++ T) d o l f := by
  obtain ⟨ks, vs, qs, h1, h2, h3⟩ := h
  refine ⟨ks, vs, qs, ?_, h2, h3⟩
  cases d with
  | dic _ _ => exact h1
  | ref i =>
    rw [dicOf_ref] at h1 ⊢
    cases e : S[i]? with
    | none => rw [e] at h1; cases h1
    | some x =>
      rw [getB (List.getElem?_eq_some_iff.mp e).1, e]
      rw [e] at h1
      exact h1
  | _ => cases h1
theorem BgAt.get2 {S : Sto} {d : D} {o l : Nat} {f : Kn} (h : BgAt S d o l f) {r : Rl} (hr : Rl.ok o l r) {en : En} {b : ME} (hb : b en S = .ok (rD r) S) : g2K0 b (mC (.int 0)) en d S = .ok (.int (f r : Nat)) S := by
  obtain ⟨ks, vs, qs, h1, h2, h3⟩ := h
  rw [g2K0_ok h1 h2, hb, Res.bind_ok, g2K1_ap, mC_ap, Res.bind_ok, g2K2_ap]
  have e : dGetO S d (rD r) = some (lookT qs vs (rq r)) := by
    unfold dGetO
    rw [h1]
    simp only [tk_r, h2]
    rfl
  rcases h3 r hr with z | ⟨z, z0⟩
  · rw [g2K3_some (by rw [e, z])]
  · rw [g2K3_none (by rw [e, z]), z0]
    rfl
theorem frz_dicE {r : Res D} {S : Sto} {R : Kn → Prop} {o l : Nat} (h : Wp r fun d' S' => ∃ f T, R f ∧ S' = S ++ T ∧ (d' = kdD o l (nD f) ∨ d' = .ref S.length ∧ T[0]? = some (kdO o l (nD f)))) : ∃ f, R f ∧ r.frz S = .ok (kdD o l (nD f)) S := by
  obtain ⟨d, S', e, f, T, hf, rfl, h⟩ := h.ok_of
  refine ⟨f, hf, ?_⟩
  rcases h with rfl | ⟨rfl, ht⟩
  · exact frz_ofD (r := r) (by rw [e]; exact ⟨rfl, T, rfl⟩) (bel_kdD fun r => bel_nD _ _ r)
  · exact frz_of (r := r) (o := kdO o l (nD f)) 0 (by rw [e]; exact ⟨T, rfl, ht, rfl⟩) (bel_kdO fun r => bel_nD _ _ r)
abbrev tb0 (o l : Nat) (f : Kn) : Rl → Nat → Prop := fun r w => Rl.ok o l r ∧ (f r).testBit w = true
theorem spread_ex {S : Sto} {o l : Nat} {x d : D} {gs : List Gr} {f0 : Kn} (hx : Grs x gs) (hd : BgAt S d o l f0) (h0 : KnOk o l f0) (hg : ∀ g ∈ gs, Gr.ok o l g) (ho : o ≤ 8) (hl : l ≤ 4) :
    ∃ f, Good o l gs (tb0 o l f0) f ∧ fn_spread.run [.int o, .int l, x, d] S = .ok (kdD o l (nD f)) S := by
  have R := @all_roles_run S o l (by omega) (by omega)
  have hol : o * l ≤ 32 := Nat.mul_le_mul ho hl
  unfold fn_spread ms_spread
  rw [frzF_run]
  refine frz_dicE ?_
  walk_at "evs"
  have dc := dcomp_map (g := gN 6) (k := mVar 6) (v := mDGet2 (mVar 3) (mVar 6) (mC (.int 0))) (en := [some (.int o), some (.int l), some x, some d, none, none, none]) (S := S) (f0 := rD) (kf := rD) (vf := nD f0) (q := rq) (roles o l) []
    (fun r hr => ⟨[some (.int o), some (.int l), some x, some d, none, none, some (rD r)], rfl, rfl, by rw [mDGet2_ap]; walk_at "ev"; rw [hd.get2 (mem_roles.mp hr) rfl]⟩) tk_r
    (by rw [List.nil_append]; exact List.Pairwise.map _ (fun a b h e => h (rq_inj a b e)) (roles_nodup o l)) (by rw [roles_len]; simp; omega)
  simp only [List.map_nil, List.nil_append] at dc
  rw [dc]
  walk_at "ev"
  have K0 : KdAt (S ++ [kdO o l (nD f0)]) (.ref S.length) o l (nD f0) := KdAt.r (getA0 _ _)
  have w0 : Way o l gs (tb0 o l f0) f0 := ⟨h0, fun r hr w hw => .base ⟨hr, hw⟩, fun r hr w hw => hw.2⟩
  have R2 := fun {d : D} {f : Kn} (h : KdAt (S ++ [kdO o l (nD f0)]) d o l (nD f)) (w : Way o l gs (tb0 o l f0) f) => next_round_run (x := x) hx h w.1 hg ho hl
  rw [show ([Ob.dic (List.map rD (roles o l)) (List.map (nD f0) (roles o l))] : List Ob) = [kdO o l (nD f0)] from rfl, R2 K0 w0]
  walk_at "ev"
  refine Wp_whil (fun en S' => ∃ d' f, en = [some (.int o), some (.int l), some x, some d, some d', some (kdD o l (nD (nextF gs f))), none] ∧ S' = S ++ [kdO o l (nD f0)] ∧ KdAt S' d' o l (nD f) ∧ (d' = .ref S.length ∧ f = f0 ∨ d' = kdD o l (nD f)) ∧ Way o l gs (tb0 o l f0) f)
    (fun en S' => match en with | [_, _, _, _, some d', _, _] => (match dicOf S' d' with | some (_, vs) => (vs.map fun v => match v with | .int i => 2 ^ o - i.toNat | _ => 0).sum | none => 0) | _ => 0) ?_ 100000 _ _ ⟨_, f0, rfl, rfl, K0, .inl ⟨rfl, rfl⟩, w0⟩ ?_
  · rintro en S' ⟨d', f, rfl, rfl, hk, hd', hw⟩
    obtain ⟨k, e1, e2⟩ := eqT_kd (KdAt.d (S ++ [kdO o l (nD f0)]) o l (nD (nextF gs f))) hk
    have e3 : dNeT (S ++ [kdO o l (nD f0)]) (kdD o l (nD (nextF gs f))) d' = some (.bl (!k)) := by unfold dNeT; rw [e1]; rfl
    cases k with
    | true =>
      have fx : ∀ r, Rl.ok o l r → nextF gs f r = f r := e2.mp rfl
      walk_at "evs"
      refine ⟨f, _, hw.done hg (fun r w h => h.1) fx, rfl, ?_⟩
      rcases hd' with ⟨h1, h2⟩ | h1
      · subst h2; exact .inr ⟨h1, rfl⟩
      · exact .inl h1
    | false =>
      have nf : ¬ ∀ r, Rl.ok o l r → nextF gs f r = f r := fun z => by have := e2.mpr z; cases this
      have hw2 := hw.next hg
      have R3 := R2 (KdAt.d _ o l (nD (nextF gs f))) hw2
      walk_at "evs"
      refine ⟨⟨_, nextF gs f, rfl, KdAt.d _ _ _ _, .inr rfl, hw2⟩, ?_⟩
      have g1 := gap_lt hw.1 nf
      have m1 : ∀ (S' : Sto) (d' : D) (f : Kn), KdAt S' d' o l (nD f) → (match dicOf S' d' with | some (_, vs) => (vs.map fun v => match v with | .int i => 2 ^ o - i.toNat | _ => 0).sum | none => 0) = gap o l f := fun S' d' f h => by
        rw [h]
        simp only [List.map_map]
        rfl
      rw [m1 _ _ _ hk, m1 _ _ _ (KdAt.d _ _ _ _)]
      exact g1
  · have m1 : (match dicOf (S ++ [kdO o l (nD f0)]) (.ref S.length) with | some (_, vs) => (vs.map fun v => match v with | .int i => 2 ^ o - i.toNat | _ => 0).sum | none => 0) = gap o l f0 := by
      rw [K0]
      simp only [List.map_map]
      rfl
    have := gap_le (o := o) (l := l) f0 ho hl
    simp only [m1]
    omega
end Q
end
section
set_option Elab.async false
set_option linter.all false
set_option maxRecDepth 100000
set_option maxHeartbeats 2000000
open PySem L2 G P
open Q
local macro_rules | `(tactic| walk_at "ev") => `(tactic| simp (config := { decide := false }) only [seval, G.evB0, G.evB1, G.evB2, G.evB3, G.evB4, G.evB5, List.getElem?_set_self, List.length_set, List.set_set, List.map_cons, List.map_nil, List.length_cons, List.length_nil, List.replicate, List.cons_append, List.nil_append, List.getElem?_cons_zero, List.getElem?_cons_succ, List.set_cons_zero, List.set_cons_succ, Option.map_some, Option.map_none, Option.bind_some, Bool.not_true, Bool.not_false, if_true, if_false, decide_true, decide_false, Bool.false_eq_true, true_and, and_true, false_and, and_false, List.foldl_cons, List.foldl_nil, List.all_cons, List.all_nil, id_eq, Bool.and_true, Bool.true_and, eq_self, Bool.or_true, Bool.true_or, Bool.or_false, Bool.false_or, G.isNon, G.startE, G.bls, G.wipeE, P.evN0, Q.evQ2_0, nD_ap, bel_pol, prop_owners, prop_labels, prop_grants])
local macro_rules | `(tactic| walk_at "evs") => `(tactic| simp (config := { decide := false }) only [seval, G.evB0, G.evB1, G.evB2, G.evB3, G.evB4, G.evB5, List.getElem?_set_self, List.length_set, List.set_set, List.map_cons, List.map_nil, List.length_cons, List.length_nil, List.replicate, List.cons_append, List.nil_append, List.getElem?_cons_zero, List.getElem?_cons_succ, List.set_cons_zero, List.set_cons_succ, Option.map_some, Option.map_none, Option.bind_some, Bool.not_true, Bool.not_false, if_true, if_false, decide_true, decide_false, Bool.false_eq_true, true_and, and_true, false_and, and_false, List.foldl_cons, List.foldl_nil, List.all_cons, List.all_nil, id_eq, Bool.and_true, Bool.true_and, eq_self, Bool.or_true, Bool.true_or, Bool.or_false, Bool.false_or, G.isNon, G.startE, G.bls, G.wipeE, P.evN0, Q.evQ2_0, nD_ap, bel_pol, prop_owners, prop_labels, prop_grants, *])

namespace Q
open PySem L2 G P
open Classical in
/-- the bits of those who hold each role -/
noncomputable def hof (o l : Nat) (gs : List Gr) (T0 : Rl → Nat → Prop) : Kn := if h : ∃ f, Good o l gs T0 f then h.choose else fun _ => 0
theorem hof_good {o l : Nat} {gs : List Gr} {T0 : Rl → Nat → Prop} (h : ∃ f, Good o l gs T0 f) : Good o l gs T0 (hof o l gs T0) := by
  unfold hof
  rw [dif_pos h]
  exact h.choose_spec
theorem kd_good {o l : Nat} {gs : List Gr} {T0 : Rl → Nat → Prop} {f : Kn} (h : Good o l gs T0 f) : kdD o l (nD f) = kdD o l (nD (hof o l gs T0)) := by
  unfold kdD
  congr 1
  refine kd_congr fun r hr => ?_
  rw [nD_ap, nD_ap, h.eq (hof_good ⟨f, h⟩) hr]
theorem spread_run {S : Sto} {o l : Nat} {x d : D} {gs : List Gr} {f0 : Kn} (hx : Grs x gs) (hd : BgAt S d o l f0) (h0 : KnOk o l f0) (hg : ∀ g ∈ gs, Gr.ok o l g) (ho : o ≤ 8) (hl : l ≤ 4) :
    fn_spread.run [.int o, .int l, x, d] S = .ok (kdD o l (nD (hof o l gs (tb0 o l f0)))) S := by
  obtain ⟨f, h1, h2⟩ := spread_ex hx hd h0 hg ho hl
  rw [h2, kd_good h1]
theorem good_ex {o l : Nat} {gs : List Gr} {f0 : Kn} (h0 : KnOk o l f0) (hg : ∀ g ∈ gs, Gr.ok o l g) (ho : o ≤ 8) (hl : l ≤ 4) : ∃ f, Good o l gs (tb0 o l f0) f := by
  have hb : BgAt [] (kdD o l (nD f0)) o l f0 := ⟨_, _, _, rfl, tks_r _, fun r hr => .inl (lookT_map rq_inj (nD f0) r _ (mem_roles.mpr hr))⟩
  obtain ⟨f, h1, _⟩ := spread_ex (S := []) (x := .tup (gs.map gD)) (Grs.t gs) hb h0 hg ho hl
  exact ⟨f, h1⟩
abbrev T00 : Rl → Nat → Prop := fun _ _ => False
theorem good_congr {o l : Nat} {gs : List Gr} {T0 T1 : Rl → Nat → Prop} (h : ∀ r w, T0 r w ↔ T1 r w) {f : Kn} : Good o l gs T0 f ↔ Good o l gs T1 f := by
  have e : T0 = T1 := funext fun r => funext fun w => propext (h r w)
  rw [e]
theorem tb0_zero (o l : Nat) : tb0 o l (fun _ => 0) = T00 := funext fun r => funext fun w => by simp [T00]
/-- those who hold a role in a policy -/
noncomputable def holdF (o l : Nat) (gs : List Gr) : Kn := hof o l gs T00
theorem hold_good {o l : Nat} {gs : List Gr} (hg : ∀ g ∈ gs, Gr.ok o l g) (ho : o ≤ 8) (hl : l ≤ 4) : Good o l gs T00 (holdF o l gs) := by
  refine hof_good ?_
  obtain ⟨f, h⟩ := good_ex (f0 := fun _ => 0) (gs := gs) (o := o) (l := l) (fun r _ => Nat.two_pow_pos o) hg ho hl
  rw [tb0_zero] at h
  exact ⟨f, h⟩
theorem hold_lt {o l : Nat} {gs : List Gr} (hg : ∀ g ∈ gs, Gr.ok o l g) (ho : o ≤ 8) (hl : l ≤ 4) {r : Rl} (hr : Rl.ok o l r) : holdF o l gs r < 100000 := by
  have := (hold_good hg ho hl).1 r hr
  have := pow_le ho
  omega
/-- the row of those who hold a role -/
noncomputable def hs (o l : Nat) (gs : List Gr) (r : Rl) : List Nat := bits (holdF o l gs r)
theorem mem_hs {o l : Nat} {gs : List Gr} (hg : ∀ g ∈ gs, Gr.ok o l g) (ho : o ≤ 8) (hl : l ≤ 4) {r : Rl} (hr : Rl.ok o l r) {w : Nat} : w ∈ hs o l gs r ↔ Hd gs T00 r w := by
  unfold hs
  rw [mem_bits]
  exact (hold_good hg ho hl).2 r hr w
theorem hs_lt {o l : Nat} {gs : List Gr} (hg : ∀ g ∈ gs, Gr.ok o l g) (ho : o ≤ 8) (hl : l ≤ 4) {r : Rl} (hr : Rl.ok o l r) {w : Nat} (h : w ∈ hs o l gs r) : w < o := bits_lt ((hold_good hg ho hl).1 r hr) h
theorem hs_len {o l : Nat} {gs : List Gr} (hg : ∀ g ∈ gs, Gr.ok o l g) (ho : o ≤ 8) (hl : l ≤ 4) {r : Rl} (hr : Rl.ok o l r) : (hs o l gs r).length ≤ o := bits_len ((hold_good hg ho hl).1 r hr)
theorem bits_of_run {S : Sto} {o l : Nat} {gs : List Gr} (h : PolOk o l gs) : fn_bits_of.run [polD o l gs] S = .ok (kdD o l (nD (holdF o l gs))) S := by
  have R := spread_run (S := S) (Grs.t gs) (BgAt.emp S o l) (fun r _ => Nat.two_pow_pos o) h.ok (by have := h.o7; omega) h.l4
  rw [tb0_zero] at R
  replace R : fn_spread.run [.int o, .int l, .tup (gs.map gD), .dic [] []] S = .ok (kdD o l (nD (holdF o l gs))) S := R
  have B := fun n => bel_kdD (n := n) (o := o) (l := l) (v := nD (holdF o l gs)) fun r => bel_nD _ _ r
  unfold fn_bits_of ms_bits_of
  walk_at "evs"
def tI (l : List Nat) : D := .tup (l.map iD)
theorem bel_tI (n : Nat) (l : List Nat) : D.bel n (tI l) = True := by simp only [tI, D.bel, bels_i]
theorem bels_tI {α : Type} (n : Nat) (f : α → List Nat) (l : List α) : D.bels n (l.map fun a => tI (f a)) = True := bels_map n _ (fun a => bel_tI n (f a)) l
theorem holders_run {S : Sto} {o l : Nat} {gs : List Gr} (h : PolOk o l gs) {r : Rl} (hr : Rl.ok o l r) : fn_holders.run [polD o l gs, rD r] S = .ok (tI (hs o l gs r)) S := by
  have R := bits_of_run (S := S) h
  have hlt := hold_lt h.ok (by have := h.o7; omega) h.l4 hr
  have R2 := members_run (S := S) hlt
  have ix := (KdAt.d S o l (nD (holdF o l gs))).ix hr
  unfold tI hs
  unfold fn_holders ms_holders
  walk_at "evs"
noncomputable def tableD (o l : Nat) (gs : List Gr) : D := .tup ((roles o l).map fun r => tI (hs o l gs r))
theorem table_run {S : Sto} {o l : Nat} {gs : List Gr} (h : PolOk o l gs) : fn_table.run [polD o l gs] S = .ok (tableD o l gs) S := by
  have R := bits_of_run (S := S) h
  have o8 : o ≤ 8 := by have := h.o7; omega
  have M := meth_roles (S := S) (o := o) (l := l) (gs := gs) (en := [some (polD o l gs), some (kdD o l (nD (holdF o l gs))), none]) (by omega) (by have := h.l4; omega)
  have hol : o * l ≤ 8 * 4 := Nat.mul_le_mul o8 h.l4
  unfold tableD
  unfold fn_table ms_table
  walk_at "evs"
  rw [comp_all (f := fun r => tI (hs o l gs r)) (roles o l) (fun r hr => ⟨[some (polD o l gs), some (kdD o l (nD (holdF o l gs))), some (rD r)], rfl, ?_⟩) (by rw [roles_len]; omega)]
  · have B := bels_tI S.length (fun r => hs o l gs r) (roles o l)
    walk_at "evs"
  · have ok := mem_roles.mp hr
    have R2 := members_run (S := S) (hold_lt h.ok o8 h.l4 ok)
    have ix := (KdAt.d S o l (nD (holdF o l gs))).ix ok
    unfold tI hs
    walk_at "evs"
theorem held_run {S : Sto} {o l : Nat} {gs : List Gr} (h : PolOk o l gs) {w : Nat} : fn_held.run [polD o l gs, .int w] S = .ok (.tup (((roles o l).filter fun r => decide (w ∈ hs o l gs r)).map rD)) S := by
  have R := bits_of_run (S := S) h
  have o8 : o ≤ 8 := by have := h.o7; omega
  have M := meth_roles (S := S) (o := o) (l := l) (gs := gs) (en := [some (polD o l gs), some (.int w), some (kdD o l (nD (holdF o l gs))), none]) (by omega) (by have := h.l4; omega)
  have hol : o * l ≤ 8 * 4 := Nat.mul_le_mul o8 h.l4
  unfold fn_held ms_held
  walk_at "evs"
  rw [comp_map (f := rD) (p := fun r => decide (w ∈ hs o l gs r)) (roles o l) [] (fun r hr => ⟨[some (polD o l gs), some (.int w), some (kdD o l (nD (holdF o l gs))), some (rD r)], rfl, ?_, fun _ => rfl⟩) (by rw [roles_len]; simp; omega)]
  · walk_at "evs"
  · have ok := mem_roles.mp hr
    have R2 := members_run (S := S) (hold_lt h.ok o8 h.l4 ok)
    have ix := (KdAt.d S o l (nD (holdF o l gs))).ix ok
    have i2 : dIn S (.int w) (.tup ((bits (holdF o l gs r)).map iD)) = some (.bl (decide (w ∈ bits (holdF o l gs r)))) := encN.inT S w _
    unfold hs
    walk_at "evs"
end Q
end
section
set_option Elab.async false
set_option linter.all false
set_option maxRecDepth 100000
set_option maxHeartbeats 2000000
open PySem L2 G P
open Q
local macro_rules | `(tactic| walk_at "ev") => `(tactic| simp (config := { decide := false }) only [seval, G.evB0, G.evB1, G.evB2, G.evB3, G.evB4, G.evB5, List.getElem?_set_self, List.length_set, List.set_set, List.map_cons, List.map_nil, List.length_cons, List.length_nil, List.replicate, List.cons_append, List.nil_append, List.getElem?_cons_zero, List.getElem?_cons_succ, List.set_cons_zero, List.set_cons_succ, Option.map_some, Option.map_none, Option.bind_some, Bool.not_true, Bool.not_false, if_true, if_false, decide_true, decide_false, Bool.false_eq_true, true_and, and_true, false_and, and_false, List.foldl_cons, List.foldl_nil, List.all_cons, List.all_nil, id_eq, Bool.and_true, Bool.true_and, eq_self, Bool.or_true, Bool.true_or, Bool.or_false, Bool.false_or, G.isNon, G.startE, G.bls, G.wipeE, P.evN0, Q.evQ2_0, nD_ap])
local macro_rules | `(tactic| walk_at "evs") => `(tactic| simp (config := { decide := false }) only [seval, G.evB0, G.evB1, G.evB2, G.evB3, G.evB4, G.evB5, List.getElem?_set_self, List.length_set, List.set_set, List.map_cons, List.map_nil, List.length_cons, List.length_nil, List.replicate, List.cons_append, List.nil_append, List.getElem?_cons_zero, List.getElem?_cons_succ, List.set_cons_zero, List.set_cons_succ, Option.map_some, Option.map_none, Option.bind_some, Bool.not_true, Bool.not_false, if_true, if_false, decide_true, decide_false, Bool.false_eq_true, true_and, and_true, false_and, and_false, List.foldl_cons, List.foldl_nil, List.all_cons, List.all_nil, id_eq, Bool.and_true, Bool.true_and, eq_self, Bool.or_true, Bool.true_or, Bool.or_false, Bool.false_or, G.isNon, G.startE, G.bls, G.wipeE, P.evN0, Q.evQ2_0, nD_ap, *])
namespace Q
open PySem L2 G P
/-! ### the law's own rounds: rows of owners -/
abbrev Ln := Rl → List Nat
def lI (l : List Nat) : D := .lst (l.map iD)
def lD (g : Ln) : Rl → D := fun r => lI (g r)
theorem bel_lI (n : Nat) (l : List Nat) : D.bel n (lI l) = True := by simp only [lI, D.bel, bels_i]
theorem bel_lD (n : Nat) (g : Ln) (r : Rl) : D.bel n (lD g r) = True := bel_lI n (g r)
def byL (g : Ln) : Bd → List Nat
  | .own c => [c]
  | .rol r => g r
  | .bot r s => (g r).filter fun w => decide (w ∈ g s)
  | .thr r m => (g r).foldl (fun a w => a ++ (g (w, m)).filter fun u => !decide (u ∈ a)) []
/-- rows of owners, ascending -/
def LnOk (o l : Nat) (g : Ln) : Prop := ∀ r, Rl.ok o l r → (g r).Pairwise (· < ·) ∧ ∀ w ∈ g r, w < o
/-- rows of owners, each once -/
def LnNd (o l : Nat) (g : Ln) : Prop := ∀ r, Rl.ok o l r → (g r).Nodup ∧ ∀ w ∈ g r, w < o
theorem LnOk.nd {o l : Nat} {g : Ln} (h : LnOk o l g) : LnNd o l g := fun r hr => ⟨(h r hr).1.imp fun h => Nat.ne_of_lt h, (h r hr).2⟩
theorem asc_len {o : Nat} : ∀ {l : List Nat} {k : Nat}, l.Pairwise (· < ·) → (∀ w ∈ l, k ≤ w ∧ w < o) → l.length ≤ o - k
  | [], k, _, _ => Nat.zero_le _
  | a :: l, k, h, hb => by
    obtain ⟨h1, h2⟩ := List.pairwise_cons.mp h
    obtain ⟨b1, b2⟩ := hb a (by simp)
    have := asc_len (o := o) (k := a + 1) h2 fun w hw => ⟨h1 w hw, (hb w (by simp [hw])).2⟩
    simp only [List.length_cons]
    omega
theorem LnOk.len {o l : Nat} {g : Ln} (h : LnOk o l g) {r : Rl} (hr : Rl.ok o l r) : (g r).length ≤ o := by
  have := asc_len (k := 0) (h r hr).1 fun w hw => ⟨Nat.zero_le _, (h r hr).2 w hw⟩
  omega
theorem nd_len {o : Nat} {l : List Nat} (h : l.Nodup) (hb : ∀ w ∈ l, w < o) : l.length ≤ o := by
  have hp : (bits 0 ++ []).length = 0 := by simp [bits, bitsFrom_zero]
  induction o generalizing l with
  | zero =>
    cases l with
    | nil => exact Nat.le_refl _
    | cons a l => exact absurd (hb a (by simp)) (by omega)
  | succ o ih =>
    have h2 := ih (l := l.erase o) (h.erase o) fun w hw => by
      have h3 := (List.Nodup.mem_erase_iff h).mp hw
      have := hb w h3.2
      omega
    by_cases e : o ∈ l
    · rw [List.length_erase_of_mem e] at h2
      omega
    · rw [List.erase_of_not_mem e] at h2
      omega
theorem LnNd.len {o l : Nat} {g : Ln} (h : LnNd o l g) {r : Rl} (hr : Rl.ok o l r) : (g r).length ≤ o := nd_len (h r hr).1 (h r hr).2
def inner (g : Ln) (m : Nat) (a : List Nat) (w : Nat) : List Nat := a ++ (g (w, m)).filter fun u => !decide (u ∈ a)
theorem inner_ok {o l : Nat} {g : Ln} (hg : LnNd o l g) {m : Nat} (hm : m < l) {a : List Nat} {w : Nat} (hw : w < o) (ha : a.Nodup) (hb : ∀ u ∈ a, u < o) : (inner g m a w).Nodup ∧ ∀ u ∈ inner g m a w, u < o := by
  have ok : Rl.ok o l (w, m) := ⟨hw, hm⟩
  have nd : (g (w, m)).Nodup := (hg _ ok).1
  unfold inner
  refine ⟨List.nodup_append.mpr ⟨ha, nd.filter _, fun x hx y hy e => ?_⟩, fun u hu => ?_⟩
  · subst e
    have := (List.mem_filter.mp hy).2
    simp [hx] at this
  · rcases List.mem_append.mp hu with h | h
    · exact hb u h
    · exact (hg _ ok).2 u (List.mem_filter.mp h).1
theorem fold_inner_ok {o l : Nat} {g : Ln} (hg : LnNd o l g) {m : Nat} (hm : m < l) : ∀ (ws a : List Nat), (∀ w ∈ ws, w < o) → a.Nodup → (∀ u ∈ a, u < o) → (ws.foldl (inner g m) a).Nodup ∧ ∀ u ∈ ws.foldl (inner g m) a, u < o
  | [], a, _, h1, h2 => ⟨h1, h2⟩
  | w :: ws, a, h, h1, h2 => by
    obtain ⟨k1, k2⟩ := inner_ok hg hm (h w (by simp)) h1 h2
    exact fold_inner_ok hg hm ws _ (fun v hv => h v (by simp [hv])) k1 k2
theorem mem_fold_inner (g : Ln) (m : Nat) (u : Nat) : ∀ (ws a : List Nat), u ∈ ws.foldl (inner g m) a ↔ u ∈ a ∨ ∃ w ∈ ws, u ∈ g (w, m)
  | [], a => by simp
  | w :: ws, a => by
    rw [List.foldl_cons, mem_fold_inner g m u ws]
    unfold inner
    simp only [List.mem_append, List.mem_filter, List.mem_cons, Bool.not_eq_true', decide_eq_false_iff_not]
    constructor
    · rintro ((h | ⟨h, _⟩) | ⟨v, hv, h⟩)
      · exact .inl h
      · exact .inr ⟨w, .inl rfl, h⟩
      · exact .inr ⟨v, .inr hv, h⟩
    · rintro (h | ⟨v, rfl | hv, h⟩)
      · exact .inl (.inl h)
      · by_cases e : u ∈ a
        · exact .inl (.inl e)
        · exact .inl (.inr ⟨h, e⟩)
      · exact .inr ⟨v, hv, h⟩
theorem byL_ok {o l : Nat} {g : Ln} (hg : LnNd o l g) {b : Bd} (hb : b.ok o l) : (byL g b).Nodup ∧ ∀ u ∈ byL g b, u < o := by
  cases b with
  | own c => exact ⟨by simp [byL], fun u hu => by simp only [byL, List.mem_singleton] at hu; subst hu; exact hb⟩
  | rol r => exact ⟨(hg r hb).1, (hg r hb).2⟩
  | bot r s => exact ⟨(hg r hb.1).1.filter _, fun u hu => (hg r hb.1).2 u (List.mem_filter.mp hu).1⟩
  | thr r m => exact fold_inner_ok hg hb.2 (g r) [] (hg r hb.1).2 .nil (fun u hu => by simp at hu)
abbrev me (g : Ln) : Rl → Nat → Prop := fun r w => w ∈ g r
theorem byL_mem (g : Ln) (b : Bd) (w : Nat) : w ∈ byL g b ↔ byS (me g) b w := by
  cases b with
  | own c => simp [byL, byS]
  | rol r => exact Iff.rfl
  | bot r s => simp [byL, byS, me]
  | thr r m =>
    show w ∈ (g r).foldl (inner g m) [] ↔ _
    rw [mem_fold_inner]
    simp [byS, me]
theorem in_lI (S : Sto) (w : Nat) (l : List Nat) : dIn S (.int w) (lI l) = some (.bl (decide (w ∈ l))) := encN.inL S w l
theorem nin_lI (S : Sto) (w : Nat) (l : List Nat) : dNotIn S (.int w) (lI l) = some (.bl (!decide (w ∈ l))) := encN.ninL S w l
theorem lD_ap (g : Ln) (r : Rl) : lD g r = lI (g r) := rfl
theorem seq_lI (l : List Nat) (S : Sto) : seqIK (lI l) S = .ok ⟨l.map iD, fun _ => True⟩ S := seqIK_lst _ _
theorem add_lI {S : Sto} {a b : List Nat} (h : a.length + b.length ≤ 1000000) : dAdd S (lI a) (lI b) = some (lI (a ++ b)) := by
  unfold lI
  rw [dAdd_lst, if_pos (by rw [List.length_map, List.length_map]; exact sz_small h), List.map_append]
theorem lI_lst (l : List Nat) : D.lst (l.map iD) = lI l := rfl
theorem lI_nil : D.lst [] = lI [] := rfl
theorem iD_ap (n : Nat) : iD n = .int n := rfl
local macro_rules | `(tactic| walk_at "ev") => `(tactic| simp (config := { decide := false }) only [seval, G.evB0, G.evB1, G.evB2, G.evB3, G.evB4, G.evB5, List.getElem?_set_self, List.length_set, List.set_set, List.map_cons, List.map_nil, List.length_cons, List.length_nil, List.replicate, List.cons_append, List.nil_append, List.getElem?_cons_zero, List.getElem?_cons_succ, List.set_cons_zero, List.set_cons_succ, Option.map_some, Option.map_none, Option.bind_some, Bool.not_true, Bool.not_false, if_true, if_false, decide_true, decide_false, Bool.false_eq_true, true_and, and_true, false_and, and_false, List.foldl_cons, List.foldl_nil, List.all_cons, List.all_nil, id_eq, Bool.and_true, Bool.true_and, eq_self, Bool.or_true, Bool.true_or, Bool.or_false, Bool.false_or, G.isNon, G.startE, G.bls, G.wipeE, P.evN0, Q.evQ2_0, nD_ap, in_lI, nin_lI, lD_ap, seq_lI, bel_lI, iD_ap])
local macro_rules | `(tactic| walk_at "evs") => `(tactic| simp (config := { decide := false }) only [seval, G.evB0, G.evB1, G.evB2, G.evB3, G.evB4, G.evB5, List.getElem?_set_self, List.length_set, List.set_set, List.map_cons, List.map_nil, List.length_cons, List.length_nil, List.replicate, List.cons_append, List.nil_append, List.getElem?_cons_zero, List.getElem?_cons_succ, List.set_cons_zero, List.set_cons_succ, Option.map_some, Option.map_none, Option.bind_some, Bool.not_true, Bool.not_false, if_true, if_false, decide_true, decide_false, Bool.false_eq_true, true_and, and_true, false_and, and_false, List.foldl_cons, List.foldl_nil, List.all_cons, List.all_nil, id_eq, Bool.and_true, Bool.true_and, eq_self, Bool.or_true, Bool.true_or, Bool.or_false, Bool.false_or, G.isNon, G.startE, G.bls, G.wipeE, P.evN0, Q.evQ2_0, nD_ap, in_lI, nin_lI, lD_ap, seq_lI, bel_lI, iD_ap, *])
theorem law_by_run {S : Sto} {d : D} {o l : Nat} {g : Ln} {b : Bd} (h : KdAt S d o l (lD g)) (hg : LnNd o l g) (hb : b.ok o l) (ho : o ≤ 8) : fn_law_by.run [b.d, d] S = .ok (lI (byL g b)) S := by
  unfold fn_law_by ms_law_by
  cases b with
  | own c =>
    simp only [Bd.d, byL]
    walk_at "evs"
    rfl
  | rol r =>
    have e := h.ix (r := r) hb
    simp only [Bd.d, byL]
    walk_at "evs"
  | bot r s =>
    have e := h.ix (r := r) hb.1
    have e2 := h.ix (r := s) hb.2.1
    have l1 := hg.len hb.1
    simp only [Bd.d, byL]
    walk_at "evs"
    rw [comp_map (f := iD) (p := fun w => decide (w ∈ g s)) (g r) [] (fun w hw => ⟨[some (.tup [.str "both", rD r, rD s]), some d, none, none, some (.int w)], rfl, ?_, fun _ => rfl⟩) (by simp; omega)]
    · walk_at "ev"
      rw [lI_lst]
    · walk_at "evs"
  | thr r m =>
    have e := h.ix (r := r) hb.1
    simp only [Bd.d, byL]
    rw [dropF_run]
    refine drop_of ?_ (by walk_at "ev")
    walk_at "evs"
    refine Wp_for (fun pre en S' => ∃ x3, en = [some (.tup [.str "through", rD r, .int m]), some d, some (lI (pre.foldl (inner g m) [])), x3, none] ∧ S' = S) ⟨_, rfl, rfl⟩ ?_ ?_
    · rintro pre w suf en S' hl ⟨x3, rfl, rfl⟩
      have hw : ∀ v ∈ pre ++ w :: suf, v < o := fun v hv => (hg r hb.1).2 v (by rw [hl]; exact hv)
      have ok : Rl.ok o l (w, m) := ⟨hw w (by simp), hb.2⟩
      have e3 := h.ix2 ok
      obtain ⟨k1, k2⟩ := fold_inner_ok hg hb.2 pre [] (fun v hv => hw v (by simp [hv])) .nil (fun u hu => by simp at hu)
      have l1 := nd_len k1 k2
      have l2 := hg.len ok
      refine ⟨_, rfl, ?_⟩
      walk_at "evs"
      rw [comp_map (f := iD) (p := fun u => !decide (u ∈ pre.foldl (inner g m) [])) (g (w, m)) [] (fun u hu => ⟨[some (.tup [.str "through", rD r, .int m]), some d, some (lI (pre.foldl (inner g m) [])), some (.int w), some (.int u)], rfl, ?_, fun _ => rfl⟩) (by simp; omega)]
      · walk_at "ev"
        rw [lI_lst, add_lI (by have := List.length_filter_le (fun u => !decide (u ∈ pre.foldl (inner g m) [])) (g (w, m)); omega)]
        walk_at "ev"
        exact ⟨_, by rw [List.foldl_append]; rfl⟩
      · walk_at "evs"
    · rintro en S' ⟨x3, rfl, rfl⟩
      walk_at "ev"
      exact ⟨rfl, [], by simp⟩
end Q
end
section
set_option Elab.async false
set_option linter.all false
set_option maxRecDepth 100000
set_option maxHeartbeats 2000000
open PySem L2 G P
open Q
local macro_rules | `(tactic| walk_at "ev") => `(tactic| simp (config := { decide := false }) only [seval, G.evB0, G.evB1, G.evB2, G.evB3, G.evB4, G.evB5, List.getElem?_set_self, List.length_set, List.set_set, List.map_cons, List.map_nil, List.length_cons, List.length_nil, List.replicate, List.cons_append, List.nil_append, List.getElem?_cons_zero, List.getElem?_cons_succ, List.set_cons_zero, List.set_cons_succ, Option.map_some, Option.map_none, Option.bind_some, Bool.not_true, Bool.not_false, if_true, if_false, decide_true, decide_false, Bool.false_eq_true, true_and, and_true, false_and, and_false, List.foldl_cons, List.foldl_nil, List.all_cons, List.all_nil, id_eq, Bool.and_true, Bool.true_and, eq_self, Bool.or_true, Bool.true_or, Bool.or_false, Bool.false_or, G.isNon, G.startE, G.bls, G.wipeE, P.evN0, Q.evQ2_0, nD_ap, in_lI, nin_lI, lD_ap, seq_lI, bel_lI, iD_ap])
local macro_rules | `(tactic| walk_at "evs") => `(tactic| simp (config := { decide := false }) only [seval, G.evB0, G.evB1, G.evB2, G.evB3, G.evB4, G.evB5, List.getElem?_set_self, List.length_set, List.set_set, List.map_cons, List.map_nil, List.length_cons, List.length_nil, List.replicate, List.cons_append, List.nil_append, List.getElem?_cons_zero, List.getElem?_cons_succ, List.set_cons_zero, List.set_cons_succ, Option.map_some, Option.map_none, Option.bind_some, Bool.not_true, Bool.not_false, if_true, if_false, decide_true, decide_false, Bool.false_eq_true, true_and, and_true, false_and, and_false, List.foldl_cons, List.foldl_nil, List.all_cons, List.all_nil, id_eq, Bool.and_true, Bool.true_and, eq_self, Bool.or_true, Bool.true_or, Bool.or_false, Bool.false_or, G.isNon, G.startE, G.bls, G.wipeE, P.evN0, Q.evQ2_0, nD_ap, in_lI, nin_lI, lD_ap, seq_lI, bel_lI, iD_ap, *])
namespace Q
open PySem L2 G P
/-! ### sorted rows of numbers -/
theorem sortI_nat (l : List Nat) (h : l.Nodup) : ∃ m : List Nat, sortI (l.map fun n : Nat => (n : Int)) = m.map (fun n : Nat => (n : Int)) ∧ m.Pairwise (· < ·) ∧ m.Perm l := by
  have hp := sortI_perm (l.map fun n : Nat => (n : Int))
  have ha := sortI_asc (l.map fun n : Nat => (n : Int))
  have hc : ∀ x ∈ sortI (l.map fun n : Nat => (n : Int)), ((x.toNat : Nat) : Int) = x := fun x hx => by
    obtain ⟨n, _, rfl⟩ := List.mem_map.mp (hp.mem_iff.mp hx)
    simp
  have e : sortI (l.map fun n : Nat => (n : Int)) = ((sortI (l.map fun n : Nat => (n : Int))).map Int.toNat).map fun n : Nat => (n : Int) := by
    rw [List.map_map]
    conv => lhs; rw [← List.map_id (sortI (l.map fun n : Nat => (n : Int)))]
    exact List.map_congr_left fun x hx => (hc x hx).symm
  have pm : ((sortI (l.map fun n : Nat => (n : Int))).map Int.toNat).Perm l := by
    have := hp.map Int.toNat
    rw [List.map_map] at this
    have e2 : l.map (Int.toNat ∘ fun n : Nat => (n : Int)) = l := by
      conv => rhs; rw [← List.map_id l]
      exact List.map_congr_left fun x _ => by simp
    rwa [e2] at this
  refine ⟨_, e, ?_, pm⟩
  have nd : ((sortI (l.map fun n : Nat => (n : Int))).map Int.toNat).Nodup := pm.nodup_iff.mpr h
  have le : ((sortI (l.map fun n : Nat => (n : Int))).map Int.toNat).Pairwise (· ≤ ·) := by
    rw [List.pairwise_map]
    exact ha.imp fun h => by omega
  exact (le.and nd).imp fun h => Nat.lt_of_le_of_ne h.1 h.2
theorem intsL_map : ∀ l : List Nat, intsL (l.map iD) = some (l.map fun n : Nat => (n : Int))
  | [] => rfl
  | a :: l => by simp only [List.map_cons, iD, intsL]; rw [show (l.map iD) = l.map iD from rfl, intsL_map l]; rfl
theorem sort_lI {S : Sto} {l : List Nat} (h : l.Nodup) : ∃ m : List Nat, dSortA S [lI l] = some (lI m) ∧ m.Pairwise (· < ·) ∧ m.Perm l := by
  obtain ⟨m, e, h1, h2⟩ := sortI_nat l h
  refine ⟨m, sortA_I ?_, h1, h2⟩
  unfold dSortI lI
  simp only [seqL, intsL_map, Option.map_some, e, List.map_map]
  rfl
/-! ### the law's rounds -/
def WayL (o l : Nat) (gs : List Gr) (T0 : Rl → Nat → Prop) (g : Ln) : Prop := LnOk o l g ∧ (∀ r, Rl.ok o l r → ∀ w ∈ g r, Hd gs T0 r w) ∧ ∀ r, Rl.ok o l r → ∀ w, T0 r w → w ∈ g r
def GoodL (o l : Nat) (gs : List Gr) (T0 : Rl → Nat → Prop) (g : Ln) : Prop := LnOk o l g ∧ ∀ r, Rl.ok o l r → ∀ w, w ∈ g r ↔ Hd gs T0 r w
theorem byS_okL {o l : Nat} {g : Ln} {T : Rl → Nat → Prop} (hf : LnOk o l g) (h : ∀ r, Rl.ok o l r → ∀ w ∈ g r, T r w) {b : Bd} (hb : b.ok o l) {w : Nat} (hw : byS (me g) b w) : byS T b w := by
  cases b with
  | own c => exact hw
  | rol r => exact h r hb w hw
  | bot r s => exact ⟨h r hb.1 w hw.1, h s hb.2.1 w hw.2⟩
  | thr r m =>
    obtain ⟨u, h1, h2⟩ := hw
    exact ⟨u, h r hb.1 u h1, h (u, m) ⟨(hf r hb.1).2 u h1, hb.2⟩ w h2⟩
theorem WayL.done {o l : Nat} {gs : List Gr} {T0 : Rl → Nat → Prop} {g : Ln} (h : WayL o l gs T0 g) (hg : ∀ g ∈ gs, Gr.ok o l g) (ht : ∀ r w, T0 r w → Rl.ok o l r) (e : ∀ x ∈ gs, ∀ w ∈ byL g x.2, w ∈ g x.1) : GoodL o l gs T0 g := by
  obtain ⟨h1, h2, h3⟩ := h
  refine ⟨h1, fun r hr w => ⟨h2 r hr w, fun hw => ?_⟩⟩
  have key : Rl.ok o l r ∧ w ∈ g r := by
    refine hw.least (U := fun r w => Rl.ok o l r ∧ w ∈ g r) (fun r w h => ⟨ht r w h, h3 r (ht r w h) w h⟩) fun r b w hb hw => ?_
    exact ⟨(hg _ hb).1, e _ hb w ((byL_mem g b w).mpr (byS_mono (fun _ _ h => h.2) hw))⟩
  exact key.2
theorem GoodL.bits {o l : Nat} {gs : List Gr} {T0 : Rl → Nat → Prop} {g : Ln} {f : Kn} (h : GoodL o l gs T0 g) (h' : Good o l gs T0 f) {r : Rl} (hr : Rl.ok o l r) : g r = Q.bits (f r) :=
  asc_eq (h.1 r hr).1 (asc_bits _) fun w => (h.2 r hr w).trans ((h'.2 r hr w).symm.trans mem_bits.symm)
def gapL (o l : Nat) (g : Ln) : Nat := ((roles o l).map fun r => o - (g r).length).sum
theorem gapL_le {o l : Nat} (g : Ln) (ho : o ≤ 8) (hl : l ≤ 4) : gapL o l g ≤ 8192 := by
  have h1 : gapL o l g ≤ ((roles o l).map fun _ => 8).sum := sum_le fun r _ => by omega
  rw [List.map_const', List.sum_replicate_nat, roles_len] at h1
  have : o * l ≤ 8 * 4 := Nat.mul_le_mul ho hl
  omega
/-- what a dict of rows tells of those who hold from the beginning -/
def BgL (S : Sto) (d : D) (o l : Nat) (g : Ln) : Prop := ∃ ks vs qs, dicOf S d = some (ks, vs) ∧ tkeysD ks = some qs ∧ ∀ r, Rl.ok o l r → lookT qs vs (rq r) = some (lI (g r)) ∨ (lookT qs vs (rq r) = none ∧ g r = [])
theorem BgL.emp (S : Sto) (o l : Nat) : BgL S (.dic [] []) o l fun _ => [] := ⟨[], [], [], rfl, rfl, fun r _ => .inr ⟨rfl, rfl⟩⟩
theorem BgL.app {S T : Sto} {d : D} {o l : Nat} {f : Ln} (h : BgL S d o l f) : BgL (S ++ T) d o l f := by
  obtain ⟨ks, vs, qs, h1, h2, h3⟩ := h
  refine ⟨ks, vs, qs, ?_, h2, h3⟩
  cases d with
  | dic _ _ => exact h1
  | ref i =>
    rw [dicOf_ref] at h1 ⊢
    cases e : S[i]? with
    | none => rw [e] at h1; cases h1
    | some x =>
      rw [getB (List.getElem?_eq_some_iff.mp e).1, e]
      rw [e] at h1
      exact h1
  | _ => cases h1
theorem BgL.get2 {S : Sto} {d : D} {o l : Nat} {f : Ln} (h : BgL S d o l f) {r : Rl} (hr : Rl.ok o l r) {en : En} {b : ME} (hb : b en S = .ok (rD r) S) : g2K0 b (mLst aNil) en d S = .ok (lI (f r)) S := by
  obtain ⟨ks, vs, qs, h1, h2, h3⟩ := h
  rw [g2K0_ok h1 h2, hb, Res.bind_ok, g2K1_ap, mLst_ap, aNil_ap, Res.bind_ok, lstK_ok (by simp), Res.bind_ok, g2K2_ap]
  have e : dGetO S d (rD r) = some (lookT qs vs (rq r)) := by
    unfold dGetO
    rw [h1]
    simp only [tk_r, h2]
    rfl
  rcases h3 r hr with z | ⟨z, z0⟩
  · rw [g2K3_some (by rw [e, z])]
  · rw [g2K3_none (by rw [e, z]), z0]
    rfl
/-- the dict being filled -/
def preO (v : Rl → D) (l : List Rl) : Ob := .dic (l.map rD) (l.map v)
theorem put_pre {S : Sto} {i : Nat} {v : Rl → D} {en : En} {pre : List Rl} {r : Rl} (h : S[i]? = some (preO v pre)) (hr : r ∉ pre) (hl : pre.length < 1000) : dpK3 en (v r) (.ref i) (rD r) S = .ok (.nx en) (S.set i (preO v (pre ++ [r]))) := by
  rw [dpK3_ok h (tk_r r) (tks_r _) (by rw [List.length_map]; omega)]
  unfold putT preO
  rw [if_neg (by rw [show ([Sum.inl (r.1 : Int), Sum.inl (r.2 : Int)] : List Key) = rq r from rfl, hasK_map rq_inj]; exact hr)]
  simp only [List.map_append, List.map_cons, List.map_nil]
theorem list_lI (S : Sto) (l : List Nat) : dList S [lI l] = some (lI l) := dList_lst _ _
theorem ne_lI (S : Sto) (a b : List Nat) : dNe S (lI a) (lI b) = some (.bl (!decide (a = b))) := encN.neL S a b
local macro_rules | `(tactic| walk_at "ev") => `(tactic| simp (config := { decide := false }) only [seval, G.evB0, G.evB1, G.evB2, G.evB3, G.evB4, G.evB5, List.getElem?_set_self, List.length_set, List.set_set, List.map_cons, List.map_nil, List.length_cons, List.length_nil, List.replicate, List.cons_append, List.nil_append, List.getElem?_cons_zero, List.getElem?_cons_succ, List.set_cons_zero, List.set_cons_succ, Option.map_some, Option.map_none, Option.bind_some, Bool.not_true, Bool.not_false, if_true, if_false, decide_true, decide_false, Bool.false_eq_true, true_and, and_true, false_and, and_false, List.foldl_cons, List.foldl_nil, List.all_cons, List.all_nil, id_eq, Bool.and_true, Bool.true_and, eq_self, Bool.or_true, Bool.true_or, Bool.or_false, Bool.false_or, G.isNon, G.startE, G.bls, G.wipeE, P.evN0, Q.evQ2_0, nD_ap, in_lI, nin_lI, lD_ap, seq_lI, bel_lI, iD_ap, list_lI, ne_lI, lI_nil])
local macro_rules | `(tactic| walk_at "evs") => `(tactic| simp (config := { decide := false }) only [seval, G.evB0, G.evB1, G.evB2, G.evB3, G.evB4, G.evB5, List.getElem?_set_self, List.length_set, List.set_set, List.map_cons, List.map_nil, List.length_cons, List.length_nil, List.replicate, List.cons_append, List.nil_append, List.getElem?_cons_zero, List.getElem?_cons_succ, List.set_cons_zero, List.set_cons_succ, Option.map_some, Option.map_none, Option.bind_some, Bool.not_true, Bool.not_false, if_true, if_false, decide_true, decide_false, Bool.false_eq_true, true_and, and_true, false_and, and_false, List.foldl_cons, List.foldl_nil, List.all_cons, List.all_nil, id_eq, Bool.and_true, Bool.true_and, eq_self, Bool.or_true, Bool.true_or, Bool.or_false, Bool.false_or, G.isNon, G.startE, G.bls, G.wipeE, P.evN0, Q.evQ2_0, nD_ap, in_lI, nin_lI, lD_ap, seq_lI, bel_lI, iD_ap, list_lI, ne_lI, lI_nil, *])
/-- a row more at a role -/
def updL (g : Ln) (r : Rl) (m : List Nat) : Ln := fun s => if s = r then m else g s
theorem way_upd {o l : Nat} {gs : List Gr} {T0 : Rl → Nat → Prop} {g : Ln} (hw : WayL o l gs T0 g) {x : Gr} (hx : x ∈ gs) (ok : Gr.ok o l x) {m : List Nat} (hm : m.Pairwise (· < ·)) (hp : m.Perm (g x.1 ++ (byL g x.2).filter fun w => !decide (w ∈ g x.1))) (ne : (byL g x.2).filter (fun w => !decide (w ∈ g x.1)) ≠ []) :
    WayL o l gs T0 (updL g x.1 m) ∧ gapL o l (updL g x.1 m) < gapL o l g := by
  obtain ⟨h1, h2, h3⟩ := hw
  have hb := byL_ok h1.nd ok.2
  have mem : ∀ w, w ∈ m ↔ w ∈ g x.1 ∨ (w ∈ byL g x.2 ∧ w ∉ g x.1) := fun w => by
    rw [hp.mem_iff, List.mem_append, List.mem_filter]
    simp
  have lt : ∀ w ∈ m, w < o := fun w hw => by
    rcases (mem w).mp hw with h | h
    · exact (h1 _ ok.1).2 w h
    · exact hb.2 w h.1
  have ok' : LnOk o l (updL g x.1 m) := fun r hr => by
    unfold updL
    by_cases e : r = x.1
    · rw [if_pos e]; exact ⟨hm, lt⟩
    · rw [if_neg e]; exact h1 r hr
  refine ⟨⟨ok', fun r hr w hw => ?_, fun r hr w hw => ?_⟩, ?_⟩
  · unfold updL at hw
    by_cases e : r = x.1
    · rw [if_pos e] at hw
      subst e
      rcases (mem w).mp hw with h | h
      · exact h2 _ hr w h
      · exact Hd.by (b := x.2) hx (byS_okL h1 h2 ok.2 ((byL_mem g x.2 w).mp h.1))
    · rw [if_neg e] at hw
      exact h2 r hr w hw
  · unfold updL
    by_cases e : r = x.1
    · rw [if_pos e]
      subst e
      exact (mem w).mpr (.inl (h3 _ hr w hw))
    · rw [if_neg e]; exact h3 r hr w hw
  · have hlen : (g x.1).length < m.length := by
      rw [hp.length_eq, List.length_append]
      have := List.length_pos_iff.mpr ne
      omega
    have hle : m.length ≤ o := by
      have := asc_len (k := 0) hm fun w hw => ⟨Nat.zero_le _, lt w hw⟩
      omega
    unfold gapL
    refine sum_lt (fun r _ => ?_) ⟨x.1, mem_roles.mpr ok.1, ?_⟩
    · unfold updL
      by_cases e : r = x.1
      · rw [if_pos e, e]; omega
      · rw [if_neg e]; exact Nat.le_refl _
    · unfold updL
      rw [if_pos rfl]
      omega
theorem frz_dicL {r : Res D} {S : Sto} {R : Ln → Prop} {o l : Nat} (h : Wp r fun d' S' => ∃ f T, R f ∧ S' = S ++ T ∧ d' = .ref S.length ∧ T[0]? = some (kdO o l (lD f))) : ∃ f, R f ∧ r.frz S = .ok (kdD o l (lD f)) S := by
  obtain ⟨d, S', e, f, T, hf, rfl, rfl, ht⟩ := h.ok_of
  exact ⟨f, hf, frz_of (r := r) (o := kdO o l (lD f)) 0 (by rw [e]; exact ⟨T, rfl, ht, rfl⟩) (bel_kdO fun r => bel_lD _ _ r)⟩
theorem law_known_ex {S : Sto} {o l : Nat} {x d : D} {gs : List Gr} {g0 : Ln} {T0 : Rl → Nat → Prop} (hx : Grs x gs) (hd : BgL S d o l g0) (h0 : WayL o l gs T0 g0) (ht : ∀ r w, T0 r w → Rl.ok o l r) (hg : ∀ g ∈ gs, Gr.ok o l g) (ho : o ≤ 8) (hl : l ≤ 4) :
    ∃ g, GoodL o l gs T0 g ∧ fn_law_known.run [.int o, .int l, x, d] S = .ok (kdD o l (lD g)) S := by
  have hol : o * l ≤ 32 := Nat.mul_le_mul ho hl
  have R := @law_all_roles_run (S ++ [.dic [] []]) o l (by omega) (by omega)
  unfold fn_law_known ms_law_known
  rw [frzF_run]
  refine frz_dicL ?_
  walk_at "evs"
  refine Wp_for (fun pre en S' => ∃ x6, en = [some (.int o), some (.int l), some x, some d, some (.ref S.length), some (.bl true), x6, none, none, none] ∧ S' = S ++ [preO (lD g0) pre]) ⟨_, rfl, rfl⟩ ?_ ?_
  · rintro pre r suf en S' hl' ⟨x6, rfl, rfl⟩
    have nd := roles_nodup o l
    rw [hl'] at nd
    have ln := congrArg List.length hl'
    rw [roles_len] at ln
    simp only [List.length_append, List.length_cons] at ln
    have nr : r ∉ pre := fun z => by
      rw [List.nodup_append] at nd
      exact nd.2.2 r z r (by simp) rfl
    have ok : Rl.ok o l r := mem_roles.mp (by rw [hl']; simp)
    refine ⟨_, rfl, ?_⟩
    walk_at "ev"
    rw [(hd.app (T := [preO (lD g0) pre])).get2 ok rfl]
    walk_at "ev"
    rw [← lD_ap g0 r, put_pre (v := lD g0) (getA0 _ _) nr (by omega), setA0]
    exact ⟨_, rfl, rfl⟩
  · rintro en S' ⟨x6, rfl, rfl⟩
    rw [show preO (lD g0) (roles o l) = kdO o l (lD g0) from rfl]
    walk_at "ev"
    have mu : ∀ g : Ln, (match ((S ++ [kdO o l (lD g)])[S.length]? : Option Ob) with | some (.dic _ vs) => (vs.map fun v => match v with | .lst ds => o - ds.length | _ => 0).sum | _ => 0) = gapL o l g := fun g => by
      rw [getA0]
      simp only [List.getElem?_cons_zero, kdO, List.map_map]
      unfold gapL
      congr 1
      refine List.map_congr_left fun r _ => ?_
      simp only [Function.comp, lD, lI, List.length_map]
    have mu2 : ∀ g : Ln, (match (some (kdO o l (lD g)) : Option Ob) with | some (.dic _ vs) => (vs.map fun v => match v with | .lst ds => o - ds.length | _ => 0).sum | _ => 0) = gapL o l g := fun g => by
      have := mu g
      rw [getA0] at this
      exact this
    refine Wp_whil (fun en S' => ∃ (k : Bool) (g : Ln) (x6 x7 x8 : Option D), en = [some (.int o), some (.int l), some x, some d, some (.ref S.length), some (.bl k), x6, x7, x8, none] ∧ S' = S ++ [kdO o l (lD g)] ∧ WayL o l gs T0 g ∧ (k = false → GoodL o l gs T0 g))
      (fun en S' => 2 * (match (S'[S.length]? : Option Ob) with | some (.dic _ vs) => (vs.map fun v => match v with | .lst ds => o - ds.length | _ => 0).sum | _ => 0) + (match en with | [_, _, _, _, _, some (.bl true), _, _, _, _] => 1 | _ => 0)) ?_ 100000 _ _ ⟨true, g0, _, _, _, rfl, rfl, h0, fun z => by cases z⟩ ?_
    · rintro en S' ⟨k, g, x6, x7, x8, rfl, rfl, hw, hk⟩
      cases k with
      | false =>
        walk_at "ev"
        refine ⟨g, [kdO o l (lD g)], hk rfl, ?_⟩
        first | exact ⟨rfl, rfl, rfl⟩ | exact ⟨rfl, rfl⟩ | exact rfl
      | true =>
        walk_at "ev"
        rw [hx]
        walk_at "ev"
        refine Wp_for (fun pre en S' => ∃ (k : Bool) (g' : Ln) (x6 x7 x8 : Option D), en = [some (.int o), some (.int l), some x, some d, some (.ref S.length), some (.bl k), x6, x7, x8, none] ∧ S' = S ++ [kdO o l (lD g')] ∧ WayL o l gs T0 g' ∧
          (k = false → g' = g ∧ ∀ y ∈ pre, ∀ w ∈ byL g y.2, w ∈ g y.1) ∧ (k = true → gapL o l g' < gapL o l g)) ⟨false, g, _, _, _, rfl, rfl, hw, fun _ => ⟨rfl, fun y hy => by simp at hy⟩, fun z => by cases z⟩ ?_ ?_
        · rintro pre y suf en S' hl' ⟨k, g', x6, x7, x8, rfl, rfl, hw', hk1, hk2⟩
          have hy : y ∈ gs := by rw [hl']; simp
          have ok := hg y hy
          have K := KdAt.r (S := S ++ [kdO o l (lD g')]) (i := S.length) (o := o) (l := l) (v := lD g') (getA0 _ _)
          have B := law_by_run K hw'.1.nd ok.2 ho
          have ix := K.ix ok.1
          obtain ⟨nb, lb⟩ := byL_ok hw'.1.nd ok.2
          have len1 := nd_len nb lb
          clear hl'
          refine ⟨_, rfl, ?_⟩
          walk_at "evs"
          rw [comp_map (f := iD) (p := fun w => !decide (w ∈ g' y.1)) (byL g' y.2) [] (fun w hw => ⟨[some (.int o), some (.int l), some x, some d, some (.ref S.length), some (.bl k), some (rD y.1), some y.2.d, x8, some (.int w)], rfl, ?_, fun _ => rfl⟩) (by simp; omega)]
          · walk_at "ev"
            rw [lI_lst]
            by_cases e : (byL g' y.2).filter (fun w => !decide (w ∈ g' y.1)) = []
            · rw [e]
              walk_at "ev"
              refine ⟨k, g', _, _, _, rfl, rfl, hw', fun hf => ?_, hk2⟩
              obtain ⟨e1, e2⟩ := hk1 hf
              subst e1
              refine ⟨rfl, fun z hz w hw2 => ?_⟩
              rcases List.mem_append.mp hz with h | h
              · exact e2 z h w hw2
              · obtain rfl : z = y := by simpa using h
                rw [List.filter_eq_nil_iff] at e
                have := e w hw2
                simpa using this
            · have d1 : decide ((byL g' y.2).filter (fun w => !decide (w ∈ g' y.1)) = []) = false := decide_eq_false e
              have nd : (g' y.1 ++ (byL g' y.2).filter fun w => !decide (w ∈ g' y.1)).Nodup := by
                refine List.nodup_append.mpr ⟨(hw'.1 _ ok.1).1.imp fun h => Nat.ne_of_lt h, nb.filter _, fun a ha b hb e => ?_⟩
                subst e
                have := (List.mem_filter.mp hb).2
                simp [ha] at this
              obtain ⟨m, sm, am, pm⟩ := sort_lI (S := S ++ [kdO o l (lD g')]) nd
              obtain ⟨w1, w2⟩ := way_upd hw' hy ok am pm e
              have ad : dAdd (S ++ [kdO o l (lD g')]) (lI (g' y.1)) (lI ((byL g' y.2).filter fun w => !decide (w ∈ g' y.1))) = some (lI (g' y.1 ++ (byL g' y.2).filter fun w => !decide (w ∈ g' y.1))) := add_lI (by
                have := hw'.1.len ok.1
                have := List.length_filter_le (fun w => !decide (w ∈ g' y.1)) (byL g' y.2)
                omega)
              walk_at "evs"
              rw [put_r (getA0 _ _) ok.1 (by omega), setA0]
              walk_at "ev"
              refine ⟨true, updL g' y.1 m, _, _, _, rfl, ?_, w1, fun z => (by cases z), fun _ => ?_⟩
              · congr 2
                unfold kdO
                congr 1
                refine List.map_congr_left fun r _ => ?_
                simp only [lD, updL]
                split <;> rfl
              · cases k with
                | false => rw [← (hk1 rfl).1]; exact w2
                | true => exact Nat.lt_trans w2 (hk2 rfl)
          · walk_at "evs"
        · rintro en S' ⟨k, g', x6, x7, x8, rfl, rfl, hw', hk1, hk2⟩
          refine ⟨⟨k, g', _, _, _, rfl, rfl, hw', fun hf => ?_⟩, ?_⟩
          · obtain ⟨e1, e2⟩ := hk1 hf
            subst e1
            exact hw'.done hg ht e2
          · simp only [mu, mu2]
            cases k with
            | false =>
              rw [(hk1 rfl).1]
              simp
            | true =>
              have := hk2 rfl
              simp
              omega
    · have := gapL_le (o := o) (l := l) g0 ho hl
      simp only [mu, mu2]
      omega
end Q
end
section
set_option Elab.async false
set_option linter.all false
set_option maxRecDepth 100000
set_option maxHeartbeats 2000000
open PySem L2 G P
open Q

local macro_rules | `(tactic| walk_at "ev") => `(tactic| simp (config := { decide := false }) only [seval, G.evB0, G.evB1, G.evB2, G.evB3, G.evB4, G.evB5, List.getElem?_set_self, List.length_set, List.set_set, List.map_cons, List.map_nil, List.length_cons, List.length_nil, List.replicate, List.cons_append, List.nil_append, List.getElem?_cons_zero, List.getElem?_cons_succ, List.set_cons_zero, List.set_cons_succ, Option.map_some, Option.map_none, Option.bind_some, Bool.not_true, Bool.not_false, if_true, if_false, decide_true, decide_false, Bool.false_eq_true, true_and, and_true, false_and, and_false, List.foldl_cons, List.foldl_nil, List.all_cons, List.all_nil, id_eq, Bool.and_true, Bool.true_and, eq_self, Bool.or_true, Bool.true_or, Bool.or_false, Bool.false_or, G.isNon, G.startE, G.bls, G.wipeE, P.evN0, Q.evQ2_0])
local macro_rules | `(tactic| walk_at "evs") => `(tactic| simp (config := { decide := false }) only [seval, G.evB0, G.evB1, G.evB2, G.evB3, G.evB4, G.evB5, List.getElem?_set_self, List.length_set, List.set_set, List.map_cons, List.map_nil, List.length_cons, List.length_nil, List.replicate, List.cons_append, List.nil_append, List.getElem?_cons_zero, List.getElem?_cons_succ, List.set_cons_zero, List.set_cons_succ, Option.map_some, Option.map_none, Option.bind_some, Bool.not_true, Bool.not_false, if_true, if_false, decide_true, decide_false, Bool.false_eq_true, true_and, and_true, false_and, and_false, List.foldl_cons, List.foldl_nil, List.all_cons, List.all_nil, id_eq, Bool.and_true, Bool.true_and, eq_self, Bool.or_true, Bool.true_or, Bool.or_false, Bool.false_or, G.isNon, G.startE, G.bls, G.wipeE, P.evN0, Q.evQ2_0, *])
namespace Q
open PySem L2 G P
/-! ### the deck -/
theorem ks3 : ([Str.ofString "cells", Str.ofString "turn", Str.ofString "great"] : List Str).map D.str = [.str (Str.ofString "cells"), .str (Str.ofString "turn"), .str (Str.ofString "great")] := rfl
def DkO (cells : List Int) (t g : Int) : Ob := .dic [.str (Str.ofString "cells"), .str (Str.ofString "turn"), .str (Str.ofString "great")] [.lst (cells.map .int), .int t, .int g]
/-- S' is S with a deck at i that was asked at most n times -/
def At (n : Nat) (S : Sto) (i : Nat) (S' : Sto) : Prop := i < S.length ∧ ∃ (cells : List Int) (t g : Int), S' = S.set i (DkO cells t g) ∧ cells ≠ [] ∧ 0 ≤ t ∧ t ≤ n
theorem At.len {n : Nat} {S : Sto} {i : Nat} {S' : Sto} (h : At n S i S') : S'.length = S.length := by
  obtain ⟨_, c, t, g, rfl, _⟩ := h
  simp
theorem At.mono {n m : Nat} {S : Sto} {i : Nat} {S' : Sto} (h : At n S i S') (hn : n ≤ m) : At m S i S' := by
  obtain ⟨a, c, t, g, b, d, e, f⟩ := h
  exact ⟨a, c, t, g, b, d, e, by omega⟩
theorem bel_DkO (n : Nat) (c : List Int) (t g : Int) : (DkO c t g).bel n := by
  have : D.bels n (c.map D.int) = True := bels_map n _ (fun _ => by simp [D.bel]) c
  simp only [DkO, Ob.bel, D.bels, D.bel, this, and_self]
theorem At.trans {n m : Nat} {S : Sto} {i : Nat} {S1 S2 : Sto} (h : At n S i S1) (h2 : At m S1 i S2) : At m S i S2 := by
  obtain ⟨a, c, t, g, rfl, _⟩ := h
  obtain ⟨a2, c2, t2, g2, rfl, x, y, z⟩ := h2
  exact ⟨a, c2, t2, g2, by rw [List.set_set], x, y, z⟩
theorem At.self {n : Nat} {S : Sto} {i : Nat} {S1 : Sto} (h : At n S i S1) : At n S1 i S1 := by
  obtain ⟨a, c, t, g, rfl, x, y, z⟩ := h
  exact ⟨by simpa using a, c, t, g, by rw [List.set_set], x, y, z⟩
theorem At.get {n : Nat} {S : Sto} {i : Nat} {S1 : Sto} (h : At n S i S1) : ∃ (cells : List Int) (t g : Int), S1[i]? = some (DkO cells t g) ∧ cells ≠ [] ∧ 0 ≤ t ∧ t ≤ n := by
  obtain ⟨a, c, t, g, rfl, x, y, z⟩ := h
  exact ⟨c, t, g, List.getElem?_set_self a, x, y, z⟩
theorem At.of {n : Nat} {S : Sto} {i : Nat} {c : List Int} {t g : Int} (h : S[i]? = some (DkO c t g)) (hc : c ≠ []) (h0 : 0 ≤ t) (hn : t ≤ n) : At n S i S := by
  obtain ⟨hi, e⟩ := List.getElem?_eq_some_iff.mp h
  exact ⟨hi, c, t, g, by rw [← e, List.set_getElem_self], hc, h0, hn⟩
theorem At.app {n : Nat} {S : Sto} {i : Nat} {S1 : Sto} (h : At n S i S1) (T : Sto) : At n (S ++ T) i (S1 ++ T) := by
  obtain ⟨a, c, t, g, rfl, x⟩ := h
  exact ⟨by rw [List.length_append]; omega, c, t, g, by rw [setB a], x⟩
theorem At.unapp {n : Nat} {S T : Sto} {i : Nat} {S1 : Sto} (hi : i < S.length) (h : At n (S ++ T) i S1) : ∃ S2, S1 = S2 ++ T ∧ At n S i S2 := by
  obtain ⟨a, c, t, g, rfl, x⟩ := h
  exact ⟨S.set i (DkO c t g), by rw [setB hi], hi, c, t, g, rfl, x⟩
theorem At.cl {n m : Nat} {S : Sto} {i : Nat} {S1 S2 : Sto} (h : At n S i S1) (h2 : At m S1 i S2) : Cl S1 S2 := by
  obtain ⟨a2, c2, t2, g2, rfl, x, y, z⟩ := h2
  exact Cl.set (bel_DkO _ _ _ _)
/-- the end of a def that draws -/
theorem drop_at {n m : Nat} {S : Sto} {i : Nat} {S1 : Sto} (h : At n S i S1) {r : Res D} {Q : D → Sto → Prop} (hr : Wp r fun d S' => ∃ S2 T, S' = S2 ++ T ∧ At m S1 i S2 ∧ (∀ k, d.bel k = True) ∧ Q d S2) : Wp (r.drop S1) Q := by
  obtain ⟨d, S', e, S2, T, rfl, h2, hb, q⟩ := hr.ok_of
  rw [e, Wp_drop, Wp_ok]
  have l2 := h2.len
  have cl : Cl S1 (S2 ++ T) := by
    obtain ⟨a2, c2, t2, g2, rfl, x, y, z⟩ := h2
    have c1 : Cl S1 (S1.set i (DkO c2 t2 g2)) := Cl.set (bel_DkO _ _ _ _)
    refine ⟨by simp, fun j hj => ?_⟩
    rw [List.getElem?_append_left (by simpa using hj)]
    exact c1.2 j hj
  refine ⟨⟨cl, by rw [hb]; trivial⟩, ?_⟩
  rw [List.take_append_of_le_length (by omega), List.take_of_length_le (by omega)]
  exact q
theorem w_ct : (Str.ofString "cells" = Str.ofString "turn") = False := by decide +kernel
theorem w_cg : (Str.ofString "cells" = Str.ofString "great") = False := by decide +kernel
theorem w_tg : (Str.ofString "turn" = Str.ofString "great") = False := by decide +kernel
theorem w_gt : (Str.ofString "great" = Str.ofString "turn") = False := by decide +kernel
theorem kget {S : Sto} {i : Nat} {c : List Int} {t g : Int} (h : S[i]? = some (DkO c t g)) :
    dIdxA S (.ref i) (.str (Str.ofString "cells")) = some (.lst (c.map .int)) ∧ dIdxA S (.ref i) (.str (Str.ofString "turn")) = some (.int t) ∧ dIdxA S (.ref i) (.str (Str.ofString "great")) = some (.int g) := by
  have e : dicOf S (.ref i) = some ([.str (Str.ofString "cells"), .str (Str.ofString "turn"), .str (Str.ofString "great")], [.lst (c.map .int), .int t, .int g]) := by rw [dicOf_ref, h]; rfl
  refine ⟨dIdxA_key ?_, dIdxA_key ?_, dIdxA_key ?_⟩
  · unfold kGetO
    rw [e]
    simp only [keyD, keysD, List.isEmpty_cons, Bool.false_eq_true, if_false, lookK, if_true]
  · unfold kGetO
    rw [e]
    simp only [keyD, keysD, List.isEmpty_cons, Bool.false_eq_true, if_false, lookK, Sum.inr.injEq, w_ct, if_true]
  · unfold kGetO
    rw [e]
    simp only [keyD, keysD, List.isEmpty_cons, Bool.false_eq_true, if_false, lookK, Sum.inr.injEq, w_cg, w_tg, if_true]
theorem kput_turn {S : Sto} {i : Nat} {c : List Int} {t g u : Int} {en : En} (h : S[i]? = some (DkO c t g)) : kpK3 en (.int u) (.ref i) (.str (Str.ofString "turn")) S = .ok (.nx en) (S.set i (DkO c u g)) := by
  rw [kpK3_ok h rfl rfl rfl (by simp)]
  unfold putKD
  rw [if_pos (by simp [hasKK])]
  simp only [replK, Sum.inr.injEq, w_ct, w_gt, if_false, if_true]
  rfl
theorem kput_great {S : Sto} {i : Nat} {c : List Int} {t g u : Int} {en : En} (h : S[i]? = some (DkO c t g)) : kpK3 en (.int u) (.ref i) (.str (Str.ofString "great")) S = .ok (.nx en) (S.set i (DkO c t u)) := by
  rw [kpK3_ok h rfl rfl rfl (by simp)]
  unfold putKD
  rw [if_pos (by simp [hasKK])]
  simp only [replK, Sum.inr.injEq, w_cg, w_tg, if_false, if_true]
  rfl
theorem mod_nat {x : Int} {m : Nat} (hm : 0 < m) : ∃ r : Nat, x % (m : Int) = (r : Int) ∧ r < m := by
  have h1 := Int.emod_nonneg x (show (m : Int) ≠ 0 by omega)
  have h2 := Int.emod_lt_of_pos x (show (0 : Int) < m by omega)
  exact ⟨(x % m).toNat, by omega, by omega⟩
theorem take_at {n : Nat} {S : Sto} {i : Nat} {S1 : Sto} {many : Nat} (h : At n S i S1) (hn : n ≤ 1000000) (h1 : 0 < many) (h2 : many ≤ 1000000) :
    Wp (fn_law_take.run [.ref i, .int many] S1) fun d S2 => ∃ r : Nat, d = .int r ∧ r < many ∧ At (n + 1) S i S2 := by
  obtain ⟨c, t, g, e, hc, t0, tn⟩ := h.get
  have hi : i < S1.length := (List.getElem?_eq_some_iff.mp e).1
  obtain ⟨k1, k2, k3⟩ := kget e
  have e2 : (S1.set i (DkO c (t + 1) g))[i]? = some (DkO c (t + 1) g) := List.getElem?_set_self hi
  obtain ⟨m1, m2, m3⟩ := kget e2
  have hm : (0 : Int) < (many : Int) := by omega
  have hm2 : (many : Int) < 1073741824 := by omega
  unfold fn_law_take ms_law_take
  rw [dropF_run]
  refine drop_at (m := n + 1) h.self ?_
  walk_at "evs"
  rw [kput_turn e]
  walk_at "evs"
  by_cases hg : (0 : Int) < g
  · obtain ⟨r, er, hr⟩ := mod_nat (x := g) h1
    walk_at "evs"
    rw [kput_great e2]
    walk_at "evs"
    refine ⟨S1.set i (DkO c (t + 1) (g / many)), [], by simp, ⟨hi, c, t + 1, _, rfl, hc, by omega, by omega⟩, ?_⟩
    exact ⟨fun _ => trivial, r, rfl, hr, h.trans ⟨hi, c, t + 1, _, rfl, hc, by omega, by omega⟩⟩
  · have hl : (0 : Int) < ((c.map D.int).length : Int) := by
      rw [List.length_map]
      have := List.length_pos_iff.mpr hc
      omega
    obtain ⟨z, ez⟩ : ∃ z : Int, atI (c.map D.int) ((t + 1) % ((c.map D.int).length : Int)) = some (.int z) := by
      have h1 := Int.emod_nonneg (t + 1) (show ((c.map D.int).length : Int) ≠ 0 by omega)
      have h2 := Int.emod_lt_of_pos (t + 1) hl
      have h4 : (c.map D.int).length = c.length := List.length_map _
      have h3 : ((t + 1) % ((c.map D.int).length : Int)).toNat < c.length := by omega
      exact ⟨c[((t + 1) % ((c.map D.int).length : Int)).toNat], atI_at h1 (by rw [List.getElem?_map, List.getElem?_eq_getElem h3]; rfl)⟩
    have b1 : -(2 ^ 64) < t + 1 ∧ t + 1 < 2 ^ 64 := by omega
    have q1 : ∀ x : Int, 0 ≤ x % 2147483399 ∧ x % 2147483399 < 2147483399 := fun x => ⟨Int.emod_nonneg _ (by decide), Int.emod_lt_of_pos _ (by decide)⟩
    have q2 : ∀ x : Int, 0 ≤ x % 2147483489 ∧ x % 2147483489 < 2147483489 := fun x => ⟨Int.emod_nonneg _ (by decide), Int.emod_lt_of_pos _ (by decide)⟩
    have cp : CPow (z % 2147483399 + 70001 * (t + 1) + 41) 3 := ⟨by decide, by decide, by have := q1 z; omega⟩
    walk_at "evs"
    rw [dMul_r b1]
    walk_at "evs"
    obtain ⟨r, er, hr⟩ := mod_nat (x := ((z % 2147483399 + 70001 * (t + 1) + 41) ^ 3 % 2147483489 * 53101 + 6397 * (t + 1) * (t + 1)) % 2147483423 / 13) h1
    walk_at "evs"
    exact ⟨S1.set i (DkO c (t + 1) g), [], by simp, ⟨hi, c, t + 1, _, rfl, hc, by omega, by omega⟩, fun _ => trivial, r, rfl, hr, h.trans ⟨hi, c, t + 1, _, rfl, hc, by omega, by omega⟩⟩
theorem one_at {n : Nat} {S : Sto} {i : Nat} {S1 : Sto} {ds : List D} (h : At n S i S1) (hn : n ≤ 1000000) (h1 : 0 < ds.length) (h2 : ds.length ≤ 1000000) (hb : ∀ d ∈ ds, ∀ k, d.bel k = True) :
    Wp (fn_law_one.run [.ref i, .lst ds] S1) fun d S2 => d ∈ ds ∧ At (n + 1) S i S2 := by
  unfold fn_law_one ms_law_one
  rw [dropF_run]
  refine drop_at (m := n + 1) h.self ?_
  walk_at "ev"
  refine (take_at h hn h1 h2).mono ?_
  rintro _ S2 ⟨r, rfl, hr, h3⟩
  have e : atI ds (r : Int) = some ds[r] := atI_at (by omega) (by rw [Int.toNat_natCast, List.getElem?_eq_getElem hr])
  walk_at "evs"
  have hm : ds[r] ∈ ds := List.getElem_mem hr
  obtain ⟨a, c, t, g, rfl, x⟩ := h
  obtain ⟨a3, c3, t3, g3, rfl, x3⟩ := h3
  refine ⟨_, [], (List.append_nil _).symm, ⟨by simpa using a, c3, t3, g3, by rw [List.set_set], x3⟩, hb _ hm, hm, a3, c3, t3, g3, rfl, x3⟩
theorem role_at {n : Nat} {S : Sto} {i : Nat} {S1 : Sto} {o l : Nat} (h : At n S i S1) (hn : n ≤ 999990) (ho1 : 0 < o) (ho2 : o ≤ 1000000) (hl1 : 0 < l) (hl2 : l ≤ 1000000) :
    Wp (fn_law_role.run [.ref i, .int o, .int l] S1) fun d S2 => ∃ r : Rl, d = rD r ∧ Rl.ok o l r ∧ At (n + 2) S i S2 := by
  unfold fn_law_role ms_law_role
  rw [dropF_run]
  refine drop_at (m := n + 2) h.self ?_
  walk_at "ev"
  refine (take_at h (by omega) ho1 ho2).mono ?_
  rintro _ S2 ⟨a, rfl, ha, h2⟩
  walk_at "ev"
  refine (take_at h2 (by omega) hl1 hl2).mono ?_
  rintro _ S3 ⟨b, rfl, hb, h3⟩
  walk_at "ev"
  obtain ⟨x, c, t, g, rfl, y⟩ := h
  obtain ⟨x3, c3, t3, g3, rfl, y3⟩ := h3
  exact ⟨_, [], (List.append_nil _).symm, ⟨by simpa using x, c3, t3, g3, by rw [List.set_set], y3⟩, fun _ => trivial, (a, b), rfl, ⟨ha, hb⟩, x3, c3, t3, g3, rfl, y3⟩
end Q
end
section
set_option Elab.async false
set_option linter.all false
set_option maxRecDepth 100000
set_option maxHeartbeats 2000000
open PySem L2 G P
open Q

local macro_rules | `(tactic| walk_at "ev") => `(tactic| simp (config := { decide := false }) only [seval, G.evB0, G.evB1, G.evB2, G.evB3, G.evB4, G.evB5, List.getElem?_set_self, List.length_set, List.set_set, List.map_cons, List.map_nil, List.length_cons, List.length_nil, List.replicate, List.cons_append, List.nil_append, List.getElem?_cons_zero, List.getElem?_cons_succ, List.set_cons_zero, List.set_cons_succ, Option.map_some, Option.map_none, Option.bind_some, Bool.not_true, Bool.not_false, if_true, if_false, decide_true, decide_false, Bool.false_eq_true, true_and, and_true, false_and, and_false, List.foldl_cons, List.foldl_nil, List.all_cons, List.all_nil, id_eq, Bool.and_true, Bool.true_and, eq_self, Bool.or_true, Bool.true_or, Bool.or_false, Bool.false_or, G.isNon, G.startE, G.bls, G.wipeE, P.evN0, Q.evQ2_0])
local macro_rules | `(tactic| walk_at "evs") => `(tactic| simp (config := { decide := false }) only [seval, G.evB0, G.evB1, G.evB2, G.evB3, G.evB4, G.evB5, List.getElem?_set_self, List.length_set, List.set_set, List.map_cons, List.map_nil, List.length_cons, List.length_nil, List.replicate, List.cons_append, List.nil_append, List.getElem?_cons_zero, List.getElem?_cons_succ, List.set_cons_zero, List.set_cons_succ, Option.map_some, Option.map_none, Option.bind_some, Bool.not_true, Bool.not_false, if_true, if_false, decide_true, decide_false, Bool.false_eq_true, true_and, and_true, false_and, and_false, List.foldl_cons, List.foldl_nil, List.all_cons, List.all_nil, id_eq, Bool.and_true, Bool.true_and, eq_self, Bool.or_true, Bool.true_or, Bool.or_false, Bool.false_or, G.isNon, G.startE, G.bls, G.wipeE, P.evN0, Q.evQ2_0, *])
namespace Q
open PySem L2 G P
theorem At.rel {n m : Nat} {S : Sto} {i : Nat} {S1 S2 : Sto} (h : At n S i S1) (h2 : At m S i S2) : At m S1 i S2 := by
  obtain ⟨x, c, t, g, rfl, y⟩ := h
  obtain ⟨x3, c3, t3, g3, rfl, y3⟩ := h2
  exact ⟨by simpa using x, c3, t3, g3, by rw [List.set_set], y3⟩
/-- .. with what is asked of the result alone -/
theorem drop_atR {n m : Nat} {S : Sto} {i : Nat} {S1 : Sto} (h : At n S i S1) {r : Res D} {Q : D → Prop} (hb : ∀ d, Q d → ∀ k, d.bel k = True) (hr : Wp r fun d S' => ∃ S2 T, S' = S2 ++ T ∧ At m S i S2 ∧ Q d) : Wp (r.drop S1) fun d S2 => Q d ∧ At m S i S2 := by
  refine drop_at (m := m) h.self (hr.mono ?_)
  rintro d S' ⟨S2, T, e, h2, q⟩
  exact ⟨S2, T, e, h.rel h2, hb d q, q, h2⟩
theorem add_lst {S : Sto} {a b : List D} (h : a.length + b.length ≤ 1000000) : dAdd S (.lst a) (.lst b) = some (.lst (a ++ b)) := by
  rw [dAdd_lst, if_pos (sz_small h)]
theorem add_tup {S : Sto} {a b : List D} (h : a.length + b.length ≤ 1000000) : dAdd S (.tup a) (.tup b) = some (.tup (a ++ b)) := by
  rw [dAdd_tup, if_pos (sz_small h)]
theorem ltP_r (a b : Rl) : ltP (a.1 : Nat) (a.2 : Nat) (b.1 : Nat) (b.2 : Nat) = true ↔ rLt a b := by
  rw [ltP_eq, rLt_iff, decide_eq_true_eq]
  omega
theorem min_r (S : Sto) (a b : Rl) : dMin2 S [rD a, rD b] = some (rD (if ltK (rK b) (rK a) = true then b else a)) := by
  unfold rD
  rw [dMin2_t2]
  by_cases z : ltK (rK b) (rK a) = true
  · rw [if_pos z, if_pos ((ltP_r b a).mpr z), if_pos ((ltP_r b a).mpr z)]
  · have y : ¬ ltP (b.1 : Nat) (b.2 : Nat) (a.1 : Nat) (a.2 : Nat) = true := fun y => z ((ltP_r b a).mp y)
    rw [if_neg z, if_neg y, if_neg y]
theorem max_r (S : Sto) (a b : Rl) : dMax2 S [rD a, rD b] = some (rD (if ltK (rK a) (rK b) = true then b else a)) := by
  unfold rD
  rw [dMax2_t2]
  by_cases z : ltK (rK a) (rK b) = true
  · rw [if_pos z, if_pos ((ltP_r a b).mpr z), if_pos ((ltP_r a b).mpr z)]
  · have y : ¬ ltP (a.1 : Nat) (a.2 : Nat) (b.1 : Nat) (b.2 : Nat) = true := fun y => z ((ltP_r a b).mp y)
    rw [if_neg z, if_neg y, if_neg y]
theorem minmax {o l : Nat} {a b : Rl} (h : a ≠ b) (ha : Rl.ok o l a) (hb : Rl.ok o l b) : (Bd.bot (if ltK (rK b) (rK a) = true then b else a) (if ltK (rK a) (rK b) = true then b else a)).ok o l := by
  rcases rLt_total h with z | z
  · have y := ltK_asym z
    rw [if_neg (by rw [y]; decide), if_pos z]
    exact ⟨ha, hb, z⟩
  · have y := ltK_asym z
    rw [if_pos z, if_neg (by rw [y]; decide)]
    exact ⟨hb, ha, z⟩
local macro_rules | `(tactic| walk_at "ev") => `(tactic| simp (config := { decide := false }) only [seval, G.evB0, G.evB1, G.evB2, G.evB3, G.evB4, G.evB5, List.getElem?_set_self, List.length_set, List.set_set, List.map_cons, List.map_nil, List.length_cons, List.length_nil, List.replicate, List.cons_append, List.nil_append, List.getElem?_cons_zero, List.getElem?_cons_succ, List.set_cons_zero, List.set_cons_succ, Option.map_some, Option.map_none, Option.bind_some, Bool.not_true, Bool.not_false, if_true, if_false, decide_true, decide_false, Bool.false_eq_true, true_and, and_true, false_and, and_false, List.foldl_cons, List.foldl_nil, List.all_cons, List.all_nil, id_eq, Bool.and_true, Bool.true_and, eq_self, Bool.or_true, Bool.true_or, Bool.or_false, Bool.false_or, G.isNon, G.startE, G.bls, G.wipeE, P.evN0, Q.evQ2_0, add_lst, add_tup, min_r, max_r])
local macro_rules | `(tactic| walk_at "evs") => `(tactic| simp (config := { decide := false }) only [seval, G.evB0, G.evB1, G.evB2, G.evB3, G.evB4, G.evB5, List.getElem?_set_self, List.length_set, List.set_set, List.map_cons, List.map_nil, List.length_cons, List.length_nil, List.replicate, List.cons_append, List.nil_append, List.getElem?_cons_zero, List.getElem?_cons_succ, List.set_cons_zero, List.set_cons_succ, Option.map_some, Option.map_none, Option.bind_some, Bool.not_true, Bool.not_false, if_true, if_false, decide_true, decide_false, Bool.false_eq_true, true_and, and_true, false_and, and_false, List.foldl_cons, List.foldl_nil, List.all_cons, List.all_nil, id_eq, Bool.and_true, Bool.true_and, eq_self, Bool.or_true, Bool.true_or, Bool.or_false, Bool.false_or, G.isNon, G.startE, G.bls, G.wipeE, P.evN0, Q.evQ2_0, add_lst, add_tup, min_r, max_r, *])

/-- no grant through the holders of a role -/
def Bd.plain : Bd → Prop
  | .thr _ _ => False
  | _ => True
theorem body_at {n : Nat} {S : Sto} {i : Nat} {S1 : Sto} {o l : Nat} {k : Bool} (h : At n S i S1) (hn : n ≤ 999900) (ho1 : 0 < o) (ho2 : o ≤ 1000000) (hl1 : 0 < l) (hl2 : l ≤ 1000000) :
    Wp (fn_law_body.run [.ref i, .int o, .int l, .bl k] S1) fun d S2 => (∃ b : Bd, d = b.d ∧ b.ok o l ∧ (k = true → b.plain)) ∧ At (n + 6) S i S2 := by
  unfold fn_law_body ms_law_body
  rw [dropF_run]
  refine drop_atR h (fun d hd k => ?_) ?_
  · obtain ⟨b, rfl, _⟩ := hd
    exact bel_b k b
  have tail : ∀ {S2 : Sto} {w : D} {m : Nat}, At m S i S2 → m ≤ n + 1 → w ∈ [D.str (Str.ofString "owner"), .str (Str.ofString "role"), .str (Str.ofString "both"), .str (Str.ofString "through")] → (k = true → w ≠ .str (Str.ofString "through")) →
      Wp ((sSeq (sIf (mTest (mOp dEq (mVar 4) (mC (.str "owner")))) (sRet (mTup (aCons (mC (.str "owner")) (aCons (mCall fn_law_take (aCons (mVar 0) (aCons (mVar 1) aNil))) aNil)))) sNil)
    (sSeq (sPar 5 6 (aCons (mCall fn_law_role (aCons (mVar 0) (aCons (mVar 1) (aCons (mVar 2) aNil)))) (aCons (mCall fn_law_role (aCons (mVar 0) (aCons (mVar 1) (aCons (mVar 2) aNil)))) aNil)))
    (sSeq (sIf (mTest (mOp dEq (mVar 4) (mC (.str "through")))) (sRet (mTup (aCons (mC (.str "through")) (aCons (mVar 5) (aCons (mCall fn_law_take (aCons (mVar 0) (aCons (mVar 2) aNil))) aNil))))) sNil)
    (sSeq (sIf (mOr (mTest (mOp dEq (mVar 4) (mC (.str "role")))) (mTest (mOp dEq (mVar 5) (mVar 6)))) (sRet (mTup (aCons (mC (.str "role")) (aCons (mVar 5) aNil)))) sNil)
    (sRet (mTup (aCons (mC (.str "both")) (aCons (mCB dMin2 (aCons (mVar 5) (aCons (mVar 6) aNil))) (aCons (mCB dMax2 (aCons (mVar 5) (aCons (mVar 6) aNil))) aNil)))))))))
        [some (.ref i), some (.int o), some (.int l), some (.bl k), some w, none, none] S2) fun f S3 => Wp (endK f S3) fun d S' => ∃ S2 T, S' = S2 ++ T ∧ At (n + 6) S i S2 ∧ ∃ b : Bd, d = b.d ∧ b.ok o l ∧ (k = true → b.plain) := by
    intro S2 w m h2 hm hw hk
    have two : ∀ {Q : D → Sto → Prop}, (∀ (a b : Rl) (S3 S4 : Sto), Rl.ok o l a → Rl.ok o l b → At (m + 4) S i S4 → True) → True := fun _ => trivial
    simp only [List.mem_cons, List.not_mem_nil, or_false] at hw
    rcases hw with rfl | rfl | rfl | rfl
    · walk_at "ev"
      refine (take_at h2 (by omega) ho1 ho2).mono ?_
      rintro _ S3 ⟨c, rfl, hc, h3⟩
      try walk_at "ev"
      exact ⟨S3, [], (List.append_nil _).symm, h3.mono (by omega), .own c, rfl, hc, fun _ => trivial⟩
    · walk_at "ev"
      refine (role_at h2 (by omega) ho1 ho2 hl1 hl2).mono ?_
      rintro _ S3 ⟨a, rfl, ha, h3⟩
      try walk_at "ev"
      refine (role_at h3 (by omega) ho1 ho2 hl1 hl2).mono ?_
      rintro _ S4 ⟨b, rfl, hb, h4⟩
      try walk_at "ev"
      exact ⟨S4, [], (List.append_nil _).symm, h4.mono (by omega), .rol a, rfl, ha, fun _ => trivial⟩
    · walk_at "ev"
      refine (role_at h2 (by omega) ho1 ho2 hl1 hl2).mono ?_
      rintro _ S3 ⟨a, rfl, ha, h3⟩
      try walk_at "ev"
      refine (role_at h3 (by omega) ho1 ho2 hl1 hl2).mono ?_
      rintro _ S4 ⟨b, rfl, hb, h4⟩
      by_cases e : a = b
      · subst e
        try walk_at "ev"
        exact ⟨S4, [], (List.append_nil _).symm, h4.mono (by omega), .rol a, rfl, ha, fun _ => trivial⟩
      · have e' : decide (a = b) = false := decide_eq_false e
        walk_at "evs"
        exact ⟨S4, [], (List.append_nil _).symm, h4.mono (by omega), .bot _ _, rfl, minmax e ha hb, fun _ => trivial⟩
    · walk_at "ev"
      refine (role_at h2 (by omega) ho1 ho2 hl1 hl2).mono ?_
      rintro _ S3 ⟨a, rfl, ha, h3⟩
      try walk_at "ev"
      refine (role_at h3 (by omega) ho1 ho2 hl1 hl2).mono ?_
      rintro _ S4 ⟨b, rfl, hb, h4⟩
      try walk_at "ev"
      refine (take_at h4 (by omega) hl1 hl2).mono ?_
      rintro _ S5 ⟨c, rfl, hc, h5⟩
      try walk_at "ev"
      exact ⟨S5, [], (List.append_nil _).symm, h5.mono (by omega), .thr a c, rfl, ⟨ha, hc⟩, fun z => absurd rfl (hk z)⟩
  cases k with
  | true =>
    walk_at "ev"
    refine (one_at h (by omega) (by simp) (by simp) (fun d hd k => ?_)).mono ?_
    · simp only [List.mem_append, List.mem_cons, List.not_mem_nil, or_false] at hd
      rcases hd with rfl | rfl | rfl | rfl | rfl <;> simp [D.bel]
    · rintro w S2 ⟨hw, h2⟩
      have t := tail (w := w) h2 (by omega) (by
        simp only [List.mem_append, List.mem_cons, List.not_mem_nil, or_false] at hw ⊢
        rcases hw with rfl | rfl | rfl | rfl | rfl <;> simp) (by
        simp only [List.mem_append, List.mem_cons, List.not_mem_nil, or_false] at hw
        intro _
        rcases hw with rfl | rfl | rfl | rfl | rfl <;> (intro z; have := D.str.inj z; revert this; simp [w_ot, w_rt, w_bt]))
      revert t
      walk_at "ev"
      exact fun t => t
  | false =>
    walk_at "ev"
    refine (one_at h (by omega) (by simp) (by simp) (fun d hd k => ?_)).mono ?_
    · simp only [List.mem_append, List.mem_cons, List.not_mem_nil, or_false] at hd
      rcases hd with rfl | rfl | rfl | rfl | rfl | rfl | rfl <;> simp [D.bel]
    · rintro w S2 ⟨hw, h2⟩
      have t := tail (w := w) h2 (by omega) (by
        simp only [List.mem_append, List.mem_cons, List.not_mem_nil, or_false] at hw ⊢
        rcases hw with rfl | rfl | rfl | rfl | rfl | rfl | rfl <;> simp) (fun z => by cases z)
      revert t
      walk_at "ev"
      exact fun t => t
end Q
end
section
set_option Elab.async false
set_option linter.all false
set_option maxRecDepth 100000
set_option maxHeartbeats 2000000
open PySem L2 G P
open Q
local macro_rules | `(tactic| walk_at "ev") => `(tactic| simp (config := { decide := false }) only [seval, G.evB0, G.evB1, G.evB2, G.evB3, G.evB4, G.evB5, List.getElem?_set_self, List.length_set, List.set_set, List.map_cons, List.map_nil, List.length_cons, List.length_nil, List.replicate, List.cons_append, List.nil_append, List.getElem?_cons_zero, List.getElem?_cons_succ, List.set_cons_zero, List.set_cons_succ, Option.map_some, Option.map_none, Option.bind_some, Bool.not_true, Bool.not_false, if_true, if_false, decide_true, decide_false, Bool.false_eq_true, true_and, and_true, false_and, and_false, List.foldl_cons, List.foldl_nil, List.all_cons, List.all_nil, id_eq, Bool.and_true, Bool.true_and, eq_self, Bool.or_true, Bool.true_or, Bool.or_false, Bool.false_or, G.isNon, G.startE, G.bls, G.wipeE, P.evN0, Q.evQ2_0, add_lst, add_tup, min_r, max_r])
local macro_rules | `(tactic| walk_at "evs") => `(tactic| simp (config := { decide := false }) only [seval, G.evB0, G.evB1, G.evB2, G.evB3, G.evB4, G.evB5, List.getElem?_set_self, List.length_set, List.set_set, List.map_cons, List.map_nil, List.length_cons, List.length_nil, List.replicate, List.cons_append, List.nil_append, List.getElem?_cons_zero, List.getElem?_cons_succ, List.set_cons_zero, List.set_cons_succ, Option.map_some, Option.map_none, Option.bind_some, Bool.not_true, Bool.not_false, if_true, if_false, decide_true, decide_false, Bool.false_eq_true, true_and, and_true, false_and, and_false, List.foldl_cons, List.foldl_nil, List.all_cons, List.all_nil, id_eq, Bool.and_true, Bool.true_and, eq_self, Bool.or_true, Bool.true_or, Bool.or_false, Bool.false_or, G.isNon, G.startE, G.bls, G.wipeE, P.evN0, Q.evQ2_0, add_lst, add_tup, min_r, max_r, *])

namespace Q
open PySem L2 G P
/-! ### sorted(set(..)) of grants -/
theorem sortK_gr (gs : List Gr) : ∃ ms : List Gr, sortK (gs.map gK) = ms.map gK ∧ ms.Pairwise gLt ∧ ∀ g, g ∈ ms ↔ g ∈ gs := by
  have cmp : CmpK (gs.map gK) := fun a ha b hb => by
    obtain ⟨x, _, rfl⟩ := List.mem_map.mp ha
    obtain ⟨y, _, rfl⟩ := List.mem_map.mp hb
    exact cmp_gK x y
  have asc := sortK_asc cmp
  have mem := fun k => mem_sortK k (gs.map gK)
  have ex : ∀ l : List NK, (∀ k ∈ l, ∃ g ∈ gs, k = gK g) → ∃ ms : List Gr, l = ms.map gK ∧ ∀ g ∈ ms, g ∈ gs := by
    intro l
    induction l with
    | nil => exact fun _ => ⟨[], rfl, fun g hg => by simp at hg⟩
    | cons k l ih =>
      intro h
      obtain ⟨g, hg, rfl⟩ := h k (by simp)
      obtain ⟨ms, rfl, hm⟩ := ih fun k hk => h k (by simp [hk])
      refine ⟨g :: ms, rfl, fun x hx => ?_⟩
      rcases List.mem_cons.mp hx with rfl | hx
      · exact hg
      · exact hm x hx
  obtain ⟨ms, e, hm⟩ := ex (sortK (gs.map gK)) fun k hk => by
    obtain ⟨g, hg, rfl⟩ := List.mem_map.mp ((mem k).mp hk)
    exact ⟨g, hg, rfl⟩
  refine ⟨ms, e, ?_, fun g => ⟨hm g, fun hg => ?_⟩⟩
  · rw [e, List.pairwise_map] at asc
    exact asc
  · have : gK g ∈ sortK (gs.map gK) := (mem _).mpr (List.mem_map.mpr ⟨g, hg, rfl⟩)
    rw [e] at this
    obtain ⟨x, hx, z⟩ := List.mem_map.mp this
    rw [← gK_inj z]
    exact hx
theorem nkd_rK (r : Rl) : (rK r).depth ≤ 2 := by simp [rK, NestedKey.depth, NestedKey.depthAll]
theorem nkd_bK (b : Bd) : b.k.depth ≤ 3 := by
  cases b <;> simp [Bd.k, rK, NestedKey.depth, NestedKey.depthAll]
theorem nkd_gK (g : Gr) : (gK g).depth ≤ 8 := by
  have h1 := nkd_rK g.1
  have h2 := nkd_bK g.2
  simp only [gK, NestedKey.depth, NestedKey.depthAll]
  omega
theorem sortset_gr {S : Sto} {x : D} {gs : List Gr} (hx : seqA S x = some (gs.map gD)) (hl : gs.length < 306) : ∃ ms : List Gr, dSortSet S [x] = some (.lst (ms.map gD)) ∧ ms.Pairwise gLt ∧ ∀ g, g ∈ ms ↔ g ∈ gs := by
  obtain ⟨ms, e, h1, h2⟩ := sortK_gr gs
  refine ⟨ms, ?_, h1, h2⟩
  simp only [dSortSet, hx]
  simp only [nkDs_map gD gK nkD_gD]
  rw [if_pos, e, dOfs_mapK gD gK dOf_gK]
  refine ⟨by rw [List.length_map]; exact hl, .inl fun k hk => ?_, fun k hk => ?_, fun k hk => ?_, fun a ha b hb => ?_⟩
  · obtain ⟨g, _, rfl⟩ := List.mem_map.mp hk
    exact ⟨_, _, rfl⟩
  · obtain ⟨g, _, rfl⟩ := List.mem_map.mp hk
    exact lay_gK g
  · obtain ⟨g, _, rfl⟩ := List.mem_map.mp hk
    exact ⟨by have := dep_gK g; omega, nkd_gK g⟩
  · obtain ⟨x, _, rfl⟩ := List.mem_map.mp ha
    obtain ⟨y, _, rfl⟩ := List.mem_map.mp hb
    exact cmp_gK x y
theorem asc_len_le {ms gs : List Gr} (h : ms.Pairwise gLt) (hs : ∀ g ∈ ms, g ∈ gs) : ms.length ≤ gs.length := by
  induction gs generalizing ms with
  | nil =>
    cases ms with
    | nil => exact Nat.le_refl _
    | cons a l => exact absurd (hs a (by simp)) (by simp)
  | cons g gs ih =>
    have nd : ms.Nodup := h.imp fun {a b} z e => by subst e; rw [gLt, ltK_irr] at z; cases z
    have h2 := ih (ms := ms.erase g) (h.sublist List.erase_sublist) fun x hx => by
      have h3 := (List.Nodup.mem_erase_iff nd).mp hx
      rcases List.mem_cons.mp (hs x h3.2) with z | z
      · exact absurd z h3.1
      · exact z
    by_cases e : g ∈ ms
    · rw [List.length_erase_of_mem e] at h2
      simp only [List.length_cons]
      omega
    · rw [List.erase_of_not_mem e] at h2
      simp only [List.length_cons]
      omega
/-- roles drawn into a list -/
theorem roles_at {n : Nat} {S : Sto} {i : Nat} {S1 : Sto} {o l m : Nat} {g : MG} {en : En} {e : ME} (h : At n S i S1) (hn : n + 2 * m ≤ 999990) (ho1 : 0 < o) (ho2 : o ≤ 1000000) (hl1 : 0 < l) (hl2 : l ≤ 1000000) (hm : m ≤ 1000)
    (hg : ∀ (a : Nat), ∃ en1, g (.int a) en = some en1 ∧ ∀ S, e en1 S = fn_law_role.run [.ref i, .int o, .int l] S) {Q : List D → Sto → Prop}
    (q : ∀ (rs : List Rl) (S2 : Sto), rs.length = m → (∀ r ∈ rs, Rl.ok o l r) → At (n + 2 * m) S i S2 → Q (rs.map rD) S2) : Wp (comp g tYesM e (fun _ => True) en ((List.range m).map fun k => D.int (k : Nat)) [] S1) Q := by
  have key : ∀ (l2 : List Nat) (acc : List Rl) (S1 : Sto), acc.length + l2.length = m → (∀ r ∈ acc, Rl.ok o l r) → At (n + 2 * acc.length) S i S1 → Wp (comp g tYesM e (fun _ => True) en (l2.map fun k => D.int (k : Nat)) (acc.map rD) S1) Q := by
    intro l2
    induction l2 with
    | nil =>
      intro acc S1 hl hr ha
      rw [List.map_nil, comp_nil_ap]
      simp only [List.length_nil, Nat.add_zero] at hl
      exact q acc S1 hl hr (by rw [← hl]; exact ha)
    | cons a l2 ih =>
      intro acc S1 hl hr ha
      obtain ⟨en1, e1, e2⟩ := hg a
      simp only [List.length_cons] at hl
      rw [List.map_cons, comp_cons_ap, e1, cK0_some, tYesM_ap]
      simp only [noex_ok, Res.bind_ok, cK1_t, e2]
      obtain ⟨d, S2, e3, r, rfl, ok, a2⟩ := (role_at ha (by omega) ho1 ho2 hl1 hl2).ok_of
      rw [e3]
      simp only [noex_ok, Res.bind_ok]
      rw [cK2_ap (by rw [List.length_map]; omega)]
      have := ih (acc ++ [r]) S2 (by simp; omega) (fun x hx => by
        rcases List.mem_append.mp hx with z | z
        · exact hr x z
        · rw [List.mem_singleton.mp z]; exact ok) (by simp only [List.length_append, List.length_singleton]; exact a2.mono (by omega))
      simpa using this
  exact key (List.range m) [] S1 (by simp) (fun r hr => by simp at hr) (by simpa using h)
def Gr.plain (g : Gr) : Prop := g.2.plain
theorem grants_at {n : Nat} {S : Sto} {i : Nat} {S1 : Sto} {o l m : Nat} {k : Bool} (h : At n S i S1) (hn : n ≤ 900000) (ho1 : 0 < o) (ho2 : o ≤ 1000) (hl1 : 0 < l) (hl2 : l ≤ 1000) (hm : m ≤ 300) :
    Wp (fn_law_grants.run [.ref i, .int o, .int l, .int m, .bl k] S1) fun d S2 => (∃ gs : List Gr, d = .tup (gs.map gD) ∧ gs.Pairwise gLt ∧ (∀ g ∈ gs, Gr.ok o l g) ∧ gs.length ≤ m ∧ (k = true → ∀ g ∈ gs, g.plain)) ∧ At (n + 6 + 9 * m) S i S2 := by
  have hi : i < S.length := h.1
  have hl1' := h.len
  unfold fn_law_grants ms_law_grants
  rw [dropF_run]
  refine drop_atR h (fun d hd k => ?_) ?_
  · obtain ⟨gs, rfl, _⟩ := hd
    simp only [D.bel, bels_g]
  walk_at "ev"
  rw [rangeD_map]
  refine roles_at (m := 3) h (by omega) ho1 (by omega) hl1 (by omega) (by omega) (fun a => ⟨_, rfl, fun S => by walk_at "ev"⟩) fun rs S2 hrs rok a2 => ?_
  have hm9 : m ≤ 1000000 := by omega
  have l2 := a2.len
  walk_at "evs"
  refine Wp_for (fun pre en S' => ∃ (x7 x8 : Option D) (S3 : Sto) (gs : List Gr), en = [some (.ref i), some (.int o), some (.int l), some (.int m), some (.bl k), some (.lst (rs.map rD)), some (.ref S.length), x7, x8] ∧ S' = S3 ++ [.lst (gs.map gD)] ∧
    At (n + 6 + 9 * pre.length) S i S3 ∧ gs.length = pre.length ∧ (∀ g ∈ gs, Gr.ok o l g) ∧ (k = true → ∀ g ∈ gs, g.plain)) ⟨_, _, S2, [], rfl, rfl, a2, rfl, fun g hg => (by simp at hg), fun _ g hg => (by simp at hg)⟩ ?_ ?_
  · rintro pre a suf en S' hl' ⟨x7, x8, S3, gs, rfl, rfl, a3, lg, gok, gpl⟩
    have hp : pre.length < m := by
      have := congrArg List.length hl'
      simp at this
      omega
    clear hl'
    refine ⟨_, rfl, ?_⟩
    walk_at "ev"
    have a4 := a3.app [.lst (gs.map gD)]
    refine (role_at a4 (by omega) ho1 (by omega) hl1 (by omega)).mono ?_
    rintro _ S4 ⟨r, rfl, rok2, a5⟩
    have add4 : dAdd S4 (.lst (rs.map rD)) (.lst [rD r]) = some (.lst ((rs ++ [r]).map rD)) := by
      rw [add_lst (by simp; omega)]
      simp
    try walk_at "ev"
    rw [add4]
    try walk_at "ev"
    refine (one_at (ds := (rs ++ [r]).map rD) a5 (by omega) (by simp) (by simp; omega) (fun d hd j => ?_)).mono ?_
    · obtain ⟨x, _, rfl⟩ := List.mem_map.mp hd
      exact bel_r j x
    rintro w S5 ⟨hw, a6⟩
    obtain ⟨hd, hhd, rfl⟩ := List.mem_map.mp hw
    have hok : Rl.ok o l hd := by
      rcases List.mem_append.mp hhd with z | z
      · exact rok hd z
      · rw [List.mem_singleton.mp z]; exact rok2
    obtain ⟨S6, rfl, a7⟩ := At.unapp hi a6
    try walk_at "ev"
    rw [getA a7.len]
    try walk_at "ev"
    refine (body_at (k := k) a6 (by omega) ho1 (by omega) hl1 (by omega)).mono ?_
    rintro _ S7 ⟨⟨b, rfl, bok, bpl⟩, a8⟩
    obtain ⟨S8, rfl, a9⟩ := At.unapp hi a8
    try walk_at "ev"
    have ll : (gs.map gD).length < 1000000 := by rw [List.length_map]; omega
    rw [getA a9.len]
    try walk_at "ev"
    rw [appO2_lst ll, setA a9.len]
    walk_at "ev"
    refine ⟨_, _, S8, gs ++ [(hd, b)], rfl, ?_, ?_, ?_, ?_, ?_⟩
    · simp [gD]
    · simp only [List.length_append, List.length_singleton]; exact a9.mono (by omega)
    · simp [lg]
    · intro g hg
      rcases List.mem_append.mp hg with z | z
      · exact gok g z
      · rw [List.mem_singleton.mp z]; exact ⟨hok, bok⟩
    · intro hk g hg
      rcases List.mem_append.mp hg with z | z
      · exact gpl hk g z
      · rw [List.mem_singleton.mp z]; exact bpl hk
  · rintro en S' ⟨x7, x8, S3, gs, rfl, rfl, a3, lg, gok, gpl⟩
    obtain ⟨ms, e1, e2, e3⟩ := sortset_gr (S := S3 ++ [.lst (gs.map gD)]) (x := .ref S.length) (gs := gs) (by unfold seqA; simp only [seqL, getA a3.len]; rfl) (by rw [lg, List.length_range]; omega)
    walk_at "ev"
    rw [e1]
    walk_at "ev"
    refine ⟨S3, _, rfl, ?_, ms, rfl, e2, fun g hg => gok g ((e3 g).mp hg), ?_, fun hk g hg => gpl hk g ((e3 g).mp hg)⟩
    · rw [List.length_range] at a3; exact a3
    · have := asc_len_le e2 fun g hg => (e3 g).mp hg
      rw [lg, List.length_range] at this
      exact this
end Q
end
section
set_option Elab.async false
set_option linter.all false
set_option maxRecDepth 100000
set_option maxHeartbeats 2000000
open PySem L2 G P
open Q
local macro_rules | `(tactic| walk_at "ev") => `(tactic| simp (config := { decide := false }) only [seval, G.evB0, G.evB1, G.evB2, G.evB3, G.evB4, G.evB5, List.getElem?_set_self, List.length_set, List.set_set, List.map_cons, List.map_nil, List.length_cons, List.length_nil, List.replicate, List.cons_append, List.nil_append, List.getElem?_cons_zero, List.getElem?_cons_succ, List.set_cons_zero, List.set_cons_succ, Option.map_some, Option.map_none, Option.bind_some, Bool.not_true, Bool.not_false, if_true, if_false, decide_true, decide_false, Bool.false_eq_true, true_and, and_true, false_and, and_false, List.foldl_cons, List.foldl_nil, List.all_cons, List.all_nil, id_eq, Bool.and_true, Bool.true_and, eq_self, Bool.or_true, Bool.true_or, Bool.or_false, Bool.false_or, G.isNon, G.startE, G.bls, G.wipeE, P.evN0, Q.evQ2_0, add_lst, add_tup, min_r, max_r])
local macro_rules | `(tactic| walk_at "evs") => `(tactic| simp (config := { decide := false }) only [seval, G.evB0, G.evB1, G.evB2, G.evB3, G.evB4, G.evB5, List.getElem?_set_self, List.length_set, List.set_set, List.map_cons, List.map_nil, List.length_cons, List.length_nil, List.replicate, List.cons_append, List.nil_append, List.getElem?_cons_zero, List.getElem?_cons_succ, List.set_cons_zero, List.set_cons_succ, Option.map_some, Option.map_none, Option.bind_some, Bool.not_true, Bool.not_false, if_true, if_false, decide_true, decide_false, Bool.false_eq_true, true_and, and_true, false_and, and_false, List.foldl_cons, List.foldl_nil, List.all_cons, List.all_nil, id_eq, Bool.and_true, Bool.true_and, eq_self, Bool.or_true, Bool.true_or, Bool.or_false, Bool.false_or, G.isNon, G.startE, G.bls, G.wipeE, P.evN0, Q.evQ2_0, add_lst, add_tup, min_r, max_r, *])

namespace Q
open PySem L2 G P
/-! ### a policy's parts, drawn -/
def partsD (o l : Nat) (gs : List Gr) : D := .tup [.int o, .int l, .tup (gs.map gD)]
theorem bel_parts (k o l : Nat) (gs : List Gr) : D.bel k (partsD o l gs) = True := by simp only [partsD, D.bel, D.bels, bels_g, and_self]
theorem parts_at {n : Nat} {S : Sto} {i : Nat} {S1 : Sto} {most : Nat} {k : Bool} (h : At n S i S1) (hn : n ≤ 800000) (h1 : 0 < most) (h2 : most ≤ 7) :
    Wp (fn_law_parts.run [.ref i, .int most, .bl k] S1) fun d S2 => (∃ (o l : Nat) (gs : List Gr), d = partsD o l gs ∧ PolOk o l gs ∧ o ≤ most ∧ gs.length ≤ 24 ∧ (k = true → ∀ g ∈ gs, g.plain)) ∧ At (n + 300) S i S2 := by
  unfold fn_law_parts ms_law_parts
  rw [dropF_run]
  refine drop_atR h (fun d hd k => ?_) ?_
  · obtain ⟨o, l, gs, rfl, _⟩ := hd
    exact bel_parts k o l gs
  walk_at "ev"
  refine (take_at h (by omega) h1 (by omega)).mono ?_
  rintro _ S2 ⟨a, rfl, ha, a2⟩
  try walk_at "ev"
  refine (take_at (many := 4) a2 (by omega) (by omega) (by omega)).mono ?_
  rintro _ S3 ⟨b, rfl, hb, a3⟩
  try walk_at "ev"
  refine (one_at a3 (by omega) (by simp) (by simp) (fun d hd k => ?_)).mono ?_
  · simp only [List.mem_cons, List.not_mem_nil, or_false] at hd
    rcases hd with rfl | rfl | rfl | rfl | rfl | rfl | rfl <;> simp [D.bel]
  rintro w S4 ⟨hw, a4⟩
  have hm : ∃ m : Nat, w = .int (m : Nat) ∧ m ≤ 24 := by
    simp only [List.mem_cons, List.not_mem_nil, or_false] at hw
    rcases hw with rfl | rfl | rfl | rfl | rfl | rfl | rfl
    · exact ⟨0, rfl, by omega⟩
    · exact ⟨2, rfl, by omega⟩
    · exact ⟨4, rfl, by omega⟩
    · exact ⟨6, rfl, by omega⟩
    · exact ⟨9, rfl, by omega⟩
    · exact ⟨14, rfl, by omega⟩
    · exact ⟨24, rfl, by omega⟩
  obtain ⟨m, rfl, hm⟩ := hm
  have e1 : (1 : Int) + (a : Int) = ((1 + a : Nat) : Int) := by omega
  have e2 : (1 : Int) + (b : Int) = ((1 + b : Nat) : Int) := by omega
  rw [e1, e2]
  try walk_at "ev"
  refine (grants_at (k := k) a4 (by omega) (by omega) (by omega) (by omega) (by omega) (by omega)).mono ?_
  rintro _ S5 ⟨⟨gs, rfl, g1, g2, g3, g4⟩, a5⟩
  try walk_at "ev"
  exact ⟨S5, [], (List.append_nil _).symm, a5.mono (by omega), 1 + a, 1 + b, gs, rfl, ⟨by omega, by omega, by omega, by omega, by omega, g2, g1⟩, by omega, by omega, g4⟩
/-! ### slices -/
theorem cut_lo (xs : List D) (k : Nat) : cutD xs (some (k : Int)) none = xs.drop k := by
  unfold cutD HT.sIx
  simp only []
  have e : ((k : Int) < 0) = False := by simp
  simp only [e, if_false]
  rw [List.take_of_length_le (by rw [List.length_drop]; omega)]
  by_cases h : k ≤ xs.length
  · congr 1
    omega
  · rw [List.drop_of_length_le (by omega), List.drop_of_length_le (by omega)]
theorem cut_hi (xs : List D) (k : Nat) : cutD xs none (some (k : Int)) = xs.take k := by
  unfold cutD HT.sIx
  have e : ((k : Int) < 0) = False := by simp
  simp only [e, if_false, List.drop_zero, Nat.sub_zero]
  by_cases h : k ≤ xs.length
  · congr 1
    omega
  · rw [List.take_of_length_le (by omega), List.take_of_length_le (by omega)]
/-! ### rings of grants -/
theorem ringed_at {n : Nat} {S : Sto} {i : Nat} {S1 : Sto} {o l : Nat} {gs : List Gr} (h : At n S i S1) (hn : n ≤ 800000) (hp : PolOk o l gs) (hg : gs.length ≤ 60) :
    Wp (fn_law_ringed.run [.ref i, partsD o l gs] S1) fun d S2 => (∃ (gs : List Gr), d = partsD o l gs ∧ PolOk o l gs ∧ gs.length ≤ 64) ∧ At (n + 20) S i S2 := by
  have := hp.o1
  have := hp.o7
  have := hp.l1
  have := hp.l4
  unfold fn_law_ringed ms_law_ringed
  rw [dropF_run]
  refine drop_atR h (fun d hd k => ?_) ?_
  · obtain ⟨gs, rfl, _⟩ := hd
    exact bel_parts k o l gs
  simp only [partsD]
  walk_at "ev"
  refine (take_at (many := 3) h (by omega) (by omega) (by omega)).mono ?_
  rintro _ S2 ⟨a, rfl, ha, a2⟩
  have e1 : (2 : Int) + (a : Int) = ((2 + a : Nat) : Int) := by omega
  rw [dAdd_int, e1]
  have h9 : 2 + a ≤ 1000000 := by omega
  walk_at "evs"
  refine roles_at (o := o) (l := l) (m := 2 + a) a2 (by omega) (by omega) (by omega) (by omega) (by omega) (by omega) (fun a => ⟨_, rfl, fun S => by walk_at "ev"⟩) fun rs S3 hrs rok a3 => ?_
  have c1 : cutD (rs.map rD) (some 1) none = (rs.drop 1).map rD := by rw [show (1 : Int) = ((1 : Nat) : Int) from rfl, cut_lo, List.map_drop]
  have c2 : cutD (rs.map rD) none (some 1) = (rs.take 1).map rD := by rw [show (1 : Int) = ((1 : Nat) : Int) from rfl, cut_hi, List.map_take]
  rw [c1, c2, add_lst (by simp; omega), ← List.map_append]
  walk_at "ev"
  rw [zip_mapD]
  have pairs : ∀ p ∈ rs.zip (rs.drop 1 ++ rs.take 1), Rl.ok o l p.1 ∧ Rl.ok o l p.2 := fun p hp => by
    obtain ⟨h1, h2⟩ := List.of_mem_zip (a := p.1) (b := p.2) hp
    refine ⟨rok _ h1, ?_⟩
    rcases List.mem_append.mp h2 with z | z
    · exact rok _ (List.mem_of_mem_drop z)
    · exact rok _ (List.mem_of_mem_take z)
  have lz : (rs.zip (rs.drop 1 ++ rs.take 1)).length ≤ 4 := by rw [List.length_zip]; omega
  rw [comp_all (f := fun p : Rl × Rl => gD (p.1, Bd.rol p.2)) _ (fun p hp => ⟨_, rfl, by walk_at "ev"; rfl⟩) (by omega)]
  walk_at "ev"
  generalize hz : rs.zip (rs.drop 1 ++ rs.take 1) = zs at pairs lz
  have em : (zs.map fun p : Rl × Rl => gD (p.1, Bd.rol p.2)) = (zs.map fun p : Rl × Rl => ((p.1, Bd.rol p.2) : Gr)).map gD := by rw [List.map_map]; rfl
  rw [em, add_tup (by simp; omega), ← List.map_append]
  obtain ⟨ms, e1, e2, e3⟩ := sortset_gr (S := S3) (x := .tup ((gs ++ zs.map fun p : Rl × Rl => ((p.1, Bd.rol p.2) : Gr)).map gD)) (gs := gs ++ zs.map fun p : Rl × Rl => ((p.1, Bd.rol p.2) : Gr)) rfl (by simp; omega)
  walk_at "ev"
  rw [e1]
  walk_at "ev"
  have lm : ms.length ≤ 64 := by
    have := asc_len_le e2 fun g hg => (e3 g).mp hg
    simp at this
    omega
  refine ⟨S3, [], (List.append_nil _).symm, a3.mono (by omega), ms, rfl, ⟨hp.o1, hp.o7, hp.l1, hp.l4, by omega, fun g hg => ?_, e2⟩, lm⟩
  rcases List.mem_append.mp ((e3 g).mp hg) with z | z
  · exact hp.ok g z
  · obtain ⟨p, hp', rfl⟩ := List.mem_map.mp z
    exact pairs p hp'
/-! ### the deck made -/
theorem deck_run {ns : List Int} {S : Sto} (hl : ns.length ≤ 63) : ∃ (c : List Int) (g : Int), fn_law_deck.run [.scr (ns.map .int)] S = .ok (.ref S.length) (S ++ [DkO c 0 g]) ∧ c ≠ [] := by
  have key : Wp (fn_law_deck.run [.scr (ns.map .int)] S) fun d S' => ∃ (c : List Int) (g : Int), d = .ref S.length ∧ S' = S ++ [DkO c 0 g] ∧ c ≠ [] := by
    unfold fn_law_deck ms_law_deck
    have c57 : cutD (ns.map D.int) none (some 57) = (ns.take 57).map D.int := by rw [show (57 : Int) = ((57 : Nat) : Int) from rfl, cut_hi, List.map_take]
    walk_at "ev"
    rw [c57]
    refine Wp_for (fun pre en S' => ∃ (g : Int) (x : Option D), en = [some (.scr (ns.map .int)), some (.int g), x] ∧ S' = S) ⟨_, _, rfl, rfl⟩ ?_ ?_
    · rintro pre a suf en S' hl' ⟨g, x, rfl, rfl⟩
      clear hl' c57
      refine ⟨_, rfl, ?_⟩
      have cp : CPow 10 18 := ⟨by decide, by decide, by decide⟩
      have p : dPow S' (.int 10) (.int 18) = some (.int 1000000000000000000) := by rw [dPow_int cp]; rfl
      have b83 : -(2 ^ 64) < (83 : Int) ∧ (83 : Int) < 2 ^ 64 := by decide
      by_cases hb : (1000000000000000000 : Int) ≤ (if a < 0 then -a else a)
      · have hb' : decide ((1000000000000000000 : Int) ≤ (if a < 0 then -a else a)) = true := decide_eq_true hb
        walk_at "ev"
        rw [p]
        walk_at "ev"
        rw [hb']
        walk_at "ev"
        exact ⟨_, _, rfl⟩
      · have hb' : decide ((1000000000000000000 : Int) ≤ (if a < 0 then -a else a)) = false := decide_eq_false hb
        walk_at "ev"
        rw [p]
        walk_at "ev"
        rw [hb']
        walk_at "ev"
        exact ⟨_, _, rfl⟩
    · rintro en S' ⟨g, x, rfl, rfl⟩
      walk_at "ev"
      rw [c57]
      try walk_at "ev"
      rw [add_lst (by simp; omega)]
      walk_at "ev"
      refine ⟨ns.take 57 ++ [(ns.length : Int) + 23], g, ?_, by simp⟩
      simp [DkO]
  obtain ⟨d, S', e, c, g, rfl, rfl, hc⟩ := key.ok_of
  exact ⟨c, g, e, hc⟩
end Q
end
section
set_option Elab.async false
set_option linter.all false
set_option maxRecDepth 100000
set_option maxHeartbeats 2000000
open PySem L2 G P
open Q

local macro_rules | `(tactic| walk_at "ev") => `(tactic| simp (config := { decide := false }) only [seval, G.evB0, G.evB1, G.evB2, G.evB3, G.evB4, G.evB5, List.getElem?_set_self, List.length_set, List.set_set, List.map_cons, List.map_nil, List.length_cons, List.length_nil, List.replicate, List.cons_append, List.nil_append, List.getElem?_cons_zero, List.getElem?_cons_succ, List.set_cons_zero, List.set_cons_succ, Option.map_some, Option.map_none, Option.bind_some, Bool.not_true, Bool.not_false, if_true, if_false, decide_true, decide_false, Bool.false_eq_true, true_and, and_true, false_and, and_false, List.foldl_cons, List.foldl_nil, List.all_cons, List.all_nil, id_eq, Bool.and_true, Bool.true_and, eq_self, Bool.or_true, Bool.true_or, Bool.or_false, Bool.false_or, G.isNon, G.startE, G.bls, G.wipeE, P.evN0, Q.evQ2_0])
local macro_rules | `(tactic| walk_at "evs") => `(tactic| simp (config := { decide := false }) only [seval, G.evB0, G.evB1, G.evB2, G.evB3, G.evB4, G.evB5, List.getElem?_set_self, List.length_set, List.set_set, List.map_cons, List.map_nil, List.length_cons, List.length_nil, List.replicate, List.cons_append, List.nil_append, List.getElem?_cons_zero, List.getElem?_cons_succ, List.set_cons_zero, List.set_cons_succ, Option.map_some, Option.map_none, Option.bind_some, Bool.not_true, Bool.not_false, if_true, if_false, decide_true, decide_false, Bool.false_eq_true, true_and, and_true, false_and, and_false, List.foldl_cons, List.foldl_nil, List.all_cons, List.all_nil, id_eq, Bool.and_true, Bool.true_and, eq_self, Bool.or_true, Bool.true_or, Bool.or_false, Bool.false_or, G.isNon, G.startE, G.bls, G.wipeE, P.evN0, Q.evQ2_0, *])
namespace Q
open PySem L2 G P
theorem Wp_seq {A B : MS} {en : En} {S : Sto} {Q : Fl → Sto → Prop} (R : En → Sto → Prop) (h : Wp (A en S) fun f S1 => ∃ en1, f = .nx en1 ∧ R en1 S1) (h2 : ∀ en1 S1, R en1 S1 → Wp (B en1 S1) Q) : Wp (sSeq A B en S) Q := by
  rw [sSeq_ap, Wp_bind]
  refine h.mono ?_
  rintro f S1 ⟨en1, rfl, r⟩
  exact h2 en1 S1 r
/-! ### repr of small data -/
structure Sm (w p : Nat) (d : D) : Prop where
  sm : smD d = true
  dp : dpD d ≤ p
  wd : wD d ≤ w
theorem Sm.mono {w p w' p' : Nat} {d : D} (h : Sm w p d) (h1 : w ≤ w') (h2 : p ≤ p') : Sm w' p' d := ⟨h.sm, Nat.le_trans h.dp h2, Nat.le_trans h.wd h1⟩
theorem Sm.int {n : Nat} (h : n ≤ 1000000) : Sm 64 0 (.int (n : Nat)) := ⟨by simp only [smD, Bool.and_eq_true, decide_eq_true_eq]; omega, by simp [dpD], by simp [wD]⟩
theorem sms {w p : Nat} : ∀ {ds : List D}, (∀ d ∈ ds, Sm w p d) → smDs ds = true ∧ dpDs ds ≤ p ∧ wDs ds ≤ ds.length * (w + 1)
  | [], _ => ⟨by simp [smDs], by simp [dpDs], by simp [wDs]⟩
  | d :: ds, h => by
    obtain ⟨a, b, c⟩ := h d (by simp)
    obtain ⟨a2, b2, c2⟩ := sms (ds := ds) fun x hx => h x (by simp [hx])
    refine ⟨by simp only [smDs, a, a2]; rfl, by simp only [dpDs]; omega, ?_⟩
    simp only [wDs, List.length_cons, Nat.succ_mul]
    omega
theorem Sm.tup {w p n : Nat} {ds : List D} (h : ∀ d ∈ ds, Sm w p d) (hn : ds.length ≤ n) : Sm (n * (w + 1)) (p + 1) (.tup ds) := by
  obtain ⟨a, b, c⟩ := sms h
  have := Nat.mul_le_mul_right (w + 1) hn
  exact ⟨by simp only [smD]; exact a, by simp only [dpD]; omega, by simp only [wD]; omega⟩
theorem Sm.lst {w p n : Nat} {ds : List D} (h : ∀ d ∈ ds, Sm w p d) (hn : ds.length ≤ n) : Sm (n * (w + 1)) (p + 1) (.lst ds) := by
  obtain ⟨a, b, c⟩ := sms h
  have := Nat.mul_le_mul_right (w + 1) hn
  exact ⟨by simp only [smD]; exact a, by simp only [dpD]; omega, by simp only [wD]; omega⟩
theorem Sm.repr {w p : Nat} {d : D} (h : Sm w p d) (h1 : w ≤ 1000000) (h2 : p ≤ 60) (hp : plainK d = true) : ∃ z, ∀ S, dRepr S [d] = some (.str z) := repr_sm h.sm (by have := h.dp; omega) (by have := h.wd; omega) hp
theorem sm_r {r : Rl} (h1 : r.1 ≤ 1000) (h2 : r.2 ≤ 1000) : Sm 200 1 (rD r) := (Sm.tup (w := 64) (p := 0) (n := 2) (fun d hd => by
  simp only [List.mem_cons, List.not_mem_nil, or_false] at hd
  rcases hd with rfl | rfl
  · exact Sm.int (by omega)
  · exact Sm.int (by omega)) (by simp)).mono (by decide) (by decide)
theorem sm_word {x : Str} (h : PyData.strOk x = true) (hl : x.length ≤ 60) : Sm 64 0 (.str x) := ⟨by simp only [smD]; exact h, by simp [dpD], by simp only [wD]; omega⟩
theorem len_o : (Str.ofString "owner").length ≤ 60 := by decide +kernel
theorem len_r' : (Str.ofString "role").length ≤ 60 := by decide +kernel
theorem len_t : (Str.ofString "through").length ≤ 60 := by decide +kernel
theorem len_b : (Str.ofString "both").length ≤ 60 := by decide +kernel
theorem sm_b {o l : Nat} {b : Bd} (h : b.ok o l) (ho : o ≤ 1000) (hl : l ≤ 1000) : Sm 700 2 b.d := by
  have r1 : ∀ {r : Rl}, Rl.ok o l r → Sm 200 1 (rD r) := fun {r} hr => sm_r (by have := hr.1; omega) (by have := hr.2; omega)
  cases b with
  | own c =>
    have : c < o := h
    refine (Sm.tup (w := 200) (p := 1) (n := 2) (fun d hd => ?_) (by simp)).mono (by decide) (by decide)
    simp only [List.mem_cons, List.not_mem_nil, or_false] at hd
    rcases hd with rfl | rfl
    · exact (sm_word ok_o len_o).mono (by decide) (by decide)
    · exact (Sm.int (by omega)).mono (by decide) (by decide)
  | rol r =>
    refine (Sm.tup (w := 200) (p := 1) (n := 2) (fun d hd => ?_) (by simp)).mono (by decide) (by decide)
    simp only [List.mem_cons, List.not_mem_nil, or_false] at hd
    rcases hd with rfl | rfl
    · exact (sm_word ok_r len_r').mono (by decide) (by decide)
    · exact r1 h
  | thr r m =>
    have : m < l := h.2
    refine (Sm.tup (w := 200) (p := 1) (n := 3) (fun d hd => ?_) (by simp)).mono (by decide) (by decide)
    simp only [List.mem_cons, List.not_mem_nil, or_false] at hd
    rcases hd with rfl | rfl | rfl
    · exact (sm_word ok_t len_t).mono (by decide) (by decide)
    · exact r1 h.1
    · exact (Sm.int (by omega)).mono (by decide) (by decide)
  | bot r s =>
    refine (Sm.tup (w := 200) (p := 1) (n := 3) (fun d hd => ?_) (by simp)).mono (by decide) (by decide)
    simp only [List.mem_cons, List.not_mem_nil, or_false] at hd
    rcases hd with rfl | rfl | rfl
    · exact (sm_word ok_b len_b).mono (by decide) (by decide)
    · exact r1 h.1
    · exact r1 h.2.1
theorem sm_g {o l : Nat} {g : Gr} (h : Gr.ok o l g) (ho : o ≤ 1000) (hl : l ≤ 1000) : Sm 1500 3 (gD g) := by
  refine (Sm.tup (w := 700) (p := 2) (n := 2) (fun d hd => ?_) (by simp)).mono (by decide) (by decide)
  simp only [List.mem_cons, List.not_mem_nil, or_false] at hd
  rcases hd with rfl | rfl
  · exact (sm_r (by have := h.1.1; omega) (by have := h.1.2; omega)).mono (by decide) (by decide)
  · exact sm_b h.2 ho hl
theorem sm_gs {o l : Nat} {gs : List Gr} (h : PolOk o l gs) : Sm 400000 4 (.tup (gs.map gD)) := by
  refine (Sm.tup (w := 1500) (p := 3) (n := 240) (fun d hd => ?_) (by rw [List.length_map]; exact h.len)).mono (by decide) (by decide)
  obtain ⟨g, hg, rfl⟩ := List.mem_map.mp hd
  exact sm_g (h.ok g hg) (by have := h.o7; omega) (by have := h.l4; omega)
theorem sm_rs {o l : Nat} {rs : List Rl} (h : ∀ r ∈ rs, Rl.ok o l r) (ho : o ≤ 1000) (hl : l ≤ 1000) (hn : rs.length ≤ 100) : Sm 25000 2 (.tup (rs.map rD)) := by
  refine (Sm.tup (w := 200) (p := 1) (n := 100) (fun d hd => ?_) (by rw [List.length_map]; exact hn)).mono (by decide) (by decide)
  obtain ⟨g, hg, rfl⟩ := List.mem_map.mp hd
  have := h g hg
  exact sm_r (by have := this.1; omega) (by have := this.2; omega)
theorem sm_tI {l : List Nat} (h : ∀ w ∈ l, w ≤ 1000) (hn : l.length ≤ 20) : Sm 1300 1 (tI l) := by
  refine (Sm.tup (w := 64) (p := 0) (n := 20) (fun d hd => ?_) (by rw [List.length_map]; exact hn)).mono (by decide) (by decide)
  obtain ⟨w, hw, rfl⟩ := List.mem_map.mp hd
  exact Sm.int (by have := h w hw; omega)
theorem sm_hs {o l : Nat} {gs : List Gr} (hg : ∀ g ∈ gs, Gr.ok o l g) (ho : o ≤ 8) (hl : l ≤ 4) {r : Rl} (hr : Rl.ok o l r) : Sm 1300 1 (tI (hs o l gs r)) :=
  sm_tI (fun w hw => by have := hs_lt hg ho hl hr hw; omega) (by have := hs_len hg ho hl hr; omega)
theorem sm_table {o l : Nat} {gs : List Gr} (hg : ∀ g ∈ gs, Gr.ok o l g) (ho : o ≤ 8) (hl : l ≤ 4) : Sm 42000 2 (tableD o l gs) := by
  unfold tableD
  have : o * l ≤ 8 * 4 := Nat.mul_le_mul ho hl
  refine (Sm.tup (w := 1300) (p := 1) (n := 32) (fun d hd => ?_) (by rw [List.length_map, roles_len]; omega)).mono (by decide) (by decide)
  obtain ⟨r, hr, rfl⟩ := List.mem_map.mp hd
  exact sm_hs hg ho hl (mem_roles.mp hr)
theorem sm_two {w p : Nat} {a b : D} (ha : Sm w p a) (hb : Sm w p b) : Sm (2 * (w + 1)) (p + 1) (.lst [a, b]) := Sm.lst (fun d hd => by
  simp only [List.mem_cons, List.not_mem_nil, or_false] at hd
  rcases hd with rfl | rfl
  · exact ha
  · exact hb) (by simp)
/-! ### the law's own rounds in a policy -/
theorem law_now_run {S : Sto} {o l : Nat} {gs : List Gr} (h : PolOk o l gs) : fn_law_now.run [partsD o l gs] S = .ok (kdD o l (lD (hs o l gs))) S := by
  have o8 : o ≤ 8 := by have := h.o7; omega
  have w0 : WayL o l gs T00 fun _ => [] := ⟨fun r _ => ⟨.nil, fun w hw => by simp at hw⟩, fun r _ w hw => (by simp at hw), fun r _ w hw => hw.elim⟩
  obtain ⟨g, hg, R⟩ := law_known_ex (S := S) (Grs.t gs) (BgL.emp S o l) w0 (fun r w h => h.elim) h.ok o8 h.l4
  have e : kdD o l (lD g) = kdD o l (lD (hs o l gs)) := by
    unfold kdD
    congr 1
    refine kd_congr fun r hr => ?_
    rw [lD_ap, lD_ap, hg.bits (hold_good h.ok o8 h.l4) hr]
    rfl
  rw [e] at R
  have B := fun n => bel_kdD (n := n) (o := o) (l := l) (v := lD (hs o l gs)) fun r => bel_lD _ _ r
  unfold partsD
  unfold fn_law_now ms_law_now
  walk_at "evs"
end Q
end
section
set_option Elab.async false
set_option linter.all false
set_option maxRecDepth 100000
set_option maxHeartbeats 2000000
open PySem L2 G P
open Q
local macro_rules | `(tactic| walk_at "ev") => `(tactic| simp (config := { decide := false }) only [seval, G.evB0, G.evB1, G.evB2, G.evB3, G.evB4, G.evB5, List.getElem?_set_self, List.length_set, List.set_set, List.map_cons, List.map_nil, List.length_cons, List.length_nil, List.replicate, List.cons_append, List.nil_append, List.getElem?_cons_zero, List.getElem?_cons_succ, List.set_cons_zero, List.set_cons_succ, Option.map_some, Option.map_none, Option.bind_some, Bool.not_true, Bool.not_false, if_true, if_false, decide_true, decide_false, Bool.false_eq_true, true_and, and_true, false_and, and_false, List.foldl_cons, List.foldl_nil, List.all_cons, List.all_nil, id_eq, Bool.and_true, Bool.true_and, eq_self, Bool.or_true, Bool.true_or, Bool.or_false, Bool.false_or, G.isNon, G.startE, G.bls, G.wipeE, P.evN0, Q.evQ2_0])
local macro_rules | `(tactic| walk_at "evs") => `(tactic| simp (config := { decide := false }) only [seval, G.evB0, G.evB1, G.evB2, G.evB3, G.evB4, G.evB5, List.getElem?_set_self, List.length_set, List.set_set, List.map_cons, List.map_nil, List.length_cons, List.length_nil, List.replicate, List.cons_append, List.nil_append, List.getElem?_cons_zero, List.getElem?_cons_succ, List.set_cons_zero, List.set_cons_succ, Option.map_some, Option.map_none, Option.bind_some, Bool.not_true, Bool.not_false, if_true, if_false, decide_true, decide_false, Bool.false_eq_true, true_and, and_true, false_and, and_false, List.foldl_cons, List.foldl_nil, List.all_cons, List.all_nil, id_eq, Bool.and_true, Bool.true_and, eq_self, Bool.or_true, Bool.true_or, Bool.or_false, Bool.false_or, G.isNon, G.startE, G.bls, G.wipeE, P.evN0, Q.evQ2_0, *])
namespace Q
open PySem L2 G P
theorem dTuple_lI (S : Sto) (l : List Nat) : dTuple S [lI l] = some (tI l) := dTuple_lst _ _
theorem make_parts {S : Sto} {o l : Nat} {gs : List Gr} (h : PolOk o l gs) : makeK 0 fn_Policy_init [.int o, .int l, .tup (gs.map gD)] S = .ok (polD o l gs) S := make_pol h
theorem ix_p0 (S : Sto) (o l : Nat) (gs : List Gr) : dIdxA S (partsD o l gs) (.int 0) = some (.int o) := by unfold partsD; rw [dIdxA_tup, atI_0]
theorem ix_p1 (S : Sto) (o l : Nat) (gs : List Gr) : dIdxA S (partsD o l gs) (.int 1) = some (.int l) := by unfold partsD; rw [dIdxA_tup, atI_1]
theorem ix_p2 (S : Sto) (o l : Nat) (gs : List Gr) : dIdxA S (partsD o l gs) (.int 2) = some (.tup (gs.map gD)) := by unfold partsD; rw [dIdxA_tup, atI_2]
end Q
end
section
set_option Elab.async false
set_option linter.all false
set_option maxRecDepth 100000
set_option maxHeartbeats 2000000
open PySem L2 G P
open Q
local macro_rules | `(tactic| walk_at "ev") => `(tactic| simp (config := { decide := false }) only [seval, G.evB0, G.evB1, G.evB2, G.evB3, G.evB4, G.evB5, List.getElem?_set_self, List.length_set, List.set_set, List.map_cons, List.map_nil, List.length_cons, List.length_nil, List.replicate, List.cons_append, List.nil_append, List.getElem?_cons_zero, List.getElem?_cons_succ, List.set_cons_zero, List.set_cons_succ, Option.map_some, Option.map_none, Option.bind_some, Bool.not_true, Bool.not_false, if_true, if_false, decide_true, decide_false, Bool.false_eq_true, true_and, and_true, false_and, and_false, List.foldl_cons, List.foldl_nil, List.all_cons, List.all_nil, id_eq, Bool.and_true, Bool.true_and, eq_self, Bool.or_true, Bool.true_or, Bool.or_false, Bool.false_or, G.isNon, G.startE, G.bls, G.wipeE, P.evN0, Q.evQ2_0, in_lI, nin_lI, lD_ap, bel_pol, prop_owners, prop_labels, prop_grants, dTuple_lI, ix_p0, ix_p1, ix_p2])
local macro_rules | `(tactic| walk_at "evs") => `(tactic| simp (config := { decide := false }) only [seval, G.evB0, G.evB1, G.evB2, G.evB3, G.evB4, G.evB5, List.getElem?_set_self, List.length_set, List.set_set, List.map_cons, List.map_nil, List.length_cons, List.length_nil, List.replicate, List.cons_append, List.nil_append, List.getElem?_cons_zero, List.getElem?_cons_succ, List.set_cons_zero, List.set_cons_succ, Option.map_some, Option.map_none, Option.bind_some, Bool.not_true, Bool.not_false, if_true, if_false, decide_true, decide_false, Bool.false_eq_true, true_and, and_true, false_and, and_false, List.foldl_cons, List.foldl_nil, List.all_cons, List.all_nil, id_eq, Bool.and_true, Bool.true_and, eq_self, Bool.or_true, Bool.true_or, Bool.or_false, Bool.false_or, G.isNon, G.startE, G.bls, G.wipeE, P.evN0, Q.evQ2_0, in_lI, nin_lI, lD_ap, bel_pol, prop_owners, prop_labels, prop_grants, dTuple_lI, ix_p0, ix_p1, ix_p2, *])
namespace Q
open PySem L2 G P

theorem k04_turn {S0 S : Sto} {n o l : Nat} {gs : List Gr} {scr : D} {t x4 x5 x6 x7 x8 x9 : Option D} (hp : PolOk o l gs) {Q : Fl → Sto → Prop} (q : ∀ x4 x5 x6 x7 x8 x9, Q (.nx [some scr, some (.ref 0), t, some (partsD o l gs), x4, x5, x6, x7, x8, x9]) S) :
    Wp ((sSeq (sAsg (mTup (aCons (mMake 0 fn_Policy_init (aCons (mOp dIdxA (mVar 3) (mC (.int 0))) (aCons (mOp dIdxA (mVar 3) (mC (.int 1))) (aCons (mOp dIdxA (mVar 3) (mC (.int 2))) aNil)))) (aCons (mCall fn_law_now (aCons (mVar 3) aNil)) aNil))) (gT 2 (gsCons (gN 4) (gsCons (gN 5) gsNil))))
    (sSeq (sAsg (mCB dTuple (aCons (mLc (iSeq (mCall fn_law_all_roles (aCons (mOp dIdxA (mVar 3) (mC (.int 0))) (aCons (mOp dIdxA (mVar 3) (mC (.int 1))) aNil)))) (gN 7) tYesM (mCB dTuple (aCons (mOp dIdxA (mVar 5) (mVar 7)) aNil)) [7]) aNil)) (gN 6))
    (sSeq (sIf (mTest (mOp dNe (mCB dRepr (aCons (mLst (aCons (mCall fn_table (aCons (mVar 4) aNil)) (aCons (mCall fn_table (aCons (mVar 4) aNil)) aNil))) aNil)) (mCB dRepr (aCons (mLst (aCons (mVar 6) (aCons (mVar 6) aNil))) aNil)))) (sRet (mC (.bl false))) sNil)
    (sSeq (sFor (iSeq (mCall fn_law_all_roles (aCons (mOp dIdxA (mVar 3) (mC (.int 0))) (aCons (mOp dIdxA (mVar 3) (mC (.int 1))) aNil)))) (gN 7)
    (sIf (mTest (mOp dNe (mCB dRepr (aCons (mCall fn_holders (aCons (mVar 4) (aCons (mVar 7) aNil))) aNil)) (mCB dRepr (aCons (mCB dTuple (aCons (mOp dIdxA (mVar 5) (mVar 7)) aNil)) aNil)))) (sRet (mC (.bl false))) sNil))
    (sSeq (sFor (iRg1 (aCons (mOp dIdxA (mVar 3) (mC (.int 0))) aNil)) (gN 8)
    (sSeq (sAsg (mCB dTuple (aCons (mLc (iSeq (mCall fn_law_all_roles (aCons (mOp dIdxA (mVar 3) (mC (.int 0))) (aCons (mOp dIdxA (mVar 3) (mC (.int 1))) aNil)))) (gN 7) (mTest (mOp dIn (mVar 8) (mOp dIdxA (mVar 5) (mVar 7)))) (mVar 7) [7]) aNil)) (gN 9))
    (sIf (mTest (mOp dNe (mCB dRepr (aCons (mCall fn_held (aCons (mVar 4) (aCons (mVar 8) aNil))) aNil)) (mCB dRepr (aCons (mVar 9) aNil)))) (sRet (mC (.bl false))) sNil)))
    (sIf (mTest (mOp dNe (mCB dRepr (aCons (mProp 0 fn_Policy_grants (mVar 4)) aNil)) (mCB dRepr (aCons (mOp dIdxA (mVar 3) (mC (.int 2))) aNil)))) (sRet (mC (.bl false))) sNil))))))
      [some scr, some (.ref 0), t, some (partsD o l gs), x4, x5, x6, x7, x8, x9] S) Q := by
  have o8 : o ≤ 8 := by have := hp.o7; omega
  have l4 := hp.l4
  have hol : o * l ≤ 8 * 4 := Nat.mul_le_mul o8 l4
  have o9 : o ≤ 1000000 := by omega
  have AR := @law_all_roles_run S o l (by omega) (by omega)
  have K := fun r (hr : Rl.ok o l r) => (KdAt.d S o l (lD (hs o l gs))).ix hr
  refine Wp_seq (fun en1 S1 => en1 = [some scr, some (.ref 0), t, some (partsD o l gs), some (polD o l gs), some (kdD o l (lD (hs o l gs))), x6, x7, x8, x9] ∧ S1 = S) ?_ ?_
  · have M := make_parts (S := S) hp
    have N := law_now_run (S := S) hp
    walk_at "evs"
    exact ⟨_, rfl, rfl⟩
  rintro _ S ⟨rfl, rfl⟩
  refine Wp_seq (fun en1 S1 => en1 = [some scr, some (.ref 0), t, some (partsD o l gs), some (polD o l gs), some (kdD o l (lD (hs o l gs))), some (tableD o l gs), x7, x8, x9] ∧ S1 = S) ?_ ?_
  · walk_at "evs"
    rw [comp_all (f := fun r => tI (hs o l gs r)) (roles o l) (fun r hr => ⟨_, rfl, ?_⟩) (by rw [roles_len]; omega)]
    · walk_at "ev"
      exact ⟨_, rfl, rfl⟩
    · have k := K r (mem_roles.mp hr)
      walk_at "evs"
  rintro _ S ⟨rfl, rfl⟩
  refine Wp_seq (fun en1 S1 => en1 = [some scr, some (.ref 0), t, some (partsD o l gs), some (polD o l gs), some (kdD o l (lD (hs o l gs))), some (tableD o l gs), x7, x8, x9] ∧ S1 = S) ?_ ?_
  · have T := table_run (S := S) hp
    obtain ⟨z, hz⟩ := (sm_two (sm_table hp.ok o8 l4) (sm_table hp.ok o8 l4)).repr (by decide) (by decide) rfl
    walk_at "evs"
    exact ⟨_, rfl, rfl⟩
  rintro _ S ⟨rfl, rfl⟩
  refine Wp_seq (fun en1 S1 => ∃ x7, en1 = [some scr, some (.ref 0), t, some (partsD o l gs), some (polD o l gs), some (kdD o l (lD (hs o l gs))), some (tableD o l gs), x7, x8, x9] ∧ S1 = S) ?_ ?_
  · walk_at "evs"
    refine Wp_for (fun pre en S1 => ∃ x7, en = [some scr, some (.ref 0), t, some (partsD o l gs), some (polD o l gs), some (kdD o l (lD (hs o l gs))), some (tableD o l gs), x7, x8, x9] ∧ S1 = S) ⟨_, rfl, rfl⟩ ?_ ?_
    · rintro pre r suf en S1 hl' ⟨x7, rfl, rfl⟩
      have ok : Rl.ok o l r := mem_roles.mp (by rw [hl']; simp)
      clear hl' AR
      have k := K r ok
      have H := holders_run (S := S1) hp ok
      obtain ⟨z, hz⟩ := (sm_hs hp.ok o8 l4 ok).repr (by decide) (by decide) rfl
      refine ⟨_, rfl, ?_⟩
      walk_at "evs"
      exact ⟨_, rfl⟩
    · rintro en S1 ⟨x7, rfl, rfl⟩
      exact ⟨_, rfl, _, rfl, rfl⟩
  rintro _ S ⟨x7, rfl, rfl⟩
  refine Wp_seq (fun en1 S1 => ∃ x8 x9, en1 = [some scr, some (.ref 0), t, some (partsD o l gs), some (polD o l gs), some (kdD o l (lD (hs o l gs))), some (tableD o l gs), x7, x8, x9] ∧ S1 = S) ?_ ?_
  · walk_at "evs"
    refine Wp_for (fun pre en S1 => ∃ x8 x9, en = [some scr, some (.ref 0), t, some (partsD o l gs), some (polD o l gs), some (kdD o l (lD (hs o l gs))), some (tableD o l gs), x7, x8, x9] ∧ S1 = S) ⟨_, _, rfl, rfl⟩ ?_ ?_
    · rintro pre w suf en S1 hl' ⟨x8, x9, rfl, rfl⟩
      clear hl'
      have H := held_run (S := S1) hp (w := w)
      obtain ⟨z, hz⟩ := (sm_rs (o := o) (l := l) (rs := (roles o l).filter fun r => decide (w ∈ hs o l gs r)) (fun r hr => mem_roles.mp (List.mem_filter.mp hr).1) (by omega) (by omega) (by have := List.length_filter_le (fun r => decide (w ∈ hs o l gs r)) (roles o l); rw [roles_len] at this; omega)).repr (by decide) (by decide) rfl
      refine ⟨_, rfl, ?_⟩
      walk_at "evs"
      rw [comp_map (f := rD) (p := fun r => decide (w ∈ hs o l gs r)) (roles o l) [] (fun r hr => ⟨_, rfl, ?_, fun _ => rfl⟩) (by rw [roles_len]; simp; omega)]
      · walk_at "evs"
        exact ⟨_, _, rfl⟩
      · have k := K r (mem_roles.mp hr)
        walk_at "evs"
    · rintro en S1 ⟨x8, x9, rfl, rfl⟩
      exact ⟨_, rfl, _, _, rfl, rfl⟩
  rintro _ S ⟨x8, x9, rfl, rfl⟩
  obtain ⟨z, hz⟩ := (sm_gs hp).repr (by decide) (by decide) rfl
  walk_at "evs"
theorem k04_main (ns : List Int) (hl : ns.length ≤ 63) : ∃ S, fn_law_k04.run [.scr (ns.map .int)] [] = .ok (.bl true) S := by
  obtain ⟨c, g, D, hc⟩ := deck_run (ns := ns) (S := []) hl
  have key : Wp (fn_law_k04.run [.scr (ns.map .int)] []) fun d _ => d = .bl true := by
    unfold fn_law_k04 ms_law_k04
    walk_at "evs"
    rw [rangeD_map]
    refine Wp_for (fun pre en S' => ∃ t x3 x4 x5 x6 x7 x8 x9, en = [some (.scr (ns.map .int)), some (.ref 0), t, x3, x4, x5, x6, x7, x8, x9] ∧ At (1000 * pre.length) [DkO c 0 g] 0 S') ⟨_, _, _, _, _, _, _, _, rfl, At.of rfl hc (Int.le_refl _) (by simp)⟩ ?_ ?_
    · rintro pre a suf en S' hl' ⟨t, x3, x4, x5, x6, x7, x8, x9, rfl, ha⟩
      have hp10 : pre.length < 10 := by
        have := congrArg List.length hl'
        simp at this
        omega
      clear hl' D
      refine ⟨_, rfl, ?_⟩
      refine Wp_seq (fun en1 S1 => ∃ o l gs, en1 = [some (.scr (ns.map .int)), some (.ref 0), some (.int a), some (partsD o l gs), x4, x5, x6, x7, x8, x9] ∧ PolOk o l gs ∧ gs.length ≤ 24 ∧ At (1000 * pre.length + 300) [DkO c 0 g] 0 S1) ?_ ?_
      · walk_at "ev"
        refine (parts_at (most := 7) (k := false) ha (by omega) (by decide) (by decide)).mono ?_
        rintro _ S1 ⟨⟨o, l, gs, rfl, hp, _, lg, _⟩, a1⟩
        try walk_at "ev"
        exact ⟨_, rfl, o, l, gs, rfl, hp, lg, a1⟩
      rintro _ S1 ⟨o, l, gs, rfl, hp, lg, a1⟩
      refine Wp_seq (fun en1 S1 => ∃ gs, en1 = [some (.scr (ns.map .int)), some (.ref 0), some (.int a), some (partsD o l gs), x4, x5, x6, x7, x8, x9] ∧ PolOk o l gs ∧ At (1000 * pre.length + 400) [DkO c 0 g] 0 S1) ?_ ?_
      · walk_at "ev"
        refine (take_at (many := 3) a1 (by omega) (by decide) (by decide)).mono ?_
        rintro _ S2 ⟨r, rfl, hr, a2⟩
        by_cases h0 : r = 0
        · subst h0
          walk_at "ev"
          refine (ringed_at a2 (by omega) hp (by omega)).mono ?_
          rintro _ S3 ⟨⟨gs', rfl, hp', _⟩, a3⟩
          try walk_at "ev"
          exact ⟨_, rfl, gs', rfl, hp', a3.mono (by omega)⟩
        · have h0' : decide ((r : Int) = 0) = false := decide_eq_false (by omega)
          walk_at "evs"
          exact ⟨_, rfl, gs, rfl, hp, a2.mono (by omega)⟩
      rintro _ S2 ⟨gs', rfl, hp', a2⟩
      refine k04_turn (S0 := []) (n := 0) hp' fun x4 x5 x6 x7 x8 x9 => ?_
      exact ⟨_, _, _, _, _, _, _, _, rfl, a2.mono (by simp; omega)⟩
    · rintro en S' ⟨t, x3, x4, x5, x6, x7, x8, x9, rfl, ha⟩
      walk_at "ev"
  obtain ⟨d, S, e, rfl⟩ := key.ok_of
  exact ⟨S, e⟩
end Q
end
section
set_option Elab.async false
set_option linter.all false
set_option maxRecDepth 100000
set_option maxHeartbeats 0
namespace T04
open PySem L2 G P
section
variable {P : Program} {w : World} {K : PySem.W.Frag} {mg : Str → Option Value} {base : Heap} {cl fc : Nat → Addr}
abbrev N_BadPolicy_init : List Str := ["self", "number", "word"]
theorem sc_BadPolicy_init : FnScope N_BadPolicy_init ["self", "number", "word"] (defScope s_BadPolicy_init) := ⟨rfl, rfl, rfl, by decide +kernel, rfl, by decide +kernel, by decide +kernel⟩
theorem ok_BadPolicy_init {C f : Addr} {fd : FuncData} (F : Fun K "__init__" "BadPolicy.__init__" s_BadPolicy_init f fd) (T : OexC K C) (hn0 : PySem.W.findIn K (.ref C) "number" = some none) (hn1 : PySem.W.findIn K (.ref C) "word" = some none) : FnOk P w K mg base (L2.CX P w) 1 f fd ["self", "number", "word"] (spI2 C "number" "word") := by
  exact init2_ok F sc_BadPolicy_init rfl T hn0 hn1 (by decide) fun cdv A outer s H E => (pss_cons (ps_ost (pv 0) (pv 1)) (pss_one (ps_ost (pv 0) (pv 2))))
abbrev N_is_integer : List Str := ["value", "low", "high"]
theorem sc_is_integer : FnScope N_is_integer ["value", "low", "high"] (defScope s_is_integer) := ⟨rfl, rfl, rfl, by decide +kernel, rfl, by decide +kernel, by decide +kernel⟩
theorem ok_is_integer {f : Addr} {fd : FuncData} (F : Fun K "is_integer" "is_integer" s_is_integer f fd) (b_bool : mg "bool" = none) (b_int : mg "int" = none) (b_isinstance : mg "isinstance" = none) :
    FnOk P w K mg base (L2.CX P w) 1 f fd ["value", "low", "high"] (spF ⟨K, cl, fc⟩ fn_is_integer) := by
  refine fn_drop (fn_ok (N := N_is_integer) (ms := ms_is_integer) F sc_is_integer rfl fun cdv A outer s H E hr => ?_)
  exact (ds_one (ds_ret (de_and (de_callB call_isi opn_isi b_isinstance (by decide +kernel) (da_cons (de_var (pv 0)) (da_cons (de_ty b_int (by decide +kernel)) da_nil))) (de_and (de_not (de_callB call_isi opn_isi b_isinstance (by decide +kernel) (da_cons (de_var (pv 0)) (da_cons (de_ty b_bool (by decide +kernel)) da_nil)))) (de_one (de_chain (op_leP (hu64 hr)) op2_le (op_leP (hu64 hr)) op2_le (de_var (pv 1)) (de_var (pv 0)) (de_var (pv 2))))))))
abbrev N_is_role : List Str := ["owners", "labels", "value"]
theorem sc_is_role : FnScope N_is_role ["owners", "labels", "value"] (defScope s_is_role) := ⟨rfl, rfl, rfl, by decide +kernel, rfl, by decide +kernel, by decide +kernel⟩
theorem ok_is_role {f : Addr} {fd : FuncData} (F : Fun K "is_role" "is_role" s_is_role f fd) (b_isinstance : mg "isinstance" = none) (b_len : mg "len" = none) (b_tuple : mg "tuple" = none) (c_is_integer : Cal P w K mg base ⟨K, cl, fc⟩ "is_integer" 1 fn_is_integer) :
    FnOk P w K mg base (L2.CX P w) 2 f fd ["owners", "labels", "value"] (spF ⟨K, cl, fc⟩ fn_is_role) := by
  refine fn_drop (fn_ok (N := N_is_role) (ms := ms_is_role) F sc_is_role rfl fun cdv A outer s H E hr => ?_)
  exact (ds_cons wi_E (ds_if (PW.pt (dw_or (dt_not (dt_val (de_callB call_isi opn_isi b_isinstance (by decide +kernel) (da_cons (de_var (pv 2)) (da_cons (de_ty b_tuple (by decide +kernel)) da_nil))))) (dw_or1 (dt_cmp (op_neU (hu64 hr)) op2_ne (de_callB call_lenU opn_len b_len PySem.boot_len (da_cons (de_var (pv 2)) da_nil)) de_int (nomark _))))) (ds_one (ds_ret de_bl)) ds_nil)
    (ds_one (ds_ret (de_and (de_fn c_is_integer hr (by decide) (takes_of rfl rfl rfl rfl) (da_cons (de_idx (ix_all (hu1 hr)) op2_idxA (de_var (pv 2)) de_int) (da_cons de_int (da_cons (de_op op_sub op2_sub (de_var (pv 0)) de_int) da_nil)))) (de_one (de_fn c_is_integer hr (by decide) (takes_of rfl rfl rfl rfl) (da_cons (de_idx (ix_all (hu1 hr)) op2_idxA (de_var (pv 2)) de_int) (da_cons de_int (da_cons (de_op op_sub op2_sub (de_var (pv 1)) de_int) da_nil)))))))))
abbrev N_is_word : List Str := ["value", "words"]
theorem sc_is_word : FnScope N_is_word ["value", "words"] (defScope s_is_word) := ⟨rfl, rfl, rfl, by decide +kernel, rfl, by decide +kernel, by decide +kernel⟩
theorem ok_is_word {f : Addr} {fd : FuncData} (F : Fun K "is_word" "is_word" s_is_word f fd) (b_isinstance : mg "isinstance" = none) (b_str : mg "str" = none) :
    FnOk P w K mg base (L2.CX P w) 1 f fd ["value", "words"] (spF ⟨K, cl, fc⟩ fn_is_word) := by
  refine fn_drop (fn_ok (N := N_is_word) (ms := ms_is_word) F sc_is_word rfl fun cdv A outer s H E hr => ?_)
  exact (ds_one (ds_ret (de_and (de_callB call_isi opn_isi b_isinstance (by decide +kernel) (da_cons (de_var (pv 0)) (da_cons (de_ty b_str (by decide +kernel)) da_nil))) (de_one (de_cmp (op_inU (hu65 hr)) op2_in (de_var (pv 0)) (de_var (pv 1)) (by rfl))))))
abbrev N_is_body : List Str := ["owners", "labels", "value"]
theorem sc_is_body : FnScope N_is_body ["owners", "labels", "value"] (defScope s_is_body) := ⟨rfl, rfl, rfl, by decide +kernel, rfl, by decide +kernel, by decide +kernel⟩
theorem ok_is_body {f : Addr} {fd : FuncData} (F : Fun K "is_body" "is_body" s_is_body f fd) (b_isinstance : mg "isinstance" = none) (b_len : mg "len" = none) (b_tuple : mg "tuple" = none) (c_is_integer : Cal P w K mg base ⟨K, cl, fc⟩ "is_integer" 1 fn_is_integer) (c_is_role : Cal P w K mg base ⟨K, cl, fc⟩ "is_role" 2 fn_is_role) (c_is_word : Cal P w K mg base ⟨K, cl, fc⟩ "is_word" 1 fn_is_word) :
    FnOk P w K mg base (L2.CX P w) 3 f fd ["owners", "labels", "value"] (spF ⟨K, cl, fc⟩ fn_is_body) := by
  refine fn_drop (fn_ok (N := N_is_body) (ms := ms_is_body) F sc_is_body rfl fun cdv A outer s H E hr => ?_)
  exact (ds_cons wi_E (ds_if (PW.pt (dw_or (dt_not (dt_val (de_callB call_isi opn_isi b_isinstance (by decide +kernel) (da_cons (de_var (pv 2)) (da_cons (de_ty b_tuple (by decide +kernel)) da_nil))))) (dw_or (dt_cmp (op_ltP (hu64 hr)) op2_lt (de_callB call_lenU opn_len b_len PySem.boot_len (da_cons (de_var (pv 2)) da_nil)) de_int (nomark _)) (dw_or1 (dt_not (dt_val (de_fn c_is_word hr (by decide) (takes_of rfl rfl rfl rfl) (da_cons (de_idx (ix_all (hu1 hr)) op2_idxA (de_var (pv 2)) de_int) (da_cons (de_tup (da_cons de_str (da_cons de_str (da_cons de_str (da_cons de_str da_nil))))) da_nil))))))))) (ds_one (ds_ret de_bl)) ds_nil)
    (ds_cons wi_E (ds_if (dt_cmp (op_neU (hu64 hr)) op2_ne (de_callB call_lenU opn_len b_len PySem.boot_len (da_cons (de_var (pv 2)) da_nil)) (de_if (dt_cmp (op_inU (hu65 hr)) op2_in (de_idx (ix_all (hu1 hr)) op2_idxA (de_var (pv 2)) de_int) (de_tup (da_cons de_str (da_cons de_str da_nil))) (by rfl)) de_int de_int) (nomark _)) (ds_one (ds_ret de_bl)) ds_nil)
    (ds_cons wi_E (ds_if (dt_cmp (op_eqU (hu64 hr)) op2_eq (de_idx (ix_all (hu1 hr)) op2_idxA (de_var (pv 2)) de_int) de_str (nomark _)) (ds_one (ds_ret (de_fn c_is_integer hr (by decide) (takes_of rfl rfl rfl rfl) (da_cons (de_idx (ix_all (hu1 hr)) op2_idxA (de_var (pv 2)) de_int) (da_cons de_int (da_cons (de_op op_sub op2_sub (de_var (pv 0)) de_int) da_nil)))))) ds_nil)
    (ds_cons wi_E (ds_if (dt_not (dt_val (de_fn c_is_role hr (by decide) (takes_of rfl rfl rfl rfl) (da_cons (de_var (pv 0)) (da_cons (de_var (pv 1)) (da_cons (de_idx (ix_all (hu1 hr)) op2_idxA (de_var (pv 2)) de_int) da_nil)))))) (ds_one (ds_ret de_bl)) ds_nil)
    (ds_cons wi_E (ds_if (dt_cmp (op_eqU (hu64 hr)) op2_eq (de_idx (ix_all (hu1 hr)) op2_idxA (de_var (pv 2)) de_int) de_str (nomark _)) (ds_one (ds_ret (de_fn c_is_integer hr (by decide) (takes_of rfl rfl rfl rfl) (da_cons (de_idx (ix_all (hu1 hr)) op2_idxA (de_var (pv 2)) de_int) (da_cons de_int (da_cons (de_op op_sub op2_sub (de_var (pv 1)) de_int) da_nil)))))) ds_nil)
    (ds_one (ds_ret (de_or (de_cmp (op_eqU (hu64 hr)) op2_eq (de_idx (ix_all (hu1 hr)) op2_idxA (de_var (pv 2)) de_int) de_str (nomark _)) (de_one (de_and (de_fn c_is_role hr (by decide) (takes_of rfl rfl rfl rfl) (da_cons (de_var (pv 0)) (da_cons (de_var (pv 1)) (da_cons (de_idx (ix_all (hu1 hr)) op2_idxA (de_var (pv 2)) de_int) da_nil)))) (de_one (de_cmp (op_ltP (hu64 hr)) op2_lt (de_idx (ix_all (hu1 hr)) op2_idxA (de_var (pv 2)) de_int) (de_idx (ix_all (hu1 hr)) op2_idxA (de_var (pv 2)) de_int) (nomark _)))))))))))))
abbrev N_grant_word : List Str := ["owners", "labels", "value"]
theorem sc_grant_word : FnScope N_grant_word ["owners", "labels", "value"] (defScope s_grant_word) := ⟨rfl, rfl, rfl, by decide +kernel, rfl, by decide +kernel, by decide +kernel⟩
theorem ok_grant_word {f : Addr} {fd : FuncData} (F : Fun K "grant_word" "grant_word" s_grant_word f fd) (b_isinstance : mg "isinstance" = none) (b_len : mg "len" = none) (b_tuple : mg "tuple" = none) (c_is_body : Cal P w K mg base ⟨K, cl, fc⟩ "is_body" 3 fn_is_body) (c_is_role : Cal P w K mg base ⟨K, cl, fc⟩ "is_role" 2 fn_is_role) :
    FnOk P w K mg base (L2.CX P w) 4 f fd ["owners", "labels", "value"] (spF ⟨K, cl, fc⟩ fn_grant_word) := by
  refine fn_drop (fn_ok (N := N_grant_word) (ms := ms_grant_word) F sc_grant_word rfl fun cdv A outer s H E hr => ?_)
  exact (ds_cons wi_E (ds_if (PW.pt (dw_or (dt_not (dt_val (de_callB call_isi opn_isi b_isinstance (by decide +kernel) (da_cons (de_var (pv 2)) (da_cons (de_ty b_tuple (by decide +kernel)) da_nil))))) (dw_or1 (dt_cmp (op_neU (hu64 hr)) op2_ne (de_callB call_lenU opn_len b_len PySem.boot_len (da_cons (de_var (pv 2)) da_nil)) de_int (nomark _))))) (ds_one (ds_ret de_str)) ds_nil)
    (ds_cons wi_E (ds_if (dt_not (dt_val (de_fn c_is_role hr (by decide) (takes_of rfl rfl rfl rfl) (da_cons (de_var (pv 0)) (da_cons (de_var (pv 1)) (da_cons (de_idx (ix_all (hu1 hr)) op2_idxA (de_var (pv 2)) de_int) da_nil)))))) (ds_one (ds_ret de_str)) ds_nil)
    (ds_one (ds_ret (de_if (dt_val (de_fn c_is_body hr (by decide) (takes_of rfl rfl rfl rfl) (da_cons (de_var (pv 0)) (da_cons (de_var (pv 1)) (da_cons (de_idx (ix_all (hu1 hr)) op2_idxA (de_var (pv 2)) de_int) da_nil))))) de_non de_str)))))
abbrev N_all_roles : List Str := ["owners", "labels", "found", "owner", "label"]
theorem sc_all_roles : FnScope N_all_roles ["owners", "labels"] (defScope s_all_roles) := ⟨rfl, rfl, rfl, by decide +kernel, rfl, by decide +kernel, by decide +kernel⟩
theorem ok_all_roles {f : Addr} {fd : FuncData} (F : Fun K "all_roles" "all_roles" s_all_roles f fd) (b_range : mg "range" = none) (b_tuple : mg "tuple" = none) :
    FnOk P w K mg base (L2.CX P w) 1 f fd ["owners", "labels"] (spF ⟨K, cl, fc⟩ fn_all_roles) := by
  refine fn_drop (fn_ok (N := N_all_roles) (ms := ms_all_roles) F sc_all_roles rfl fun cdv A outer s H E hr => ?_)
  exact (ds_cons wi_E (ds_set (i := 2) sc_all_roles.nd rfl (Or.inl rfl) (de_new da_nil))
    (ds_cons wi_E (ds_for wi_E (passes_of rfl) rfl tg_name (di_rg1 b_range (da_cons (de_var (pv 0)) da_nil)) (pg_name (i := 3) sc_all_roles.nd rfl (Or.inr rfl))
    (ds_one (ds_ext (ho := (de_var (pv 2))) (he := (de_lc (ow := [("label", 4)]) rfl sc_all_roles.nd tg_name (by decide) (di_rg1 b_range (da_cons (de_var (pv 1)) da_nil)) (blkOk_by (N := N_all_roles) (sc := defScope s_all_roles) (by decide +kernel)) (fun _ _ _ _ _ => (pg_name (i := 4) sc_all_roles.nd rfl (Or.inl rfl))) (fun _ _ _ _ _ => dts_nil) (fun _ _ _ _ _ => (de_tup (da_cons (de_var (pv 3)) (da_cons (de_var (pv 4)) da_nil)))))))))
    (ds_one (ds_ret (de_callTy call_tuple_of opn_tuple b_tuple (by decide +kernel) (da_cons (de_var (pv 2)) da_nil))))))
abbrev N_members : List Str := ["bits", "found", "owner"]
theorem sc_members : FnScope N_members ["bits"] (defScope s_members) := ⟨rfl, rfl, rfl, by decide +kernel, rfl, by decide +kernel, by decide +kernel⟩
theorem ok_members {f : Addr} {fd : FuncData} (F : Fun K "members" "members" s_members f fd) (b_tuple : mg "tuple" = none) :
    FnOk P w K mg base (L2.CX P w) 1 f fd ["bits"] (spF ⟨K, cl, fc⟩ fn_members) := by
  refine fn_drop (fn_ok (N := N_members) (ms := ms_members) F sc_members rfl fun cdv A outer s H E hr => ?_)
  exact (ds_cons wi_E (ds_par rfl sc_members.nd rfl rfl (by decide) rfl rfl (da_cons (de_new da_nil) (da_cons de_int da_nil)) (by rfl))
    (ds_cons wi_E (ds_while wi_E (passes_of rfl) (dt_cmp op_gt op2_gt0 (de_var (pv 0)) de_int (nomark _))
    (ds_cons wi_E (ds_if (dt_cmp (op_eqU (hu64 hr)) op2_eq (de_op op_mod op2_mod (de_var (pv 0)) de_int) de_int (nomark _)) (ds_one (ds_app (ho := (de_var (pv 1))) (he := (de_var (pv 2))))) ds_nil)
    (ds_one (ds_par rfl sc_members.nd rfl rfl (by decide) rfl rfl (da_cons (de_op op_fdiv op2_div (de_var (pv 0)) de_int) (da_cons (de_op op_addU op2_add (de_var (pv 2)) de_int) da_nil)) (by rfl)))))
    (ds_one (ds_ret (de_callTy call_tuple_of opn_tuple b_tuple (by decide +kernel) (da_cons (de_var (pv 1)) da_nil))))))
abbrev N_by_body : List Str := ["body", "known", "found", "who"]
theorem sc_by_body : FnScope N_by_body ["body", "known"] (defScope s_by_body) := ⟨rfl, rfl, rfl, by decide +kernel, rfl, by decide +kernel, by decide +kernel⟩
theorem ok_by_body {f : Addr} {fd : FuncData} (F : Fun K "by_body" "by_body" s_by_body f fd) (c_members : Cal P w K mg base ⟨K, cl, fc⟩ "members" 1 fn_members) :
    FnOk P w K mg base (L2.CX P w) 2 f fd ["body", "known"] (spF ⟨K, cl, fc⟩ fn_by_body) := by
  refine fn_drop (fn_ok (N := N_by_body) (ms := ms_by_body) F sc_by_body rfl fun cdv A outer s H E hr => ?_)
  exact (ds_cons wi_E (ds_if (dt_cmp (op_eqU (hu64 hr)) op2_eq (de_idx (ix_all (hu1 hr)) op2_idxA (de_var (pv 0)) de_int) de_str (nomark _)) (ds_one (ds_ret (de_op op_shl op2_shl de_int (de_idx (ix_all (hu1 hr)) op2_idxA (de_var (pv 0)) de_int)))) ds_nil)
    (ds_cons wi_E (ds_if (dt_cmp (op_eqU (hu64 hr)) op2_eq (de_idx (ix_all (hu1 hr)) op2_idxA (de_var (pv 0)) de_int) de_str (nomark _)) (ds_one (ds_ret (de_idx (ix_all (hu1 hr)) op2_idxA (de_var (pv 1)) (de_idx (ix_all (hu1 hr)) op2_idxA (de_var (pv 0)) de_int)))) ds_nil)
    (ds_cons wi_E (ds_if (dt_cmp (op_eqU (hu64 hr)) op2_eq (de_idx (ix_all (hu1 hr)) op2_idxA (de_var (pv 0)) de_int) de_str (nomark _)) (ds_one (ds_ret (de_op op_and op2_and (de_idx (ix_all (hu1 hr)) op2_idxA (de_var (pv 1)) (de_idx (ix_all (hu1 hr)) op2_idxA (de_var (pv 0)) de_int)) (de_idx (ix_all (hu1 hr)) op2_idxA (de_var (pv 1)) (de_idx (ix_all (hu1 hr)) op2_idxA (de_var (pv 0)) de_int))))) ds_nil)
    (ds_cons wi_E (ds_set (i := 2) sc_by_body.nd rfl (Or.inl rfl) de_int)
    (ds_cons wi_E (ds_for wi_E (passes_of rfl) rfl tg_name (di_seq (hl := (de_fn c_members hr (by decide) (takes_of rfl rfl rfl rfl) (da_cons (de_idx (ix_all (hu1 hr)) op2_idxA (de_var (pv 1)) (de_idx (ix_all (hu1 hr)) op2_idxA (de_var (pv 0)) de_int)) da_nil)))) (pg_name (i := 3) sc_by_body.nd rfl (Or.inl rfl))
    (ds_one (ds_set (i := 2) sc_by_body.nd rfl (Or.inl rfl) (de_op op_or op2_or (de_var (pv 2)) (de_idx (ix_all (hu1 hr)) op2_idxA (de_var (pv 1)) (de_tup (da_cons (de_var (pv 3)) (da_cons (de_idx (ix_all (hu1 hr)) op2_idxA (de_var (pv 0)) de_int) da_nil))))))))
    (ds_one (ds_ret (de_var (pv 2)))))))))
abbrev N_next_round : List Str := ["grants", "known", "later", "role", "body"]
theorem sc_next_round : FnScope N_next_round ["grants", "known"] (defScope s_next_round) := ⟨rfl, rfl, rfl, by decide +kernel, rfl, by decide +kernel, by decide +kernel⟩
theorem ok_next_round {f : Addr} {fd : FuncData} (F : Fun K "next_round" "next_round" s_next_round f fd) (b_dict : mg "dict" = none) (c_by_body : Cal P w K mg base ⟨K, cl, fc⟩ "by_body" 2 fn_by_body) :
    FnOk P w K mg base (L2.CX P w) 3 f fd ["grants", "known"] (spF ⟨K, cl, fc⟩ fn_next_round) := by
  refine fn_frz (fn_ok (N := N_next_round) (ms := ms_next_round) F sc_next_round rfl fun cdv A outer s H E hr => ?_)
  exact (ds_cons wi_E (ds_set (i := 2) sc_next_round.nd rfl (Or.inl rfl) (de_dictOf (hu4 hr) b_dict (de_var (pv 1))))
    (ds_cons wi_E (ds_for wi_E (passes_of rfl) rfl (tg_tup (tgs_cons tg_name (tgs_cons tg_name tgs_nil))) (di_seq (hl := (de_var (pv 0)))) (pg_tup rfl (pgs_cons (pg_name (i := 3) sc_next_round.nd rfl (Or.inl rfl)) (pgs_cons (pg_name (i := 4) sc_next_round.nd rfl (Or.inl rfl)) pgs_nil)))
    (ds_one (ds_dput (hu1 hr) (de_var (pv 2)) (de_var (pv 3)) (de_op op_or op2_or (de_idx (ix_all (hu1 hr)) op2_idxA (de_var (pv 2)) (de_var (pv 3))) (de_fn c_by_body hr (by decide) (takes_of rfl rfl rfl rfl) (da_cons (de_var (pv 4)) (da_cons (de_var (pv 1)) da_nil)))))))
    (ds_one (ds_ret (de_var (pv 2))))))
abbrev N_spread : List Str := ["owners", "labels", "grants", "begun", "known", "later", "role"]
theorem sc_spread : FnScope N_spread ["owners", "labels", "grants", "begun"] (defScope s_spread) := ⟨rfl, rfl, rfl, by decide +kernel, rfl, by decide +kernel, by decide +kernel⟩
theorem ok_spread {f : Addr} {fd : FuncData} (F : Fun K "spread" "spread" s_spread f fd) (c_all_roles : Cal P w K mg base ⟨K, cl, fc⟩ "all_roles" 1 fn_all_roles) (c_next_round : Cal P w K mg base ⟨K, cl, fc⟩ "next_round" 3 fn_next_round) :
    FnOk P w K mg base (L2.CX P w) 4 f fd ["owners", "labels", "grants", "begun"] (spF ⟨K, cl, fc⟩ fn_spread) := by
  refine fn_frz (fn_ok (N := N_spread) (ms := ms_spread) F sc_spread rfl fun cdv A outer s H E hr => ?_)
  exact (ds_cons wi_E (ds_setDcN (hu1 hr) (ow := [("role", 6)]) (i := 4) rfl sc_spread.nd rfl rfl (sw_trueD rfl rfl rfl (by decide +kernel)) tg_name (by decide) (di_seq (hl := (de_fn c_all_roles hr (by decide) (takes_of rfl rfl rfl rfl) (da_cons (de_var (pv 0)) (da_cons (de_var (pv 1)) da_nil))))) (blkOk_by (N := N_spread) (sc := defScope s_spread) (by decide +kernel)) (fun _ _ _ _ _ => (pg_name (i := 6) sc_spread.nd rfl (Or.inl rfl))) (fun _ _ _ _ _ => dts_nil) (fun _ _ _ _ _ => (de_var (pv 6))) (fun _ _ _ _ _ => (de_dget2 (hu1 hr) (de_var (pv 3)) (de_var (pv 6)) de_int ⟨rfl, rfl, rfl, rfl⟩)))
    (ds_cons wi_E (ds_set (i := 5) sc_spread.nd rfl (Or.inl rfl) (de_fn c_next_round hr (by decide) (takes_of rfl rfl rfl rfl) (da_cons (de_var (pv 2)) (da_cons (de_var (pv 4)) da_nil))))
    (ds_cons wi_E (ds_while wi_E (passes_of rfl) (dt_cmp (op_neT (hu64 hr)) op2_neT (de_var (pv 5)) (de_var (pv 4)) (nomark _))
    (ds_cons wi_E (ds_set (i := 4) sc_spread.nd rfl (Or.inl rfl) (de_var (pv 5)))
    (ds_one (ds_set (i := 5) sc_spread.nd rfl (Or.inl rfl) (de_fn c_next_round hr (by decide) (takes_of rfl rfl rfl rfl) (da_cons (de_var (pv 2)) (da_cons (de_var (pv 4)) da_nil)))))))
    (ds_one (ds_ret (de_var (pv 4)))))))
abbrev N_bits_of : List Str := ["policy"]
theorem sc_bits_of : FnScope N_bits_of ["policy"] (defScope s_bits_of) := ⟨rfl, rfl, rfl, by decide +kernel, rfl, by decide +kernel, by decide +kernel⟩
theorem ok_bits_of {f : Addr} {fd : FuncData} (F : Fun K "bits_of" "bits_of" s_bits_of f fd) (c_spread : Cal P w K mg base ⟨K, cl, fc⟩ "spread" 4 fn_spread) (p_Policy_grants : CalP P w K mg base ⟨K, cl, fc⟩ 0 "grants" 1 fn_Policy_grants) (p_Policy_labels : CalP P w K mg base ⟨K, cl, fc⟩ 0 "labels" 1 fn_Policy_labels) (p_Policy_owners : CalP P w K mg base ⟨K, cl, fc⟩ 0 "owners" 1 fn_Policy_owners) :
    FnOk P w K mg base (L2.CX P w) 5 f fd ["policy"] (spF ⟨K, cl, fc⟩ fn_bits_of) := by
  refine fn_drop (fn_ok (N := N_bits_of) (ms := ms_bits_of) F sc_bits_of rfl fun cdv A outer s H E hr => ?_)
  exact (ds_one (ds_ret (de_fn c_spread hr (by decide) (takes_of rfl rfl rfl rfl) (da_cons (de_prop p_Policy_owners hr (by decide) (de_var (pv 0))) (da_cons (de_prop p_Policy_labels hr (by decide) (de_var (pv 0))) (da_cons (de_prop p_Policy_grants hr (by decide) (de_var (pv 0))) (da_cons de_demp da_nil)))))))
abbrev N_holders : List Str := ["policy", "role"]
theorem sc_holders : FnScope N_holders ["policy", "role"] (defScope s_holders) := ⟨rfl, rfl, rfl, by decide +kernel, rfl, by decide +kernel, by decide +kernel⟩
theorem ok_holders {f : Addr} {fd : FuncData} (F : Fun K "holders" "holders" s_holders f fd) (c_bits_of : Cal P w K mg base ⟨K, cl, fc⟩ "bits_of" 5 fn_bits_of) (c_members : Cal P w K mg base ⟨K, cl, fc⟩ "members" 1 fn_members) :
    FnOk P w K mg base (L2.CX P w) 6 f fd ["policy", "role"] (spF ⟨K, cl, fc⟩ fn_holders) := by
  refine fn_drop (fn_ok (N := N_holders) (ms := ms_holders) F sc_holders rfl fun cdv A outer s H E hr => ?_)
  exact (ds_one (ds_ret (de_fn c_members hr (by decide) (takes_of rfl rfl rfl rfl) (da_cons (de_idx (ix_all (hu1 hr)) op2_idxA (de_fn c_bits_of hr (by decide) (takes_of rfl rfl rfl rfl) (da_cons (de_var (pv 0)) da_nil)) (de_var (pv 1))) da_nil))))
abbrev N_table : List Str := ["policy", "known", "role"]
theorem sc_table : FnScope N_table ["policy"] (defScope s_table) := ⟨rfl, rfl, rfl, by decide +kernel, rfl, by decide +kernel, by decide +kernel⟩
theorem ok_table {f : Addr} {fd : FuncData} (F : Fun K "table" "table" s_table f fd) (b_tuple : mg "tuple" = none) (c_bits_of : Cal P w K mg base ⟨K, cl, fc⟩ "bits_of" 5 fn_bits_of) (c_members : Cal P w K mg base ⟨K, cl, fc⟩ "members" 1 fn_members) (m_Policy_roles : CalM P w K mg base ⟨K, cl, fc⟩ 0 "roles" 3 fn_Policy_roles) :
    FnOk P w K mg base (L2.CX P w) 6 f fd ["policy"] (spF ⟨K, cl, fc⟩ fn_table) := by
  refine fn_drop (fn_ok (N := N_table) (ms := ms_table) F sc_table rfl fun cdv A outer s H E hr => ?_)
  exact (ds_cons wi_E (ds_set (i := 1) sc_table.nd rfl (Or.inr rfl) (de_fn c_bits_of hr (by decide) (takes_of rfl rfl rfl rfl) (da_cons (de_var (pv 0)) da_nil)))
    (ds_one (ds_ret (de_callTy call_tuple_of opn_tuple b_tuple (by decide +kernel) (da_cons (de_lc (ow := [("role", 2)]) rfl sc_table.nd tg_name (by decide) (di_seq (hl := (de_meth0 m_Policy_roles hr (by decide) (takes_of rfl rfl rfl rfl) (de_var (pv 0))))) (blkOk_by (N := N_table) (sc := defScope s_table) (by decide +kernel)) (fun _ _ _ _ _ => (pg_name (i := 2) sc_table.nd rfl (Or.inl rfl))) (fun _ _ _ _ _ => dts_nil) (fun _ _ _ _ _ => (de_fn c_members hr (by decide) takes0 (da_cons (de_idx (ix_all (hu1 hr)) op2_idxA (de_var (pv 1)) (de_var (pv 2))) da_nil)))) da_nil)))))
abbrev N_held : List Str := ["policy", "owner", "known", "role"]
theorem sc_held : FnScope N_held ["policy", "owner"] (defScope s_held) := ⟨rfl, rfl, rfl, by decide +kernel, rfl, by decide +kernel, by decide +kernel⟩
theorem ok_held {f : Addr} {fd : FuncData} (F : Fun K "held" "held" s_held f fd) (b_tuple : mg "tuple" = none) (c_bits_of : Cal P w K mg base ⟨K, cl, fc⟩ "bits_of" 5 fn_bits_of) (c_members : Cal P w K mg base ⟨K, cl, fc⟩ "members" 1 fn_members) (m_Policy_roles : CalM P w K mg base ⟨K, cl, fc⟩ 0 "roles" 3 fn_Policy_roles) :
    FnOk P w K mg base (L2.CX P w) 6 f fd ["policy", "owner"] (spF ⟨K, cl, fc⟩ fn_held) := by
  refine fn_drop (fn_ok (N := N_held) (ms := ms_held) F sc_held rfl fun cdv A outer s H E hr => ?_)
  exact (ds_cons wi_E (ds_set (i := 2) sc_held.nd rfl (Or.inr rfl) (de_fn c_bits_of hr (by decide) (takes_of rfl rfl rfl rfl) (da_cons (de_var (pv 0)) da_nil)))
    (ds_one (ds_ret (de_callTy call_tuple_of opn_tuple b_tuple (by decide +kernel) (da_cons (de_lc (ow := [("role", 3)]) rfl sc_held.nd tg_name (by decide) (di_seq (hl := (de_meth0 m_Policy_roles hr (by decide) (takes_of rfl rfl rfl rfl) (de_var (pv 0))))) (blkOk_by (N := N_held) (sc := defScope s_held) (by decide +kernel)) (fun _ _ _ _ _ => (pg_name (i := 3) sc_held.nd rfl (Or.inl rfl))) (fun _ _ _ _ _ => (dts_one (dt_cmp (op_inU (hu65 hr)) op2_in (de_var (pv 1)) (de_fn c_members hr (by decide) takes0 (da_cons (de_idx (ix_all (hu1 hr)) op2_idxA (de_var (pv 2)) (de_var (pv 3))) da_nil)) (by rfl)))) (fun _ _ _ _ _ => (de_var (pv 3)))) da_nil)))))
abbrev N_check_policy : List Str := ["owners", "labels", "grants", "number", "grant", "word"]
theorem sc_check_policy : FnScope N_check_policy ["owners", "labels", "grants"] (defScope s_check_policy) := ⟨rfl, rfl, rfl, by decide +kernel, rfl, by decide +kernel, by decide +kernel⟩
theorem ok_check_policy {f : Addr} {fd : FuncData} (F : Fun K "check_policy" "check_policy" s_check_policy f fd) (b_enumerate : mg "enumerate" = none) (b_isinstance : mg "isinstance" = none) (b_len : mg "len" = none) (b_tuple : mg "tuple" = none) (c_grant_word : Cal P w K mg base ⟨K, cl, fc⟩ "grant_word" 4 fn_grant_word) (c_is_integer : Cal P w K mg base ⟨K, cl, fc⟩ "is_integer" 1 fn_is_integer) (e_BadPolicy : CalE2 P w K mg base ⟨K, cl, fc⟩ "BadPolicy" 13 1 "number" "word") (g_MAX_GRANTS : ∃ t, mg "MAX_GRANTS" = some (.int 240 t)) (g_MAX_LABELS : ∃ t, mg "MAX_LABELS" = some (.int 4 t)) (g_MAX_OWNERS : ∃ t, mg "MAX_OWNERS" = some (.int 7 t)) :
    FnOk P w K mg base (L2.CX P w) 5 f fd ["owners", "labels", "grants"] (spF ⟨K, cl, fc⟩ fn_check_policy) := by
  refine fn_drop (fn_ok (N := N_check_policy) (ms := ms_check_policy) F sc_check_policy rfl fun cdv A outer s H E hr => ?_)
  exact (ds_cons wi_E (ds_if (dt_not (dt_val (de_fn c_is_integer hr (by decide) (takes_of rfl rfl rfl rfl) (da_cons (de_var (pv 0)) (da_cons de_int (da_cons (de_gint g_MAX_OWNERS) da_nil)))))) (ds_one (ds_raise2 e_BadPolicy rfl (takes_of rfl rfl rfl rfl) hr (by decide) (da_cons de_non (da_cons de_str da_nil)))) ds_nil)
    (ds_cons wi_E (ds_if (dt_not (dt_val (de_fn c_is_integer hr (by decide) (takes_of rfl rfl rfl rfl) (da_cons (de_var (pv 1)) (da_cons de_int (da_cons (de_gint g_MAX_LABELS) da_nil)))))) (ds_one (ds_raise2 e_BadPolicy rfl (takes_of rfl rfl rfl rfl) hr (by decide) (da_cons de_non (da_cons de_str da_nil)))) ds_nil)
    (ds_cons wi_E (ds_if (PW.pt (dw_or (dt_not (dt_val (de_callB call_isi opn_isi b_isinstance (by decide +kernel) (da_cons (de_var (pv 2)) (da_cons (de_ty b_tuple (by decide +kernel)) da_nil))))) (dw_or1 (dt_cmp op_gt op2_gt0 (de_callB call_lenU opn_len b_len PySem.boot_len (da_cons (de_var (pv 2)) da_nil)) (de_gint g_MAX_GRANTS) (nomark _))))) (ds_one (ds_raise2 e_BadPolicy rfl (takes_of rfl rfl rfl rfl) hr (by decide) (da_cons de_non (da_cons de_str da_nil)))) ds_nil)
    (ds_one (ds_for wi_E (passes_of rfl) rfl (tg_tup (tgs_cons tg_name (tgs_cons tg_name tgs_nil))) (di_enum b_enumerate (de_var (pv 2))) (pg_tup rfl (pgs_cons (pg_name (i := 3) sc_check_policy.nd rfl (Or.inl rfl)) (pgs_cons (pg_name (i := 4) sc_check_policy.nd rfl (Or.inl rfl)) pgs_nil)))
    (ds_cons wi_E (ds_set (i := 5) sc_check_policy.nd rfl (Or.inl rfl) (de_fn c_grant_word hr (by decide) (takes_of rfl rfl rfl rfl) (da_cons (de_var (pv 0)) (da_cons (de_var (pv 1)) (da_cons (de_var (pv 4)) da_nil)))))
    (ds_cons wi_E (ds_if (PW.pt (dw_and (dt_cmp op_isN op2_is (de_var (pv 5)) de_non (nomark _)) (dw_and (dt_cmp op_gt op2_gt0 (de_var (pv 3)) de_int (nomark _)) (dw_and1 (dt_cmp (op_leP (hu64 hr)) op2_le (de_var (pv 4)) (de_idx (ix_all (hu1 hr)) op2_idxA (de_var (pv 2)) (de_op op_sub op2_sub (de_var (pv 3)) de_int)) (nomark _)))))) (ds_one (ds_set (i := 5) sc_check_policy.nd rfl (Or.inl rfl) de_str)) ds_nil)
    (ds_one (ds_if (dt_cmp op_notN op2_isNot (de_var (pv 5)) de_non (nomark _)) (ds_one (ds_raise2 e_BadPolicy rfl (takes_of rfl rfl rfl rfl) hr (by decide) (da_cons (de_var (pv 3)) (da_cons (de_var (pv 5)) da_nil)))) ds_nil)))))))))
abbrev N_Policy_init : List Str := ["self", "owners", "labels", "grants"]
theorem sc_Policy_init : FnScope N_Policy_init ["self", "owners", "labels", "grants"] (defScope s_Policy_init) := ⟨rfl, rfl, rfl, by decide +kernel, rfl, by decide +kernel, by decide +kernel⟩
theorem ok_Policy_init {f : Addr} {fd : FuncData} (F : Fun K "__init__" "Policy.__init__" s_Policy_init f fd) (c_check_policy : Cal P w K mg base ⟨K, cl, fc⟩ "check_policy" 5 fn_check_policy) (f_Policy_parts : FldOk K ⟨K, cl, fc⟩ [0] "parts") :
    FnOk P w K mg base (L2.CX P w) 6 f fd ["self", "owners", "labels", "grants"] (spF ⟨K, cl, fc⟩ fn_Policy_init) := by
  refine (fn_ok (N := N_Policy_init) (ms := ms_Policy_init) F sc_Policy_init rfl fun cdv A outer s H E hr => ?_)
  exact (ds_cons wi_E (ds_expr (de_fn c_check_policy hr (by decide) (takes_of rfl rfl rfl rfl) (da_cons (de_var (pv 1)) (da_cons (de_var (pv 2)) (da_cons (de_var (pv 3)) da_nil)))))
    (ds_one (ds_fld f_Policy_parts (de_var (pv 0)) (de_tup (da_cons (de_var (pv 1)) (da_cons (de_var (pv 2)) (da_cons (de_var (pv 3)) da_nil)))))))
abbrev N_Policy_owners : List Str := ["self"]
theorem sc_Policy_owners : FnScope N_Policy_owners ["self"] (defScope s_Policy_owners) := ⟨rfl, rfl, rfl, by decide +kernel, rfl, by decide +kernel, by decide +kernel⟩
theorem ok_Policy_owners {f : Addr} {fd : FuncData} (F : Fun K "owners" "Policy.owners" s_Policy_owners f fd) (f_Policy_parts : FldOk K ⟨K, cl, fc⟩ [0] "parts") :
    FnOk P w K mg base (L2.CX P w) 1 f fd ["self"] (spF ⟨K, cl, fc⟩ fn_Policy_owners) := by
  refine fn_drop (fn_ok (N := N_Policy_owners) (ms := ms_Policy_owners) F sc_Policy_owners rfl fun cdv A outer s H E hr => ?_)
  exact (ds_one (ds_ret (de_idx (ix_all (hu1 hr)) op2_idxA (de_fld f_Policy_parts (de_var (pv 0))) de_int)))
abbrev N_Policy_labels : List Str := ["self"]
theorem sc_Policy_labels : FnScope N_Policy_labels ["self"] (defScope s_Policy_labels) := ⟨rfl, rfl, rfl, by decide +kernel, rfl, by decide +kernel, by decide +kernel⟩
theorem ok_Policy_labels {f : Addr} {fd : FuncData} (F : Fun K "labels" "Policy.labels" s_Policy_labels f fd) (f_Policy_parts : FldOk K ⟨K, cl, fc⟩ [0] "parts") :
    FnOk P w K mg base (L2.CX P w) 1 f fd ["self"] (spF ⟨K, cl, fc⟩ fn_Policy_labels) := by
  refine fn_drop (fn_ok (N := N_Policy_labels) (ms := ms_Policy_labels) F sc_Policy_labels rfl fun cdv A outer s H E hr => ?_)
  exact (ds_one (ds_ret (de_idx (ix_all (hu1 hr)) op2_idxA (de_fld f_Policy_parts (de_var (pv 0))) de_int)))
abbrev N_Policy_grants : List Str := ["self"]
theorem sc_Policy_grants : FnScope N_Policy_grants ["self"] (defScope s_Policy_grants) := ⟨rfl, rfl, rfl, by decide +kernel, rfl, by decide +kernel, by decide +kernel⟩
theorem ok_Policy_grants {f : Addr} {fd : FuncData} (F : Fun K "grants" "Policy.grants" s_Policy_grants f fd) (f_Policy_parts : FldOk K ⟨K, cl, fc⟩ [0] "parts") :
    FnOk P w K mg base (L2.CX P w) 1 f fd ["self"] (spF ⟨K, cl, fc⟩ fn_Policy_grants) := by
  refine fn_drop (fn_ok (N := N_Policy_grants) (ms := ms_Policy_grants) F sc_Policy_grants rfl fun cdv A outer s H E hr => ?_)
  exact (ds_one (ds_ret (de_idx (ix_all (hu1 hr)) op2_idxA (de_fld f_Policy_parts (de_var (pv 0))) de_int)))
abbrev N_Policy_roles : List Str := ["self"]
theorem sc_Policy_roles : FnScope N_Policy_roles ["self"] (defScope s_Policy_roles) := ⟨rfl, rfl, rfl, by decide +kernel, rfl, by decide +kernel, by decide +kernel⟩
theorem ok_Policy_roles {f : Addr} {fd : FuncData} (F : Fun K "roles" "Policy.roles" s_Policy_roles f fd) (c_all_roles : Cal P w K mg base ⟨K, cl, fc⟩ "all_roles" 1 fn_all_roles) (p_Policy_labels : CalP P w K mg base ⟨K, cl, fc⟩ 0 "labels" 1 fn_Policy_labels) (p_Policy_owners : CalP P w K mg base ⟨K, cl, fc⟩ 0 "owners" 1 fn_Policy_owners) :
    FnOk P w K mg base (L2.CX P w) 3 f fd ["self"] (spF ⟨K, cl, fc⟩ fn_Policy_roles) := by
  refine fn_drop (fn_ok (N := N_Policy_roles) (ms := ms_Policy_roles) F sc_Policy_roles rfl fun cdv A outer s H E hr => ?_)
  exact (ds_one (ds_ret (de_fn c_all_roles hr (by decide) (takes_of rfl rfl rfl rfl) (da_cons (de_prop p_Policy_owners hr (by decide) (de_var (pv 0))) (da_cons (de_prop p_Policy_labels hr (by decide) (de_var (pv 0))) da_nil)))))
abbrev N_law_deck : List Str := ["_law_script", "_law_great", "_law_cell"]
theorem sc_law_deck : FnScope N_law_deck ["_law_script"] (defScope s_law_deck) := ⟨rfl, rfl, rfl, by decide +kernel, rfl, by decide +kernel, by decide +kernel⟩
theorem ok_law_deck {f : Addr} {fd : FuncData} (F : Fun K "_law_deck" "_law_deck" s_law_deck f fd) (b_abs : mg "abs" = none) (b_len : mg "len" = none) (b_list : mg "list" = none) :
    FnOk P w K mg base (L2.CX P w) 1 f fd ["_law_script"] (spF ⟨K, cl, fc⟩ fn_law_deck) := by
  refine (fn_ok (N := N_law_deck) (ms := ms_law_deck) F sc_law_deck rfl fun cdv A outer s H E hr => ?_)
  exact (ds_cons wi_E (ds_set (i := 1) sc_law_deck.nd rfl (Or.inl rfl) de_int)
    (ds_cons wi_E (ds_for wi_E (passes_of rfl) rfl tg_name (di_seq (hl := (de_slice (he := (de_var (pv 0))) (hl := do_none) (hu := (do_some de_int))))) (pg_name (i := 2) sc_law_deck.nd rfl (Or.inl rfl))
    (ds_one (ds_if (dt_cmp op_ge op2_ge0 (de_callB call_abs opn_abs b_abs (by decide +kernel) (da_cons (de_var (pv 2)) da_nil)) (de_op op_pow op2_pow de_int de_int) (nomark _)) (ds_one (ds_set (i := 1) sc_law_deck.nd rfl (Or.inl rfl) (de_op op_addU op2_add (de_op op_mulU op2_mul (de_var (pv 1)) de_int) (de_callB call_abs opn_abs b_abs (by decide +kernel) (da_cons (de_var (pv 2)) da_nil))))) ds_nil)))
    (ds_one (ds_ret (de_disp (.cons (de_op op_addU op2_add (de_callTy call_list_of opn_list b_list (by decide +kernel) (da_cons (de_slice (he := (de_var (pv 0))) (hl := do_none) (hu := (do_some de_int))) da_nil)) (de_lst (da_cons (de_op op_addU op2_add (de_callB call_lenU opn_len b_len PySem.boot_len (da_cons (de_var (pv 0)) da_nil)) de_int) da_nil))) (.cons de_int (.cons (de_var (pv 1)) .nil))) (by decide +kernel) (by decide) (by decide) (by rfl) (by rfl) (by simp) (by decide))))))
abbrev N_law_take : List Str := ["_law_deck_here", "_law_many", "_law_digit", "_law_turn", "_law_cells", "_law_mixed"]
theorem sc_law_take : FnScope N_law_take ["_law_deck_here", "_law_many"] (defScope s_law_take) := ⟨rfl, rfl, rfl, by decide +kernel, rfl, by decide +kernel, by decide +kernel⟩
theorem ok_law_take {f : Addr} {fd : FuncData} (F : Fun K "_law_take" "_law_take" s_law_take f fd) (b_len : mg "len" = none) :
    FnOk P w K mg base (L2.CX P w) 1 f fd ["_law_deck_here", "_law_many"] (spF ⟨K, cl, fc⟩ fn_law_take) := by
  refine fn_drop (fn_ok (N := N_law_take) (ms := ms_law_take) F sc_law_take rfl fun cdv A outer s H E hr => ?_)
  exact (ds_cons wi_E (ds_kput (hu1 hr) (de_var (pv 0)) de_str (de_op op_addU op2_add (de_idx (ix_all (hu1 hr)) op2_idxA (de_var (pv 0)) de_str) de_int))
    (ds_cons wi_E (ds_if (dt_cmp op_gt op2_gt0 (de_idx (ix_all (hu1 hr)) op2_idxA (de_var (pv 0)) de_str) de_int (nomark _)) (ds_cons wi_E (ds_set (i := 2) sc_law_take.nd rfl (Or.inl rfl) (de_op op_mod op2_mod (de_idx (ix_all (hu1 hr)) op2_idxA (de_var (pv 0)) de_str) (de_var (pv 1))))
    (ds_cons wi_E (ds_kput (hu1 hr) (de_var (pv 0)) de_str (de_op op_fdiv op2_div (de_idx (ix_all (hu1 hr)) op2_idxA (de_var (pv 0)) de_str) (de_var (pv 1))))
    (ds_one (ds_ret (de_var (pv 2)))))) ds_nil)
    (ds_cons wi_E (ds_par rfl sc_law_take.nd rfl rfl (by decide) rfl rfl (da_cons (de_idx (ix_all (hu1 hr)) op2_idxA (de_var (pv 0)) de_str) (da_cons (de_idx (ix_all (hu1 hr)) op2_idxA (de_var (pv 0)) de_str) da_nil)) (by rfl))
    (ds_cons wi_E (ds_set (i := 5) sc_law_take.nd rfl (Or.inl rfl) (de_op op_mod op2_mod (de_op op_pow op2_pow (de_op op_addU op2_add (de_op op_addU op2_add (de_op op_mod op2_mod (de_idx (ix_all (hu1 hr)) op2_idxA (de_var (pv 4)) (de_op op_mod op2_mod (de_var (pv 3)) (de_callB call_lenU opn_len b_len PySem.boot_len (da_cons (de_var (pv 4)) da_nil)))) de_int) (de_op op_mulU op2_mul de_int (de_var (pv 3)))) de_int) de_int) de_int))
    (ds_one (ds_ret (de_op op_mod op2_mod (de_op op_fdiv op2_div (de_op op_mod op2_mod (de_op op_addU op2_add (de_op op_mulU op2_mul (de_var (pv 5)) de_int) (de_op op_mulU op2_mul (de_op op_mulU op2_mul de_int (de_var (pv 3))) (de_var (pv 3)))) de_int) de_int) (de_var (pv 1)))))))))
abbrev N_law_one : List Str := ["_law_deck_here", "_law_items"]
theorem sc_law_one : FnScope N_law_one ["_law_deck_here", "_law_items"] (defScope s_law_one) := ⟨rfl, rfl, rfl, by decide +kernel, rfl, by decide +kernel, by decide +kernel⟩
theorem ok_law_one {f : Addr} {fd : FuncData} (F : Fun K "_law_one" "_law_one" s_law_one f fd) (b_len : mg "len" = none) (c_law_take : Cal P w K mg base ⟨K, cl, fc⟩ "_law_take" 1 fn_law_take) :
    FnOk P w K mg base (L2.CX P w) 2 f fd ["_law_deck_here", "_law_items"] (spF ⟨K, cl, fc⟩ fn_law_one) := by
  refine fn_drop (fn_ok (N := N_law_one) (ms := ms_law_one) F sc_law_one rfl fun cdv A outer s H E hr => ?_)
  exact (ds_one (ds_ret (de_idx (ix_all (hu1 hr)) op2_idxA (de_var (pv 1)) (de_fn c_law_take hr (by decide) (takes_of rfl rfl rfl rfl) (da_cons (de_var (pv 0)) (da_cons (de_callB call_lenU opn_len b_len PySem.boot_len (da_cons (de_var (pv 1)) da_nil)) da_nil))))))
abbrev N_law_all_roles : List Str := ["_law_owners", "_law_labels", "_law_found", "_law_owner", "_law_label"]
theorem sc_law_all_roles : FnScope N_law_all_roles ["_law_owners", "_law_labels"] (defScope s_law_all_roles) := ⟨rfl, rfl, rfl, by decide +kernel, rfl, by decide +kernel, by decide +kernel⟩
theorem ok_law_all_roles {f : Addr} {fd : FuncData} (F : Fun K "_law_all_roles" "_law_all_roles" s_law_all_roles f fd) (b_range : mg "range" = none) :
    FnOk P w K mg base (L2.CX P w) 1 f fd ["_law_owners", "_law_labels"] (spF ⟨K, cl, fc⟩ fn_law_all_roles) := by
  refine fn_frz (fn_ok (N := N_law_all_roles) (ms := ms_law_all_roles) F sc_law_all_roles rfl fun cdv A outer s H E hr => ?_)
  exact (ds_cons wi_E (ds_set (i := 2) sc_law_all_roles.nd rfl (Or.inl rfl) (de_new da_nil))
    (ds_cons wi_E (ds_for wi_E (passes_of rfl) rfl tg_name (di_rg1 b_range (da_cons (de_var (pv 0)) da_nil)) (pg_name (i := 3) sc_law_all_roles.nd rfl (Or.inr rfl))
    (ds_one (ds_ext (ho := (de_var (pv 2))) (he := (de_lc (ow := [("_law_label", 4)]) rfl sc_law_all_roles.nd tg_name (by decide) (di_rg1 b_range (da_cons (de_var (pv 1)) da_nil)) (blkOk_by (N := N_law_all_roles) (sc := defScope s_law_all_roles) (by decide +kernel)) (fun _ _ _ _ _ => (pg_name (i := 4) sc_law_all_roles.nd rfl (Or.inl rfl))) (fun _ _ _ _ _ => dts_nil) (fun _ _ _ _ _ => (de_tup (da_cons (de_var (pv 3)) (da_cons (de_var (pv 4)) da_nil)))))))))
    (ds_one (ds_ret (de_var (pv 2))))))
abbrev N_law_role : List Str := ["_law_deck_here", "_law_owners", "_law_labels"]
theorem sc_law_role : FnScope N_law_role ["_law_deck_here", "_law_owners", "_law_labels"] (defScope s_law_role) := ⟨rfl, rfl, rfl, by decide +kernel, rfl, by decide +kernel, by decide +kernel⟩
theorem ok_law_role {f : Addr} {fd : FuncData} (F : Fun K "_law_role" "_law_role" s_law_role f fd) (c_law_take : Cal P w K mg base ⟨K, cl, fc⟩ "_law_take" 1 fn_law_take) :
    FnOk P w K mg base (L2.CX P w) 2 f fd ["_law_deck_here", "_law_owners", "_law_labels"] (spF ⟨K, cl, fc⟩ fn_law_role) := by
  refine fn_drop (fn_ok (N := N_law_role) (ms := ms_law_role) F sc_law_role rfl fun cdv A outer s H E hr => ?_)
  exact (ds_one (ds_ret (de_tup (da_cons (de_fn c_law_take hr (by decide) (takes_of rfl rfl rfl rfl) (da_cons (de_var (pv 0)) (da_cons (de_var (pv 1)) da_nil))) (da_cons (de_fn c_law_take hr (by decide) (takes_of rfl rfl rfl rfl) (da_cons (de_var (pv 0)) (da_cons (de_var (pv 2)) da_nil))) da_nil)))))
abbrev N_law_body : List Str := ["_law_deck_here", "_law_owners", "_law_labels", "_law_is_plain", "_law_word", "_law_one_here", "_law_other"]
theorem sc_law_body : FnScope N_law_body ["_law_deck_here", "_law_owners", "_law_labels", "_law_is_plain"] (defScope s_law_body) := ⟨rfl, rfl, rfl, by decide +kernel, rfl, by decide +kernel, by decide +kernel⟩
theorem ok_law_body {f : Addr} {fd : FuncData} (F : Fun K "_law_body" "_law_body" s_law_body f fd) (b_max : mg "max" = none) (b_min : mg "min" = none) (c_law_one : Cal P w K mg base ⟨K, cl, fc⟩ "_law_one" 2 fn_law_one) (c_law_role : Cal P w K mg base ⟨K, cl, fc⟩ "_law_role" 2 fn_law_role) (c_law_take : Cal P w K mg base ⟨K, cl, fc⟩ "_law_take" 1 fn_law_take) :
    FnOk P w K mg base (L2.CX P w) 3 f fd ["_law_deck_here", "_law_owners", "_law_labels", "_law_is_plain"] (spF ⟨K, cl, fc⟩ fn_law_body) := by
  refine fn_drop (fn_ok (N := N_law_body) (ms := ms_law_body) F sc_law_body rfl fun cdv A outer s H E hr => ?_)
  exact (ds_cons wi_E (ds_set (i := 4) sc_law_body.nd rfl (Or.inl rfl) (de_fn c_law_one hr (by decide) (takes_of rfl rfl rfl rfl) (da_cons (de_var (pv 0)) (da_cons (de_op op_addU op2_add (de_lst (da_cons de_str (da_cons de_str (da_cons de_str (da_cons de_str (da_cons de_str da_nil)))))) (de_if (dt_val (de_var (pv 3))) (de_lst da_nil) (de_lst (da_cons de_str (da_cons de_str da_nil))))) da_nil))))
    (ds_cons wi_E (ds_if (dt_cmp (op_eqU (hu64 hr)) op2_eq (de_var (pv 4)) de_str (nomark _)) (ds_one (ds_ret (de_tup (da_cons de_str (da_cons (de_fn c_law_take hr (by decide) (takes_of rfl rfl rfl rfl) (da_cons (de_var (pv 0)) (da_cons (de_var (pv 1)) da_nil))) da_nil))))) ds_nil)
    (ds_cons wi_E (ds_par rfl sc_law_body.nd rfl rfl (by decide) rfl rfl (da_cons (de_fn c_law_role hr (by decide) (takes_of rfl rfl rfl rfl) (da_cons (de_var (pv 0)) (da_cons (de_var (pv 1)) (da_cons (de_var (pv 2)) da_nil)))) (da_cons (de_fn c_law_role hr (by decide) (takes_of rfl rfl rfl rfl) (da_cons (de_var (pv 0)) (da_cons (de_var (pv 1)) (da_cons (de_var (pv 2)) da_nil)))) da_nil)) (by rfl))
    (ds_cons wi_E (ds_if (dt_cmp (op_eqU (hu64 hr)) op2_eq (de_var (pv 4)) de_str (nomark _)) (ds_one (ds_ret (de_tup (da_cons de_str (da_cons (de_var (pv 5)) (da_cons (de_fn c_law_take hr (by decide) (takes_of rfl rfl rfl rfl) (da_cons (de_var (pv 0)) (da_cons (de_var (pv 2)) da_nil))) da_nil)))))) ds_nil)
    (ds_cons wi_E (ds_if (PW.pt (dw_or (dt_cmp (op_eqU (hu64 hr)) op2_eq (de_var (pv 4)) de_str (nomark _)) (dw_or1 (dt_cmp (op_eqU (hu64 hr)) op2_eq (de_var (pv 5)) (de_var (pv 6)) (nomark _))))) (ds_one (ds_ret (de_tup (da_cons de_str (da_cons (de_var (pv 5)) da_nil))))) ds_nil)
    (ds_one (ds_ret (de_tup (da_cons de_str (da_cons (de_callB (call_min2D rfl (hu66 hr)) opn_min2 b_min (by decide +kernel) (da_cons (de_var (pv 5)) (da_cons (de_var (pv 6)) da_nil))) (da_cons (de_callB (call_max2D rfl (hu66 hr)) opn_max2 b_max (by decide +kernel) (da_cons (de_var (pv 5)) (da_cons (de_var (pv 6)) da_nil))) da_nil)))))))))))
abbrev N_law_grants : List Str := ["_law_deck_here", "_law_owners", "_law_labels", "_law_many", "_law_is_plain", "_law_heads", "_law_found", "_law_turn", "_law_head"]
theorem sc_law_grants : FnScope N_law_grants ["_law_deck_here", "_law_owners", "_law_labels", "_law_many", "_law_is_plain"] (defScope s_law_grants) := ⟨rfl, rfl, rfl, by decide +kernel, rfl, by decide +kernel, by decide +kernel⟩
theorem ok_law_grants {f : Addr} {fd : FuncData} (F : Fun K "_law_grants" "_law_grants" s_law_grants f fd) (b_range : mg "range" = none) (b_set : mg "set" = none) (b_sorted : mg "sorted" = none) (b_tuple : mg "tuple" = none) (c_law_body : Cal P w K mg base ⟨K, cl, fc⟩ "_law_body" 3 fn_law_body) (c_law_one : Cal P w K mg base ⟨K, cl, fc⟩ "_law_one" 2 fn_law_one) (c_law_role : Cal P w K mg base ⟨K, cl, fc⟩ "_law_role" 2 fn_law_role) :
    FnOk P w K mg base (L2.CX P w) 4 f fd ["_law_deck_here", "_law_owners", "_law_labels", "_law_many", "_law_is_plain"] (spF ⟨K, cl, fc⟩ fn_law_grants) := by
  refine fn_drop (fn_ok (N := N_law_grants) (ms := ms_law_grants) F sc_law_grants rfl fun cdv A outer s H E hr => ?_)
  exact (ds_cons wi_E (ds_setLc (ow := [("_law_turn", 7)]) (i := 5) rfl sc_law_grants.nd rfl rfl (sw_true rfl rfl rfl (by decide +kernel)) tg_name (by decide) (di_rg1 b_range (da_cons de_int da_nil)) (blkOk_by (N := N_law_grants) (sc := defScope s_law_grants) (by decide +kernel)) (fun _ _ _ _ _ => (pg_name (i := 7) sc_law_grants.nd rfl (Or.inl rfl))) (fun _ _ _ _ _ => dts_nil) (fun _ _ _ _ _ => (de_fn c_law_role hr (by decide) takes0 (da_cons (de_var (pv 0)) (da_cons (de_var (pv 1)) (da_cons (de_var (pv 2)) da_nil))))))
    (ds_cons wi_E (ds_set (i := 6) sc_law_grants.nd rfl (Or.inl rfl) (de_new da_nil))
    (ds_cons wi_E (ds_for wi_E (passes_of rfl) rfl tg_name (di_rg1 b_range (da_cons (de_var (pv 3)) da_nil)) (pg_name (i := 7) sc_law_grants.nd rfl (Or.inl rfl))
    (ds_cons wi_E (ds_set (i := 8) sc_law_grants.nd rfl (Or.inl rfl) (de_fn c_law_one hr (by decide) (takes_of rfl rfl rfl rfl) (da_cons (de_var (pv 0)) (da_cons (de_op op_addU op2_add (de_var (pv 5)) (de_lst (da_cons (de_fn c_law_role hr (by decide) (takes_of rfl rfl rfl rfl) (da_cons (de_var (pv 0)) (da_cons (de_var (pv 1)) (da_cons (de_var (pv 2)) da_nil)))) da_nil))) da_nil))))
    (ds_one (ds_app (ho := (de_var (pv 6))) (he := (de_tup (da_cons (de_var (pv 8)) (da_cons (de_fn c_law_body hr (by decide) (takes_of rfl rfl rfl rfl) (da_cons (de_var (pv 0)) (da_cons (de_var (pv 1)) (da_cons (de_var (pv 2)) (da_cons (de_var (pv 4)) da_nil))))) da_nil))))))))
    (ds_one (ds_ret (de_callTy call_tuple_of opn_tuple b_tuple (by decide +kernel) (da_cons (de_sortset rfl rfl (hu64 hr) b_sorted b_set (da_cons (de_var (pv 6)) da_nil)) da_nil)))))))
abbrev N_law_parts : List Str := ["_law_deck_here", "_law_most", "_law_is_plain", "_law_owners", "_law_labels"]
theorem sc_law_parts : FnScope N_law_parts ["_law_deck_here", "_law_most", "_law_is_plain"] (defScope s_law_parts) := ⟨rfl, rfl, rfl, by decide +kernel, rfl, by decide +kernel, by decide +kernel⟩
theorem ok_law_parts {f : Addr} {fd : FuncData} (F : Fun K "_law_parts" "_law_parts" s_law_parts f fd) (c_law_grants : Cal P w K mg base ⟨K, cl, fc⟩ "_law_grants" 4 fn_law_grants) (c_law_one : Cal P w K mg base ⟨K, cl, fc⟩ "_law_one" 2 fn_law_one) (c_law_take : Cal P w K mg base ⟨K, cl, fc⟩ "_law_take" 1 fn_law_take) :
    FnOk P w K mg base (L2.CX P w) 5 f fd ["_law_deck_here", "_law_most", "_law_is_plain"] (spF ⟨K, cl, fc⟩ fn_law_parts) := by
  refine fn_drop (fn_ok (N := N_law_parts) (ms := ms_law_parts) F sc_law_parts rfl fun cdv A outer s H E hr => ?_)
  exact (ds_cons wi_E (ds_par rfl sc_law_parts.nd rfl rfl (by decide) rfl rfl (da_cons (de_op op_addU op2_add de_int (de_fn c_law_take hr (by decide) (takes_of rfl rfl rfl rfl) (da_cons (de_var (pv 0)) (da_cons (de_var (pv 1)) da_nil)))) (da_cons (de_op op_addU op2_add de_int (de_fn c_law_take hr (by decide) (takes_of rfl rfl rfl rfl) (da_cons (de_var (pv 0)) (da_cons de_int da_nil)))) da_nil)) (by rfl))
    (ds_one (ds_ret (de_tup (da_cons (de_var (pv 3)) (da_cons (de_var (pv 4)) (da_cons (de_fn c_law_grants hr (by decide) (takes_of rfl rfl rfl rfl) (da_cons (de_var (pv 0)) (da_cons (de_var (pv 3)) (da_cons (de_var (pv 4)) (da_cons (de_fn c_law_one hr (by decide) (takes_of rfl rfl rfl rfl) (da_cons (de_var (pv 0)) (da_cons (de_lst (da_cons de_int (da_cons de_int (da_cons de_int (da_cons de_int (da_cons de_int (da_cons de_int (da_cons de_int da_nil)))))))) da_nil))) (da_cons (de_var (pv 2)) da_nil)))))) da_nil)))))))
abbrev N_law_by : List Str := ["_law_body_here", "_law_known_here", "_law_found", "_law_who", "_law_owner"]
theorem sc_law_by : FnScope N_law_by ["_law_body_here", "_law_known_here"] (defScope s_law_by) := ⟨rfl, rfl, rfl, by decide +kernel, rfl, by decide +kernel, by decide +kernel⟩
theorem ok_law_by {f : Addr} {fd : FuncData} (F : Fun K "_law_by" "_law_by" s_law_by f fd)  :
    FnOk P w K mg base (L2.CX P w) 1 f fd ["_law_body_here", "_law_known_here"] (spF ⟨K, cl, fc⟩ fn_law_by) := by
  refine fn_drop (fn_ok (N := N_law_by) (ms := ms_law_by) F sc_law_by rfl fun cdv A outer s H E hr => ?_)
  exact (ds_cons wi_E (ds_if (dt_cmp (op_eqU (hu64 hr)) op2_eq (de_idx (ix_all (hu1 hr)) op2_idxA (de_var (pv 0)) de_int) de_str (nomark _)) (ds_one (ds_ret (de_lst (da_cons (de_idx (ix_all (hu1 hr)) op2_idxA (de_var (pv 0)) de_int) da_nil)))) ds_nil)
    (ds_cons wi_E (ds_if (dt_cmp (op_eqU (hu64 hr)) op2_eq (de_idx (ix_all (hu1 hr)) op2_idxA (de_var (pv 0)) de_int) de_str (nomark _)) (ds_one (ds_ret (de_idx (ix_all (hu1 hr)) op2_idxA (de_var (pv 1)) (de_idx (ix_all (hu1 hr)) op2_idxA (de_var (pv 0)) de_int)))) ds_nil)
    (ds_cons wi_E (ds_if (dt_cmp (op_eqU (hu64 hr)) op2_eq (de_idx (ix_all (hu1 hr)) op2_idxA (de_var (pv 0)) de_int) de_str (nomark _)) (ds_one (ds_ret (de_lc (ow := [("_law_owner", 4)]) rfl sc_law_by.nd tg_name (by decide) (di_seq (hl := (de_idx (ix_all (hu1 hr)) op2_idxA (de_var (pv 1)) (de_idx (ix_all (hu1 hr)) op2_idxA (de_var (pv 0)) de_int)))) (blkOk_by (N := N_law_by) (sc := defScope s_law_by) (by decide +kernel)) (fun _ _ _ _ _ => (pg_name (i := 4) sc_law_by.nd rfl (Or.inl rfl))) (fun _ _ _ _ _ => (dts_one (dt_cmp (op_inU (hu65 hr)) op2_in (de_var (pv 4)) (de_idx (ix_all (hu1 hr)) op2_idxA (de_var (pv 1)) (de_idx (ix_all (hu1 hr)) op2_idxA (de_var (pv 0)) de_int)) (by rfl)))) (fun _ _ _ _ _ => (de_var (pv 4)))))) ds_nil)
    (ds_cons wi_E (ds_set (i := 2) sc_law_by.nd rfl (Or.inr rfl) (de_lst da_nil))
    (ds_cons wi_E (ds_for wi_E (passes_of rfl) rfl tg_name (di_seq (hl := (de_idx (ix_all (hu1 hr)) op2_idxA (de_var (pv 1)) (de_idx (ix_all (hu1 hr)) op2_idxA (de_var (pv 0)) de_int)))) (pg_name (i := 3) sc_law_by.nd rfl (Or.inl rfl))
    (ds_one (ds_set (i := 2) sc_law_by.nd rfl (Or.inr rfl) (de_op op_addU op2_add (de_var (pv 2)) (de_lc (ow := [("_law_owner", 4)]) rfl sc_law_by.nd tg_name (by decide) (di_seq (hl := (de_idx (ix_all (hu1 hr)) op2_idxA (de_var (pv 1)) (de_tup (da_cons (de_var (pv 3)) (da_cons (de_idx (ix_all (hu1 hr)) op2_idxA (de_var (pv 0)) de_int) da_nil)))))) (blkOk_by (N := N_law_by) (sc := defScope s_law_by) (by decide +kernel)) (fun _ _ _ _ _ => (pg_name (i := 4) sc_law_by.nd rfl (Or.inl rfl))) (fun _ _ _ _ _ => (dts_one (dt_cmp (op_notInU (hu65 hr)) op2_notIn (de_var (pv 4)) (de_var (pv 2)) (by rfl)))) (fun _ _ _ _ _ => (de_var (pv 4))))))))
    (ds_one (ds_ret (de_var (pv 2)))))))))
abbrev N_law_known : List Str := ["_law_owners", "_law_labels", "_law_grants_here", "_law_begun", "_law_known_here", "_law_going", "_law_role_here", "_law_body_here", "_law_more", "_law_owner"]
theorem sc_law_known : FnScope N_law_known ["_law_owners", "_law_labels", "_law_grants_here", "_law_begun"] (defScope s_law_known) := ⟨rfl, rfl, rfl, by decide +kernel, rfl, by decide +kernel, by decide +kernel⟩
theorem ok_law_known {f : Addr} {fd : FuncData} (F : Fun K "_law_known" "_law_known" s_law_known f fd) (b_list : mg "list" = none) (b_sorted : mg "sorted" = none) (c_law_all_roles : Cal P w K mg base ⟨K, cl, fc⟩ "_law_all_roles" 1 fn_law_all_roles) (c_law_by : Cal P w K mg base ⟨K, cl, fc⟩ "_law_by" 1 fn_law_by) :
    FnOk P w K mg base (L2.CX P w) 2 f fd ["_law_owners", "_law_labels", "_law_grants_here", "_law_begun"] (spF ⟨K, cl, fc⟩ fn_law_known) := by
  refine fn_frz (fn_ok (N := N_law_known) (ms := ms_law_known) F sc_law_known rfl fun cdv A outer s H E hr => ?_)
  exact (ds_cons wi_E (ds_asg (tg_tup (tgs_cons tg_name (tgs_cons tg_name tgs_nil))) (de_tup (da_cons de_dnew (da_cons de_bl da_nil))) (pg_tup rfl (pgs_cons (pg_name (i := 4) sc_law_known.nd rfl (Or.inr rfl)) (pgs_cons (pg_name (i := 5) sc_law_known.nd rfl (Or.inl rfl)) pgs_nil))))
    (ds_cons wi_E (ds_for wi_E (passes_of rfl) rfl tg_name (di_seq (hl := (de_fn c_law_all_roles hr (by decide) (takes_of rfl rfl rfl rfl) (da_cons (de_var (pv 0)) (da_cons (de_var (pv 1)) da_nil))))) (pg_name (i := 6) sc_law_known.nd rfl (Or.inr rfl))
    (ds_one (ds_dput (hu1 hr) (de_var (pv 4)) (de_var (pv 6)) (de_callTy call_list_of opn_list b_list (by decide +kernel) (da_cons (de_dget2 (hu1 hr) (de_var (pv 3)) (de_var (pv 6)) (de_lst da_nil) ⟨rfl, rfl, rfl, rfl⟩) da_nil)))))
    (ds_cons wi_E (ds_while wi_E (passes_of rfl) (dt_val (de_var (pv 5)))
    (ds_cons wi_E (ds_set (i := 5) sc_law_known.nd rfl (Or.inl rfl) de_bl)
    (ds_one (ds_for wi_E (passes_of rfl) rfl (tg_tup (tgs_cons tg_name (tgs_cons tg_name tgs_nil))) (di_seq (hl := (de_var (pv 2)))) (pg_tup rfl (pgs_cons (pg_name (i := 6) sc_law_known.nd rfl (Or.inr rfl)) (pgs_cons (pg_name (i := 7) sc_law_known.nd rfl (Or.inl rfl)) pgs_nil)))
    (ds_cons wi_E (ds_setLc (ow := [("_law_owner", 9)]) (i := 8) rfl sc_law_known.nd rfl rfl (sw_true rfl rfl rfl (by decide +kernel)) tg_name (by decide) (di_seq (hl := (de_fn c_law_by hr (by decide) (takes_of rfl rfl rfl rfl) (da_cons (de_var (pv 7)) (da_cons (de_var (pv 4)) da_nil))))) (blkOk_by (N := N_law_known) (sc := defScope s_law_known) (by decide +kernel)) (fun _ _ _ _ _ => (pg_name (i := 9) sc_law_known.nd rfl (Or.inl rfl))) (fun _ _ _ _ _ => (dts_one (dt_cmp (op_notInU (hu65 hr)) op2_notIn (de_var (pv 9)) (de_idx (ix_all (hu1 hr)) op2_idxA (de_var (pv 4)) (de_var (pv 6))) (by rfl)))) (fun _ _ _ _ _ => (de_var (pv 9))))
    (ds_one (ds_if (dt_cmp (op_neU (hu64 hr)) op2_ne (de_var (pv 8)) (de_lst da_nil) (nomark _)) (ds_cons wi_E (ds_dput (hu1 hr) (de_var (pv 4)) (de_var (pv 6)) (de_callB (cr_sortA (hu64 hr)) opn_sortA b_sorted (by decide +kernel) (da_cons (de_op op_addU op2_add (de_idx (ix_all (hu1 hr)) op2_idxA (de_var (pv 4)) (de_var (pv 6))) (de_var (pv 8))) da_nil)))
    (ds_one (ds_set (i := 5) sc_law_known.nd rfl (Or.inl rfl) de_bl))) ds_nil)))))))
    (ds_one (ds_ret (de_var (pv 4)))))))
abbrev N_law_now : List Str := ["_law_parts_here"]
theorem sc_law_now : FnScope N_law_now ["_law_parts_here"] (defScope s_law_now) := ⟨rfl, rfl, rfl, by decide +kernel, rfl, by decide +kernel, by decide +kernel⟩
theorem ok_law_now {f : Addr} {fd : FuncData} (F : Fun K "_law_now" "_law_now" s_law_now f fd) (c_law_known : Cal P w K mg base ⟨K, cl, fc⟩ "_law_known" 2 fn_law_known) :
    FnOk P w K mg base (L2.CX P w) 3 f fd ["_law_parts_here"] (spF ⟨K, cl, fc⟩ fn_law_now) := by
  refine fn_drop (fn_ok (N := N_law_now) (ms := ms_law_now) F sc_law_now rfl fun cdv A outer s H E hr => ?_)
  exact (ds_one (ds_ret (de_fn c_law_known hr (by decide) (takes_of rfl rfl rfl rfl) (da_cons (de_idx (ix_all (hu1 hr)) op2_idxA (de_var (pv 0)) de_int) (da_cons (de_idx (ix_all (hu1 hr)) op2_idxA (de_var (pv 0)) de_int) (da_cons (de_idx (ix_all (hu1 hr)) op2_idxA (de_var (pv 0)) de_int) (da_cons de_demp da_nil)))))))
abbrev N_law_ringed : List Str := ["_law_deck_here", "_law_parts_here", "_law_owners", "_law_labels", "_law_grants_here", "_law_roles", "_law_more", "_law_other", "_law_role_here", "_law_turn"]
theorem sc_law_ringed : FnScope N_law_ringed ["_law_deck_here", "_law_parts_here"] (defScope s_law_ringed) := ⟨rfl, rfl, rfl, by decide +kernel, rfl, by decide +kernel, by decide +kernel⟩
theorem ok_law_ringed {f : Addr} {fd : FuncData} (F : Fun K "_law_ringed" "_law_ringed" s_law_ringed f fd) (b_range : mg "range" = none) (b_set : mg "set" = none) (b_sorted : mg "sorted" = none) (b_tuple : mg "tuple" = none) (b_zip : mg "zip" = none) (c_law_role : Cal P w K mg base ⟨K, cl, fc⟩ "_law_role" 2 fn_law_role) (c_law_take : Cal P w K mg base ⟨K, cl, fc⟩ "_law_take" 1 fn_law_take) :
    FnOk P w K mg base (L2.CX P w) 3 f fd ["_law_deck_here", "_law_parts_here"] (spF ⟨K, cl, fc⟩ fn_law_ringed) := by
  refine fn_drop (fn_ok (N := N_law_ringed) (ms := ms_law_ringed) F sc_law_ringed rfl fun cdv A outer s H E hr => ?_)
  exact (ds_cons wi_E (ds_asg (tg_tup (tgs_cons tg_name (tgs_cons tg_name (tgs_cons tg_name tgs_nil)))) (de_var (pv 1)) (pg_tup rfl (pgs_cons (pg_name (i := 2) sc_law_ringed.nd rfl (Or.inr rfl)) (pgs_cons (pg_name (i := 3) sc_law_ringed.nd rfl (Or.inr rfl)) (pgs_cons (pg_name (i := 4) sc_law_ringed.nd rfl (Or.inl rfl)) pgs_nil)))))
    (ds_cons wi_E (ds_setLc (ow := [("_law_turn", 9)]) (i := 5) rfl sc_law_ringed.nd rfl rfl (sw_true rfl rfl rfl (by decide +kernel)) tg_name (by decide) (di_rg1 b_range (da_cons (de_op op_addU op2_add de_int (de_fn c_law_take hr (by decide) (takes_of rfl rfl rfl rfl) (da_cons (de_var (pv 0)) (da_cons de_int da_nil)))) da_nil)) (blkOk_by (N := N_law_ringed) (sc := defScope s_law_ringed) (by decide +kernel)) (fun _ _ _ _ _ => (pg_name (i := 9) sc_law_ringed.nd rfl (Or.inl rfl))) (fun _ _ _ _ _ => dts_nil) (fun _ _ _ _ _ => (de_fn c_law_role hr (by decide) takes0 (da_cons (de_var (pv 0)) (da_cons (de_var (pv 2)) (da_cons (de_var (pv 3)) da_nil))))))
    (ds_cons wi_E (ds_setLc (ow := [("_law_role_here", 8), ("_law_other", 7)]) (i := 6) rfl sc_law_ringed.nd rfl rfl (sw_true rfl rfl rfl (by decide +kernel)) (tg_tup (tgs_cons tg_name (tgs_cons tg_name tgs_nil))) (by decide) (di_zip b_zip (da_cons (de_var (pv 5)) (da_cons (de_op op_addU op2_add (de_slice (he := (de_var (pv 5))) (hl := (do_some de_int)) (hu := do_none)) (de_slice (he := (de_var (pv 5))) (hl := do_none) (hu := (do_some de_int)))) da_nil))) (blkOk_by (N := N_law_ringed) (sc := defScope s_law_ringed) (by decide +kernel)) (fun _ _ _ _ _ => (pg_tup rfl (pgs_cons (pg_name (i := 8) sc_law_ringed.nd rfl (Or.inl rfl)) (pgs_cons (pg_name (i := 7) sc_law_ringed.nd rfl (Or.inl rfl)) pgs_nil)))) (fun _ _ _ _ _ => dts_nil) (fun _ _ _ _ _ => (de_tup (da_cons (de_var (pv 8)) (da_cons (de_tup (da_cons de_str (da_cons (de_var (pv 7)) da_nil))) da_nil)))))
    (ds_one (ds_ret (de_tup (da_cons (de_var (pv 2)) (da_cons (de_var (pv 3)) (da_cons (de_callTy call_tuple_of opn_tuple b_tuple (by decide +kernel) (da_cons (de_sortset rfl rfl (hu64 hr) b_sorted b_set (da_cons (de_op op_addU op2_add (de_var (pv 4)) (de_callTy call_tuple_of opn_tuple b_tuple (by decide +kernel) (da_cons (de_var (pv 6)) da_nil))) da_nil)) da_nil)) da_nil)))))))))
abbrev N_law_k04 : List Str := ["_law_script", "_law_deck_here", "_law_turn", "_law_parts_here", "_law_policy", "_law_known_here", "_law_due", "_law_role_here", "_law_owner", "_law_own"]
theorem sc_law_k04 : FnScope N_law_k04 ["_law_script"] (defScope s_law_k04) := ⟨rfl, rfl, rfl, by decide +kernel, rfl, by decide +kernel, by decide +kernel⟩
theorem ok_law_k04 {f : Addr} {fd : FuncData} (F : Fun K "law" "law" s_law_k04 f fd) (b_range : mg "range" = none) (b_repr : mg "repr" = none) (b_tuple : mg "tuple" = none) (c_held : Cal P w K mg base ⟨K, cl, fc⟩ "held" 6 fn_held) (c_holders : Cal P w K mg base ⟨K, cl, fc⟩ "holders" 6 fn_holders) (c_law_all_roles : Cal P w K mg base ⟨K, cl, fc⟩ "_law_all_roles" 1 fn_law_all_roles) (c_law_deck : Cal P w K mg base ⟨K, cl, fc⟩ "_law_deck" 1 fn_law_deck) (c_law_now : Cal P w K mg base ⟨K, cl, fc⟩ "_law_now" 3 fn_law_now) (c_law_parts : Cal P w K mg base ⟨K, cl, fc⟩ "_law_parts" 5 fn_law_parts) (c_law_ringed : Cal P w K mg base ⟨K, cl, fc⟩ "_law_ringed" 3 fn_law_ringed) (c_law_take : Cal P w K mg base ⟨K, cl, fc⟩ "_law_take" 1 fn_law_take) (c_table : Cal P w K mg base ⟨K, cl, fc⟩ "table" 6 fn_table) (k_Policy_init : CalK P w K mg base ⟨K, cl, fc⟩ "Policy" 0 6 fn_Policy_init) (p_Policy_grants : CalP P w K mg base ⟨K, cl, fc⟩ 0 "grants" 1 fn_Policy_grants) :
    FnG P w K mg base (L2.CX P w) 8 f fd ["_law_script"] (spF ⟨K, cl, fc⟩ fn_law_k04) := by
  refine fnG_ok (N := N_law_k04) (ms := ms_law_k04) F sc_law_k04 rfl fun cdv A outer s H E hgd hr => ?_
  exact (ds_cons wi_E (ds_set (i := 1) sc_law_k04.nd rfl (Or.inl rfl) (de_fn c_law_deck hr (by decide) (takes_of rfl rfl rfl rfl) (da_cons (de_var (pv 0)) da_nil)))
    (ds_cons wi_E (ds_for wi_E (passes_of rfl) rfl tg_name (di_rg1 b_range (da_cons de_int da_nil)) (pg_name (i := 2) sc_law_k04.nd rfl (Or.inl rfl))
    (ds_cons wi_E (ds_set (i := 3) sc_law_k04.nd rfl (Or.inl rfl) (de_fn c_law_parts hr (by decide) (takes_of rfl rfl rfl rfl) (da_cons (de_var (pv 1)) (da_cons de_int (da_cons de_bl da_nil)))))
    (ds_cons wi_E (ds_if (dt_cmp (op_eqU (hu64 hr)) op2_eq (de_fn c_law_take hr (by decide) (takes_of rfl rfl rfl rfl) (da_cons (de_var (pv 1)) (da_cons de_int da_nil))) de_int (nomark _)) (ds_one (ds_set (i := 3) sc_law_k04.nd rfl (Or.inl rfl) (de_fn c_law_ringed hr (by decide) (takes_of rfl rfl rfl rfl) (da_cons (de_var (pv 1)) (da_cons (de_var (pv 3)) da_nil))))) ds_nil)
    (ds_cons wi_E (ds_asg (tg_tup (tgs_cons tg_name (tgs_cons tg_name tgs_nil))) (de_tup (da_cons (de_make k_Policy_init hr (by decide) (takes_of rfl rfl rfl rfl) (da_cons (de_idx (ix_all (hu1 hr)) op2_idxA (de_var (pv 3)) de_int) (da_cons (de_idx (ix_all (hu1 hr)) op2_idxA (de_var (pv 3)) de_int) (da_cons (de_idx (ix_all (hu1 hr)) op2_idxA (de_var (pv 3)) de_int) da_nil)))) (da_cons (de_fn c_law_now hr (by decide) (takes_of rfl rfl rfl rfl) (da_cons (de_var (pv 3)) da_nil)) da_nil))) (pg_tup rfl (pgs_cons (pg_name (i := 4) sc_law_k04.nd rfl (Or.inl rfl)) (pgs_cons (pg_name (i := 5) sc_law_k04.nd rfl (Or.inr rfl)) pgs_nil))))
    (ds_cons wi_E (ds_set (i := 6) sc_law_k04.nd rfl (Or.inl rfl) (de_callTy call_tuple_of opn_tuple b_tuple (by decide +kernel) (da_cons (de_lc (ow := [("_law_role_here", 7)]) rfl sc_law_k04.nd tg_name (by decide) (di_seq (hl := (de_fn c_law_all_roles hr (by decide) (takes_of rfl rfl rfl rfl) (da_cons (de_idx (ix_all (hu1 hr)) op2_idxA (de_var (pv 3)) de_int) (da_cons (de_idx (ix_all (hu1 hr)) op2_idxA (de_var (pv 3)) de_int) da_nil))))) (blkOk_by (N := N_law_k04) (sc := defScope s_law_k04) (by decide +kernel)) (fun _ _ _ _ _ => (pg_name (i := 7) sc_law_k04.nd rfl (Or.inl rfl))) (fun _ _ _ _ _ => dts_nil) (fun _ _ _ _ _ => (de_callTy call_tuple_of opn_tuple b_tuple (by decide +kernel) (da_cons (de_idx (ix_all (hu1 hr)) op2_idxA (de_var (pv 5)) (de_var (pv 7))) da_nil)))) da_nil)))
    (ds_cons wi_E (ds_if (dt_cmp (op_neU (hu64 hr)) op2_ne (de_callB (call_reprD hgd (hu66 hr)) opn_repr b_repr (by decide +kernel) (da_cons (de_lst (da_cons (de_fn c_table hr (by decide) (takes_of rfl rfl rfl rfl) (da_cons (de_var (pv 4)) da_nil)) (da_cons (de_fn c_table hr (by decide) (takes_of rfl rfl rfl rfl) (da_cons (de_var (pv 4)) da_nil)) da_nil))) da_nil)) (de_callB (call_reprD hgd (hu66 hr)) opn_repr b_repr (by decide +kernel) (da_cons (de_lst (da_cons (de_var (pv 6)) (da_cons (de_var (pv 6)) da_nil))) da_nil)) (nomark _)) (ds_one (ds_ret de_bl)) ds_nil)
    (ds_cons wi_E (ds_for wi_E (passes_of rfl) rfl tg_name (di_seq (hl := (de_fn c_law_all_roles hr (by decide) (takes_of rfl rfl rfl rfl) (da_cons (de_idx (ix_all (hu1 hr)) op2_idxA (de_var (pv 3)) de_int) (da_cons (de_idx (ix_all (hu1 hr)) op2_idxA (de_var (pv 3)) de_int) da_nil))))) (pg_name (i := 7) sc_law_k04.nd rfl (Or.inl rfl))
    (ds_one (ds_if (dt_cmp (op_neU (hu64 hr)) op2_ne (de_callB (call_reprD hgd (hu66 hr)) opn_repr b_repr (by decide +kernel) (da_cons (de_fn c_holders hr (by decide) (takes_of rfl rfl rfl rfl) (da_cons (de_var (pv 4)) (da_cons (de_var (pv 7)) da_nil))) da_nil)) (de_callB (call_reprD hgd (hu66 hr)) opn_repr b_repr (by decide +kernel) (da_cons (de_callTy call_tuple_of opn_tuple b_tuple (by decide +kernel) (da_cons (de_idx (ix_all (hu1 hr)) op2_idxA (de_var (pv 5)) (de_var (pv 7))) da_nil)) da_nil)) (nomark _)) (ds_one (ds_ret de_bl)) ds_nil)))
    (ds_cons wi_E (ds_for wi_E (passes_of rfl) rfl tg_name (di_rg1 b_range (da_cons (de_idx (ix_all (hu1 hr)) op2_idxA (de_var (pv 3)) de_int) da_nil)) (pg_name (i := 8) sc_law_k04.nd rfl (Or.inr rfl))
    (ds_cons wi_E (ds_set (i := 9) sc_law_k04.nd rfl (Or.inl rfl) (de_callTy call_tuple_of opn_tuple b_tuple (by decide +kernel) (da_cons (de_lc (ow := [("_law_role_here", 7)]) rfl sc_law_k04.nd tg_name (by decide) (di_seq (hl := (de_fn c_law_all_roles hr (by decide) (takes_of rfl rfl rfl rfl) (da_cons (de_idx (ix_all (hu1 hr)) op2_idxA (de_var (pv 3)) de_int) (da_cons (de_idx (ix_all (hu1 hr)) op2_idxA (de_var (pv 3)) de_int) da_nil))))) (blkOk_by (N := N_law_k04) (sc := defScope s_law_k04) (by decide +kernel)) (fun _ _ _ _ _ => (pg_name (i := 7) sc_law_k04.nd rfl (Or.inl rfl))) (fun _ _ _ _ _ => (dts_one (dt_cmp (op_inU (hu65 hr)) op2_in (de_var (pv 8)) (de_idx (ix_all (hu1 hr)) op2_idxA (de_var (pv 5)) (de_var (pv 7))) (by rfl)))) (fun _ _ _ _ _ => (de_var (pv 7)))) da_nil)))
    (ds_one (ds_if (dt_cmp (op_neU (hu64 hr)) op2_ne (de_callB (call_reprD hgd (hu66 hr)) opn_repr b_repr (by decide +kernel) (da_cons (de_fn c_held hr (by decide) (takes_of rfl rfl rfl rfl) (da_cons (de_var (pv 4)) (da_cons (de_var (pv 8)) da_nil))) da_nil)) (de_callB (call_reprD hgd (hu66 hr)) opn_repr b_repr (by decide +kernel) (da_cons (de_var (pv 9)) da_nil)) (nomark _)) (ds_one (ds_ret de_bl)) ds_nil))))
    (ds_one (ds_if (dt_cmp (op_neU (hu64 hr)) op2_ne (de_callB (call_reprD hgd (hu66 hr)) opn_repr b_repr (by decide +kernel) (da_cons (de_prop p_Policy_grants hr (by decide) (de_var (pv 4))) da_nil)) (de_callB (call_reprD hgd (hu66 hr)) opn_repr b_repr (by decide +kernel) (da_cons (de_idx (ix_all (hu1 hr)) op2_idxA (de_var (pv 3)) de_int) da_nil)) (nomark _)) (ds_one (ds_ret de_bl)) ds_nil))))))))))
    (ds_one (ds_ret de_bl))))
end
theorem facts {P : Program} {w : World} {K : PySem.W.Frag} {h : Heap} {mg : Str → Option Value} {f : Addr} (X : K.In h) (Gm : h.Ns mainGlobals mg) (hfa : mg ("law" : Str) = some (.ref f)) (c : SaysP fal fnl gel exB K) :
    ∃ (fd : FuncData) (sp : Sp), (∀ (s : Shared) (u : Value), BindsTo s fd ⟨[u], []⟩ [("_law_script", u)]) ∧ (∀ (H : Hp) (a : Addr) (ns : List Int), ns.length ≤ 63 → L2.Only H → SqL K H a (ns.map V.int) → sp [.ref a] H (fun v _ => v = .bl true) fun _ _ _ => False) ∧
      ∀ base : Heap, K.In base → base.Ns mainGlobals mg → FnG P w K mg base (L2.CX P w) 8 f fd ["_law_script"] sp := by
  have D := c.d
  obtain ⟨fd_is_integer, F_is_integer⟩ := D.def_ 0 (d := d_is_integer) rfl
  obtain ⟨fd_is_role, F_is_role⟩ := D.def_ 1 (d := d_is_role) rfl
  obtain ⟨fd_is_word, F_is_word⟩ := D.def_ 2 (d := d_is_word) rfl
  obtain ⟨fd_is_body, F_is_body⟩ := D.def_ 3 (d := d_is_body) rfl
  obtain ⟨fd_grant_word, F_grant_word⟩ := D.def_ 4 (d := d_grant_word) rfl
  obtain ⟨fd_all_roles, F_all_roles⟩ := D.def_ 5 (d := d_all_roles) rfl
  obtain ⟨fd_members, F_members⟩ := D.def_ 6 (d := d_members) rfl
  obtain ⟨fd_by_body, F_by_body⟩ := D.def_ 7 (d := d_by_body) rfl
  obtain ⟨fd_next_round, F_next_round⟩ := D.def_ 8 (d := d_next_round) rfl
  obtain ⟨fd_spread, F_spread⟩ := D.def_ 9 (d := d_spread) rfl
  obtain ⟨fd_bits_of, F_bits_of⟩ := D.def_ 10 (d := d_bits_of) rfl
  obtain ⟨fd_holders, F_holders⟩ := D.def_ 11 (d := d_holders) rfl
  obtain ⟨fd_table, F_table⟩ := D.def_ 12 (d := d_table) rfl
  obtain ⟨fd_held, F_held⟩ := D.def_ 13 (d := d_held) rfl
  obtain ⟨fd_check_policy, F_check_policy⟩ := D.def_ 14 (d := d_check_policy) rfl
  obtain ⟨fd_law_deck, F_law_deck⟩ := D.def_ 15 (d := d_law_deck) rfl
  obtain ⟨fd_law_take, F_law_take⟩ := D.def_ 16 (d := d_law_take) rfl
  obtain ⟨fd_law_one, F_law_one⟩ := D.def_ 17 (d := d_law_one) rfl
  obtain ⟨fd_law_all_roles, F_law_all_roles⟩ := D.def_ 18 (d := d_law_all_roles) rfl
  obtain ⟨fd_law_role, F_law_role⟩ := D.def_ 19 (d := d_law_role) rfl
  obtain ⟨fd_law_body, F_law_body⟩ := D.def_ 20 (d := d_law_body) rfl
  obtain ⟨fd_law_grants, F_law_grants⟩ := D.def_ 21 (d := d_law_grants) rfl
  obtain ⟨fd_law_parts, F_law_parts⟩ := D.def_ 22 (d := d_law_parts) rfl
  obtain ⟨fd_law_by, F_law_by⟩ := D.def_ 23 (d := d_law_by) rfl
  obtain ⟨fd_law_known, F_law_known⟩ := D.def_ 24 (d := d_law_known) rfl
  obtain ⟨fd_law_now, F_law_now⟩ := D.def_ 25 (d := d_law_now) rfl
  obtain ⟨fd_law_ringed, F_law_ringed⟩ := D.def_ 26 (d := d_law_ringed) rfl
  obtain ⟨fd_law_k04, F_law_k04⟩ := D.def_ 27 (d := d_law_k04) rfl
  obtain ⟨fd_Policy_init, F_Policy_init⟩ := D.def_ 28 (d := d_Policy_init) rfl
  obtain ⟨fd_Policy_roles, F_Policy_roles⟩ := D.def_ 29 (d := d_Policy_roles) rfl
  obtain ⟨PO_Policy_owners, fd_Policy_owners, F_Policy_owners⟩ := c.get 0 (g := ⟨"Policy", "owners", d_Policy_owners⟩) rfl
  obtain ⟨PO_Policy_labels, fd_Policy_labels, F_Policy_labels⟩ := c.get 1 (g := ⟨"Policy", "labels", d_Policy_labels⟩) rfl
  obtain ⟨PO_Policy_grants, fd_Policy_grants, F_Policy_grants⟩ := c.get 2 (g := ⟨"Policy", "grants", d_Policy_grants⟩) rfl
  have B_is_integer := F_is_integer.bindsN (ps := ["value", "low", "high"]) fun _ _ _ _ _ _ us hl => match us, hl with | [_, _, _], _ => rfl
  have B_is_role := F_is_role.bindsN (ps := ["owners", "labels", "value"]) fun _ _ _ _ _ _ us hl => match us, hl with | [_, _, _], _ => rfl
  have B_is_word := F_is_word.bindsN (ps := ["value", "words"]) fun _ _ _ _ _ _ us hl => match us, hl with | [_, _], _ => rfl
  have B_is_body := F_is_body.bindsN (ps := ["owners", "labels", "value"]) fun _ _ _ _ _ _ us hl => match us, hl with | [_, _, _], _ => rfl
  have B_grant_word := F_grant_word.bindsN (ps := ["owners", "labels", "value"]) fun _ _ _ _ _ _ us hl => match us, hl with | [_, _, _], _ => rfl
  have B_all_roles := F_all_roles.bindsN (ps := ["owners", "labels"]) fun _ _ _ _ _ _ us hl => match us, hl with | [_, _], _ => rfl
  have B_members := F_members.bindsN (ps := ["bits"]) fun _ _ _ _ _ _ us hl => match us, hl with | [_], _ => rfl
  have B_by_body := F_by_body.bindsN (ps := ["body", "known"]) fun _ _ _ _ _ _ us hl => match us, hl with | [_, _], _ => rfl
  have B_next_round := F_next_round.bindsN (ps := ["grants", "known"]) fun _ _ _ _ _ _ us hl => match us, hl with | [_, _], _ => rfl
  have B_spread := F_spread.bindsN (ps := ["owners", "labels", "grants", "begun"]) fun _ _ _ _ _ _ us hl => match us, hl with | [_, _, _, _], _ => rfl
  have B_bits_of := F_bits_of.bindsN (ps := ["policy"]) fun _ _ _ _ _ _ us hl => match us, hl with | [_], _ => rfl
  have B_holders := F_holders.bindsN (ps := ["policy", "role"]) fun _ _ _ _ _ _ us hl => match us, hl with | [_, _], _ => rfl
  have B_table := F_table.bindsN (ps := ["policy"]) fun _ _ _ _ _ _ us hl => match us, hl with | [_], _ => rfl
  have B_held := F_held.bindsN (ps := ["policy", "owner"]) fun _ _ _ _ _ _ us hl => match us, hl with | [_, _], _ => rfl
  have B_check_policy := F_check_policy.bindsN (ps := ["owners", "labels", "grants"]) fun _ _ _ _ _ _ us hl => match us, hl with | [_, _, _], _ => rfl
  have B_Policy_init := F_Policy_init.bindsN (ps := ["self", "owners", "labels", "grants"]) fun _ _ _ _ _ _ us hl => match us, hl with | [_, _, _, _], _ => rfl
  have B_Policy_owners := F_Policy_owners.bindsN (ps := ["self"]) fun _ _ _ _ _ _ us hl => match us, hl with | [_], _ => rfl
  have B_Policy_labels := F_Policy_labels.bindsN (ps := ["self"]) fun _ _ _ _ _ _ us hl => match us, hl with | [_], _ => rfl
  have B_Policy_grants := F_Policy_grants.bindsN (ps := ["self"]) fun _ _ _ _ _ _ us hl => match us, hl with | [_], _ => rfl
  have B_Policy_roles := F_Policy_roles.bindsN (ps := ["self"]) fun _ _ _ _ _ _ us hl => match us, hl with | [_], _ => rfl
  have B_law_deck := F_law_deck.bindsN (ps := ["_law_script"]) fun _ _ _ _ _ _ us hl => match us, hl with | [_], _ => rfl
  have B_law_take := F_law_take.bindsN (ps := ["_law_deck_here", "_law_many"]) fun _ _ _ _ _ _ us hl => match us, hl with | [_, _], _ => rfl
  have B_law_one := F_law_one.bindsN (ps := ["_law_deck_here", "_law_items"]) fun _ _ _ _ _ _ us hl => match us, hl with | [_, _], _ => rfl
  have B_law_all_roles := F_law_all_roles.bindsN (ps := ["_law_owners", "_law_labels"]) fun _ _ _ _ _ _ us hl => match us, hl with | [_, _], _ => rfl
  have B_law_role := F_law_role.bindsN (ps := ["_law_deck_here", "_law_owners", "_law_labels"]) fun _ _ _ _ _ _ us hl => match us, hl with | [_, _, _], _ => rfl
  have B_law_body := F_law_body.bindsN (ps := ["_law_deck_here", "_law_owners", "_law_labels", "_law_is_plain"]) fun _ _ _ _ _ _ us hl => match us, hl with | [_, _, _, _], _ => rfl
  have B_law_grants := F_law_grants.bindsN (ps := ["_law_deck_here", "_law_owners", "_law_labels", "_law_many", "_law_is_plain"]) fun _ _ _ _ _ _ us hl => match us, hl with | [_, _, _, _, _], _ => rfl
  have B_law_parts := F_law_parts.bindsN (ps := ["_law_deck_here", "_law_most", "_law_is_plain"]) fun _ _ _ _ _ _ us hl => match us, hl with | [_, _, _], _ => rfl
  have B_law_by := F_law_by.bindsN (ps := ["_law_body_here", "_law_known_here"]) fun _ _ _ _ _ _ us hl => match us, hl with | [_, _], _ => rfl
  have B_law_known := F_law_known.bindsN (ps := ["_law_owners", "_law_labels", "_law_grants_here", "_law_begun"]) fun _ _ _ _ _ _ us hl => match us, hl with | [_, _, _, _], _ => rfl
  have B_law_now := F_law_now.bindsN (ps := ["_law_parts_here"]) fun _ _ _ _ _ _ us hl => match us, hl with | [_], _ => rfl
  have B_law_ringed := F_law_ringed.bindsN (ps := ["_law_deck_here", "_law_parts_here"]) fun _ _ _ _ _ _ us hl => match us, hl with | [_, _], _ => rfl
  have B_law_k04 := F_law_k04.bindsA (ps := ["_law_script"]) fun _ _ _ _ _ _ us hl => match us, hl with | [_], _ => rfl
  have G_is_integer := He.glo_ok X Gm (D.fact 0 (f := .glo "is_integer") rfl)
  have G_is_role := He.glo_ok X Gm (D.fact 1 (f := .glo "is_role") rfl)
  have G_is_word := He.glo_ok X Gm (D.fact 2 (f := .glo "is_word") rfl)
  have G_is_body := He.glo_ok X Gm (D.fact 3 (f := .glo "is_body") rfl)
  have G_grant_word := He.glo_ok X Gm (D.fact 4 (f := .glo "grant_word") rfl)
  have G_all_roles := He.glo_ok X Gm (D.fact 5 (f := .glo "all_roles") rfl)
  have G_members := He.glo_ok X Gm (D.fact 6 (f := .glo "members") rfl)
  have G_by_body := He.glo_ok X Gm (D.fact 7 (f := .glo "by_body") rfl)
  have G_next_round := He.glo_ok X Gm (D.fact 8 (f := .glo "next_round") rfl)
  have G_spread := He.glo_ok X Gm (D.fact 9 (f := .glo "spread") rfl)
  have G_bits_of := He.glo_ok X Gm (D.fact 10 (f := .glo "bits_of") rfl)
  have G_holders := He.glo_ok X Gm (D.fact 11 (f := .glo "holders") rfl)
  have G_table := He.glo_ok X Gm (D.fact 12 (f := .glo "table") rfl)
  have G_held := He.glo_ok X Gm (D.fact 13 (f := .glo "held") rfl)
  have G_check_policy := He.glo_ok X Gm (D.fact 14 (f := .glo "check_policy") rfl)
  have G_law_deck := He.glo_ok X Gm (D.fact 15 (f := .glo "_law_deck") rfl)
  have G_law_take := He.glo_ok X Gm (D.fact 16 (f := .glo "_law_take") rfl)
  have G_law_one := He.glo_ok X Gm (D.fact 17 (f := .glo "_law_one") rfl)
  have G_law_all_roles := He.glo_ok X Gm (D.fact 18 (f := .glo "_law_all_roles") rfl)
  have G_law_role := He.glo_ok X Gm (D.fact 19 (f := .glo "_law_role") rfl)
  have G_law_body := He.glo_ok X Gm (D.fact 20 (f := .glo "_law_body") rfl)
  have G_law_grants := He.glo_ok X Gm (D.fact 21 (f := .glo "_law_grants") rfl)
  have G_law_parts := He.glo_ok X Gm (D.fact 22 (f := .glo "_law_parts") rfl)
  have G_law_by := He.glo_ok X Gm (D.fact 23 (f := .glo "_law_by") rfl)
  have G_law_known := He.glo_ok X Gm (D.fact 24 (f := .glo "_law_known") rfl)
  have G_law_now := He.glo_ok X Gm (D.fact 25 (f := .glo "_law_now") rfl)
  have G_law_ringed := He.glo_ok X Gm (D.fact 26 (f := .glo "_law_ringed") rfl)
  have G_law_k04 := He.glo_ok X Gm (D.fact 27 (f := .glo "law") rfl)
  have b_abs := He.free_ok X Gm (D.fact 28 (f := .free "abs") rfl)
  have b_bool := He.free_ok X Gm (D.fact 29 (f := .free "bool") rfl)
  have b_dict := He.free_ok X Gm (D.fact 30 (f := .free "dict") rfl)
  have b_enumerate := He.free_ok X Gm (D.fact 31 (f := .free "enumerate") rfl)
  have b_int := He.free_ok X Gm (D.fact 32 (f := .free "int") rfl)
  have b_isinstance := He.free_ok X Gm (D.fact 33 (f := .free "isinstance") rfl)
  have b_len := He.free_ok X Gm (D.fact 34 (f := .free "len") rfl)
  have b_list := He.free_ok X Gm (D.fact 35 (f := .free "list") rfl)
  have b_max := He.free_ok X Gm (D.fact 36 (f := .free "max") rfl)
  have b_min := He.free_ok X Gm (D.fact 37 (f := .free "min") rfl)
  have b_range := He.free_ok X Gm (D.fact 38 (f := .free "range") rfl)
  have b_repr := He.free_ok X Gm (D.fact 39 (f := .free "repr") rfl)
  have b_set := He.free_ok X Gm (D.fact 40 (f := .free "set") rfl)
  have b_sorted := He.free_ok X Gm (D.fact 41 (f := .free "sorted") rfl)
  have b_str := He.free_ok X Gm (D.fact 42 (f := .free "str") rfl)
  have b_tuple := He.free_ok X Gm (D.fact 43 (f := .free "tuple") rfl)
  have b_zip := He.free_ok X Gm (D.fact 44 (f := .free "zip") rfl)
  obtain ⟨fd_BadPolicy_init, F_BadPolicy_init⟩ := D.def_ 30 (d := d_BadPolicy_init) rfl
  have B_BadPolicy_init := F_BadPolicy_init.bindsN (ps := ["self", "number", "word"]) fun _ _ _ _ _ _ us hl => match us, hl with | [_, _, _], _ => rfl
  have I_BadPolicy := iniB_ok (x := "BadPolicy") (ex_0 c.more)
  have e := hfa.symm.trans G_law_k04
  cases e
  refine ⟨fd_law_k04, spF ⟨K, clA K, fun _ => 0⟩ fn_law_k04, fun s v => B_law_k04 s [v] rfl, fun H a ns hl hO hS => law_sp rfl hO hS (Q.k04_main ns hl), fun base _ _ => ?_⟩
  have e_BadPolicy : CalE2 P w K mg base ⟨K, clA K, fun _ => 0⟩ "BadPolicy" 13 1 "number" "word" := ⟨_, _, _, ok_BadPolicy_init (toFun F_BadPolicy_init) I_BadPolicy.1 (He.noat_ok (D.fact 46 (f := .noat "BadPolicy" "number") rfl)) (He.noat_ok (D.fact 47 (f := .noat "BadPolicy" "word") rfl)), I_BadPolicy.1, I_BadPolicy.2.1, I_BadPolicy.2.2, B_BadPolicy_init, He.glo_ok X Gm (D.fact 45 (f := .glo "BadPolicy") rfl)⟩
  have f_Policy_parts : FldOk K ⟨K, clA K, fun _ => 0⟩ [0] "parts" := fun c hc => by
    have e := List.mem_singleton.mp hc
    subst e
    exact ⟨He.cls_ok (D.fact 48 (f := .cls "Policy") rfl), He.noat_ok (D.fact 49 (f := .noat "Policy" "parts") rfl)⟩
  have g_MAX_GRANTS := He.int_ok X Gm (D.fact 50 (f := .int "MAX_GRANTS" 240) rfl)
  have g_MAX_LABELS := He.int_ok X Gm (D.fact 51 (f := .int "MAX_LABELS" 4) rfl)
  have g_MAX_OWNERS := He.int_ok X Gm (D.fact 52 (f := .int "MAX_OWNERS" 7) rfl)
  have c_is_integer : Cal P w K mg base ⟨K, clA K, fun _ => 0⟩ "is_integer" 1 fn_is_integer := ⟨_, _, _, ok_is_integer (toFun F_is_integer) b_bool b_int b_isinstance, G_is_integer, F_is_integer.kp, B_is_integer⟩
  have c_is_role : Cal P w K mg base ⟨K, clA K, fun _ => 0⟩ "is_role" 2 fn_is_role := ⟨_, _, _, ok_is_role (toFun F_is_role) b_isinstance b_len b_tuple c_is_integer, G_is_role, F_is_role.kp, B_is_role⟩
  have c_is_word : Cal P w K mg base ⟨K, clA K, fun _ => 0⟩ "is_word" 1 fn_is_word := ⟨_, _, _, ok_is_word (toFun F_is_word) b_isinstance b_str, G_is_word, F_is_word.kp, B_is_word⟩
  have c_is_body : Cal P w K mg base ⟨K, clA K, fun _ => 0⟩ "is_body" 3 fn_is_body := ⟨_, _, _, ok_is_body (toFun F_is_body) b_isinstance b_len b_tuple c_is_integer c_is_role c_is_word, G_is_body, F_is_body.kp, B_is_body⟩
  have c_grant_word : Cal P w K mg base ⟨K, clA K, fun _ => 0⟩ "grant_word" 4 fn_grant_word := ⟨_, _, _, ok_grant_word (toFun F_grant_word) b_isinstance b_len b_tuple c_is_body c_is_role, G_grant_word, F_grant_word.kp, B_grant_word⟩
  have c_all_roles : Cal P w K mg base ⟨K, clA K, fun _ => 0⟩ "all_roles" 1 fn_all_roles := ⟨_, _, _, ok_all_roles (toFun F_all_roles) b_range b_tuple, G_all_roles, F_all_roles.kp, B_all_roles⟩
  have c_members : Cal P w K mg base ⟨K, clA K, fun _ => 0⟩ "members" 1 fn_members := ⟨_, _, _, ok_members (toFun F_members) b_tuple, G_members, F_members.kp, B_members⟩
  have c_by_body : Cal P w K mg base ⟨K, clA K, fun _ => 0⟩ "by_body" 2 fn_by_body := ⟨_, _, _, ok_by_body (toFun F_by_body) c_members, G_by_body, F_by_body.kp, B_by_body⟩
  have c_next_round : Cal P w K mg base ⟨K, clA K, fun _ => 0⟩ "next_round" 3 fn_next_round := ⟨_, _, _, ok_next_round (toFun F_next_round) b_dict c_by_body, G_next_round, F_next_round.kp, B_next_round⟩
  have c_spread : Cal P w K mg base ⟨K, clA K, fun _ => 0⟩ "spread" 4 fn_spread := ⟨_, _, _, ok_spread (toFun F_spread) c_all_roles c_next_round, G_spread, F_spread.kp, B_spread⟩
  have p_Policy_owners : CalP P w K mg base ⟨K, clA K, fun _ => 0⟩ 0 "owners" 1 fn_Policy_owners := ⟨_, _, _, _, ok_Policy_owners (toFun F_Policy_owners) f_Policy_parts, He.cls_ok (D.fact 48 (f := .cls "Policy") rfl), PO_Policy_owners, B_Policy_owners⟩
  have p_Policy_labels : CalP P w K mg base ⟨K, clA K, fun _ => 0⟩ 0 "labels" 1 fn_Policy_labels := ⟨_, _, _, _, ok_Policy_labels (toFun F_Policy_labels) f_Policy_parts, He.cls_ok (D.fact 48 (f := .cls "Policy") rfl), PO_Policy_labels, B_Policy_labels⟩
  have p_Policy_grants : CalP P w K mg base ⟨K, clA K, fun _ => 0⟩ 0 "grants" 1 fn_Policy_grants := ⟨_, _, _, _, ok_Policy_grants (toFun F_Policy_grants) f_Policy_parts, He.cls_ok (D.fact 48 (f := .cls "Policy") rfl), PO_Policy_grants, B_Policy_grants⟩
  have c_bits_of : Cal P w K mg base ⟨K, clA K, fun _ => 0⟩ "bits_of" 5 fn_bits_of := ⟨_, _, _, ok_bits_of (toFun F_bits_of) c_spread p_Policy_grants p_Policy_labels p_Policy_owners, G_bits_of, F_bits_of.kp, B_bits_of⟩
  have c_holders : Cal P w K mg base ⟨K, clA K, fun _ => 0⟩ "holders" 6 fn_holders := ⟨_, _, _, ok_holders (toFun F_holders) c_bits_of c_members, G_holders, F_holders.kp, B_holders⟩
  have m_Policy_roles : CalM P w K mg base ⟨K, clA K, fun _ => 0⟩ 0 "roles" 3 fn_Policy_roles := ⟨_, _, _, ok_Policy_roles (toFun F_Policy_roles) c_all_roles p_Policy_labels p_Policy_owners, He.cls_ok (D.fact 48 (f := .cls "Policy") rfl), He.meth_ok (D.fact 53 (f := .meth "Policy" "roles") rfl), B_Policy_roles⟩
  have c_table : Cal P w K mg base ⟨K, clA K, fun _ => 0⟩ "table" 6 fn_table := ⟨_, _, _, ok_table (toFun F_table) b_tuple c_bits_of c_members m_Policy_roles, G_table, F_table.kp, B_table⟩
  have c_held : Cal P w K mg base ⟨K, clA K, fun _ => 0⟩ "held" 6 fn_held := ⟨_, _, _, ok_held (toFun F_held) b_tuple c_bits_of c_members m_Policy_roles, G_held, F_held.kp, B_held⟩
  have c_check_policy : Cal P w K mg base ⟨K, clA K, fun _ => 0⟩ "check_policy" 5 fn_check_policy := ⟨_, _, _, ok_check_policy (toFun F_check_policy) b_enumerate b_isinstance b_len b_tuple c_grant_word c_is_integer e_BadPolicy g_MAX_GRANTS g_MAX_LABELS g_MAX_OWNERS, G_check_policy, F_check_policy.kp, B_check_policy⟩
  have k_Policy_init : CalK P w K mg base ⟨K, clA K, fun _ => 0⟩ "Policy" 0 6 fn_Policy_init := ⟨_, _, _, ok_Policy_init (toFun F_Policy_init) c_check_policy f_Policy_parts, He.mkr_ok (D.fact 54 (f := .mkr "Policy") rfl), He.glo_ok X Gm (D.fact 55 (f := .glo "Policy") rfl), B_Policy_init⟩
  have c_law_deck : Cal P w K mg base ⟨K, clA K, fun _ => 0⟩ "_law_deck" 1 fn_law_deck := ⟨_, _, _, ok_law_deck (toFun F_law_deck) b_abs b_len b_list, G_law_deck, F_law_deck.kp, B_law_deck⟩
  have c_law_take : Cal P w K mg base ⟨K, clA K, fun _ => 0⟩ "_law_take" 1 fn_law_take := ⟨_, _, _, ok_law_take (toFun F_law_take) b_len, G_law_take, F_law_take.kp, B_law_take⟩
  have c_law_one : Cal P w K mg base ⟨K, clA K, fun _ => 0⟩ "_law_one" 2 fn_law_one := ⟨_, _, _, ok_law_one (toFun F_law_one) b_len c_law_take, G_law_one, F_law_one.kp, B_law_one⟩
  have c_law_all_roles : Cal P w K mg base ⟨K, clA K, fun _ => 0⟩ "_law_all_roles" 1 fn_law_all_roles := ⟨_, _, _, ok_law_all_roles (toFun F_law_all_roles) b_range, G_law_all_roles, F_law_all_roles.kp, B_law_all_roles⟩
  have c_law_role : Cal P w K mg base ⟨K, clA K, fun _ => 0⟩ "_law_role" 2 fn_law_role := ⟨_, _, _, ok_law_role (toFun F_law_role) c_law_take, G_law_role, F_law_role.kp, B_law_role⟩
  have c_law_body : Cal P w K mg base ⟨K, clA K, fun _ => 0⟩ "_law_body" 3 fn_law_body := ⟨_, _, _, ok_law_body (toFun F_law_body) b_max b_min c_law_one c_law_role c_law_take, G_law_body, F_law_body.kp, B_law_body⟩
  have c_law_grants : Cal P w K mg base ⟨K, clA K, fun _ => 0⟩ "_law_grants" 4 fn_law_grants := ⟨_, _, _, ok_law_grants (toFun F_law_grants) b_range b_set b_sorted b_tuple c_law_body c_law_one c_law_role, G_law_grants, F_law_grants.kp, B_law_grants⟩
  have c_law_parts : Cal P w K mg base ⟨K, clA K, fun _ => 0⟩ "_law_parts" 5 fn_law_parts := ⟨_, _, _, ok_law_parts (toFun F_law_parts) c_law_grants c_law_one c_law_take, G_law_parts, F_law_parts.kp, B_law_parts⟩
  have c_law_by : Cal P w K mg base ⟨K, clA K, fun _ => 0⟩ "_law_by" 1 fn_law_by := ⟨_, _, _, ok_law_by (toFun F_law_by) , G_law_by, F_law_by.kp, B_law_by⟩
  have c_law_known : Cal P w K mg base ⟨K, clA K, fun _ => 0⟩ "_law_known" 2 fn_law_known := ⟨_, _, _, ok_law_known (toFun F_law_known) b_list b_sorted c_law_all_roles c_law_by, G_law_known, F_law_known.kp, B_law_known⟩
  have c_law_now : Cal P w K mg base ⟨K, clA K, fun _ => 0⟩ "_law_now" 3 fn_law_now := ⟨_, _, _, ok_law_now (toFun F_law_now) c_law_known, G_law_now, F_law_now.kp, B_law_now⟩
  have c_law_ringed : Cal P w K mg base ⟨K, clA K, fun _ => 0⟩ "_law_ringed" 3 fn_law_ringed := ⟨_, _, _, ok_law_ringed (toFun F_law_ringed) b_range b_set b_sorted b_tuple b_zip c_law_role c_law_take, G_law_ringed, F_law_ringed.kp, B_law_ringed⟩
  exact ok_law_k04 (toFun F_law_k04) b_range b_repr b_tuple c_held c_holders c_law_all_roles c_law_deck c_law_now c_law_parts c_law_ringed c_law_take c_table k_Policy_init p_Policy_grants
end T04

open PySem PySem.W PySem.Calls PyProof.Rows
theorem PySem.Challenge.cw_grantsgrow_k04_holders_holds : PySem.Challenge.rw_grantsgrow_k04_holders.Holds := by
  w_on; o_law
  refine HandSHeadRun.head_any (r := OpenLaw.row PySem.Challenge.rw_grantsgrow_k04_holders) (q := view (OpenLaw.row PySem.Challenge.rw_grantsgrow_k04_holders).prog [41]) (H := T04.hk) (ob := T04.ob) (M := 40000) (loose := T04.loose) (d := HandSHeadRun.topDef (OpenLaw.row PySem.Challenge.rw_grantsgrow_k04_holders).prog 41) (kwd := []) T04.ob_eq
    (by kernel_rfl) (fun s => by kernel_rfl) T04.run (by kernel_rfl) (by kernel_rfl) (by kernel_rfl) (by rfl) (by first | assumption | decide +kernel) (by decide +kernel) ⟨rfl, rfl, rfl, rfl, rfl, by decide +kernel⟩ ?hw ?hc
  case hw => w_witness2
  case hc =>
    refine G.walkG (l := PySem.Challenge.rw_grantsgrow_k04_holders) (n := 63) (k := 8) (x := "_law_script") (CX := fun w => L2.CX (PySem.Challenge.rw_grantsgrow_k04_holders).prog w) rfl (by decide) (by kernel_rfl) ⟨rfl, by decide, by decide⟩ ?F (fun w H s e s' z => G.noCX z)
    intro w mg fa h Y Gm hmg0
    obtain ⟨K, KX, c⟩ := Y
    have hmg : mg ("law" : PySem.Str) = some (.ref fa) := by
      have e : (HandSHeadRun.topDef (OpenLaw.row PySem.Challenge.rw_grantsgrow_k04_holders).prog 41).name = ("law" : PySem.Str) := by kernel_rfl
      rw [← e]
      exact hmg0
    obtain ⟨fd, sp, hb, hsp, hF⟩ := T04.facts (P := (PySem.Challenge.rw_grantsgrow_k04_holders).prog) (w := w) KX Gm hmg c
    exact ⟨K, fd, sp, KX, hb, hsp, hF⟩
end
