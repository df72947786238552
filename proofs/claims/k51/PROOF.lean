import PyProof.Rows.All
import Wide.All
import OpenK.AllK
import Wide.FinOn
import HandS.ForMost
import HandS.ForExc
import HandS.CallSlots
import HandS.Lambda
import KE.KDictKeyed
import KE.KeyNested
import HandS.Wide
import HandS.TupAny
import HandS.Deep
import HandS.IsInst
import HandS.FStr
import HandS.TupLen
import KE.LtSeq
import KE.DataMinMax
import HandS.RaiseMore
import HandS.ReplaceLit
import HandS.HeadEnd
import HandS.HeadHook4
import HandS.Head2
import HandS.Defaults
import HandS.TupSets
import HandS.SortOrd
import HandS.Property
import HandS.DictEq
import KE.KDictOf
import KE.KDictCopyH
import HandS.Zip
import KE.GoesEnum
import PyProof.FString5
import HandS.DictComp
import HandS.Style
import HandS.SortInts
import HandS.ExcInit
import HandS.Small
import HandS.OwnIter
import HandS.Conv
import HandS.OwnEq
import HandS.TupMul
import HandS.TryMany
import HandS.ExcField
import KE.KExcIs
import HandS.ExcIs
import HandS.CallLocal
import KE.KDictSum
import HandS.SetBool
import KE.KExcInit
import HandS.ExcValue
import KE.KCallOwn
import HandS.Iter
import HandS.ListEq
import HandS.MakeKw
import HandS.Nested
import HandS.EndTab
import HandS.Finally
import HandS.Text
import PyProof.StrOps2
import PyProof.NeKinds
import PySem.Challenge.RW_grantsgrow_k51_texts_of_no_grants
set_option Elab.async false
set_option linter.all false
set_option maxRecDepth 100000
set_option maxHeartbeats 4000000
section
namespace G
open PySem L2
inductive D where
  | non | bl (b : Bool) | int (i : Int) | str (x : Str)
  | tup (xs : List D) | lst (xs : List D) | dic (ks vs : List D) | ins (c : Nat) (ns : List Str) (vs : List D)
  | ref (i : Nat) | fn (i : Nat) | scr (xs : List D) | ktp (xs : List D) | ty (n : String) | cl (c : Nat)
  | lam (f c : Addr) (q : Str) (ds : List D) (us : List V)
  deriving Inhabited
inductive Ob where
  | lst (xs : List D) | dic (ks vs : List D) | ins (c : Nat) (ns : List Str) (vs : List D) | tbl (i : Nat) (q : Str) | ndc (ks vs : List D) | fdc (o : Obj) (u : HO) (ks vs : List D)
  deriving Inhabited
abbrev Sto := List Ob
structure Bas where
  K : PySem.W.Frag
  cls : Nat → Addr
  fn : Nat → Addr
  P : Program
  w : World
structure Mp where
  mu : Nat → Addr
  n : Nat
  Z : Hp
def Mp.out (m : Mp) (a : Addr) : Prop := ∀ i, i < m.n → m.mu i ≠ a
def KTup (K : PySem.W.Frag) (a : Addr) (vs : List V) : Prop := SqT K (fun _ => none) a vs
def KLst (K : PySem.W.Frag) (a : Addr) (vs : List V) : Prop := SqL K (fun _ => none) a vs
def TupAt (m : Mp) (a : Addr) (vs : List V) : Prop := m.Z a = some (.tup vs) ∧ m.out a
def LstAt (m : Mp) (a : Addr) (vs : List V) : Prop := m.Z a = some (.lst vs) ∧ m.out a
def ScrAt (B : Bas) (m : Mp) (a : Addr) (vs : List V) : Prop := (Rd m.Z a (.lst vs) ∧ m.out a) ∨ KLst B.K a vs
def keyD : D → Option Key
  | .int i => some (.inl i)
  | .str x => some (.inr x)
  | _ => none
def keysD : List D → Option (List Key)
  | [] => some []
  | d :: r => match keyD d, keysD r with
    | some k, some ks => some (k :: ks)
    | _, _ => none
def tkeyD : D → Option (List Key)
  | .tup ds => keysD ds
  | _ => none
def tkeysD : List D → Option (List (List Key))
  | [] => some []
  | d :: r => match tkeyD d, tkeysD r with
    | some k, some ks => some (k :: ks)
    | _, _ => none
def DicAt (o : Option HO) (ks : List D) (vs : List V) : Prop :=
  ks.length = vs.length ∧ ((∃ q, ks ≠ [] ∧ keysD ks = some q ∧ o = some (.dK (q.zip vs))) ∨ ∃ q, tkeysD ks = some q ∧ o = some (.dT (q.zip vs)))
mutual
def Rep (B : Bas) (m : Mp) : D → V → Prop
  | .non, v => v = .non
  | .bl b, v => v = .bl b
  | .int i, v => v = .int i
  | .str x, v => v = .str x
  | .tup ds, v => ∃ a vs, v = .ref a ∧ TupAt m a vs ∧ Reps B m ds vs
  | .lst ds, v => ∃ a vs, v = .ref a ∧ LstAt m a vs ∧ Reps B m ds vs
  | .dic ks ds, v => ∃ a vs, v = .ref a ∧ m.out a ∧ DicAt (m.Z a) ks vs ∧ Reps B m ds vs
  | .ins c ns ds, v => ∃ a dx vs, v = .ref a ∧ m.out a ∧ m.Z a = some (.ins (B.cls c) dx (ns.zip vs)) ∧ ns.length = vs.length ∧ Reps B m ds vs
  | .ref i, v => i < m.n ∧ v = .ref (m.mu i)
  | .fn i, v => v = .ref (B.fn i)
  | .ty n, v => v = .ty n
  | .cl c, v => v = .ref (B.cls c)
  | .scr ds, v => ∃ a vs, v = .ref a ∧ ScrAt B m a vs ∧ Reps B m ds vs
  | .ktp ds, v => ∃ a vs, v = .ref a ∧ KTup B.K a vs ∧ Reps B m ds vs
  | .lam f c q ds us, v => v = .ref f ∧ m.Z c = some (LamX.CodeO c q) ∧ m.out c ∧ Reps B m ds us
def Reps (B : Bas) (m : Mp) : List D → List V → Prop
  | [], vs => vs = []
  | d :: ds, vs => ∃ v r, vs = v :: r ∧ Rep B m d v ∧ Reps B m ds r
end
abbrev NK := NestedKey
mutual
def nkD : D → Option NK
  | .int i => some (.num i)
  | .str x => some (.text x)
  | .tup ds => (nkDs ds).map .tup
  | _ => none
def nkDs : List D → Option (List NK)
  | [] => some []
  | d :: r => match nkD d, nkDs r with
    | some k, some ks => some (k :: ks)
    | _, _ => none
end
def trip (qs : List (NK × Addr)) (us : List Value) : List (NK × Addr × Value) := (qs.zip us).map fun z => (z.1.1, z.1.2, z.2)
def ndO (P : Program) (w : World) (a : Addr) (qs : List (NK × Addr)) (vs : List V) : HO := .ext fun h => vs.length ≤ sizeLine ∧ (a == sysModules) = false ∧ ∃ us : List Value, Vals vs us ∧ qs.length = us.length ∧
  ∃ o es ep, h.get? a = some o ∧ o.ExactDict ∧ o.data = .dict es ep ∧ es.toList = (trip qs us).map (entryOfKey (nestedKind P w)) ∧ (qs.map (·.1)).Nodup
def NdAt (B : Bas) (a : Addr) (o : Option HO) (qs : List (NK × Addr)) (vs : List V) : Prop := (qs = [] ∧ vs = [] ∧ o = some (.dT [])) ∨ ((∀ q ∈ qs, q.1.depth ≤ 8) ∧ o = some (ndO B.P B.w a qs vs))
theorem NdAt.some {B : Bas} {a : Addr} {o : Option HO} {qs : List (NK × Addr)} {vs : List V} (h : NdAt B a o qs vs) : ∃ u, o = some u := by
  rcases h with ⟨_, _, e⟩ | ⟨_, e⟩
  · exact ⟨_, e⟩
  · exact ⟨_, e⟩
def ObR (B : Bas) (m : Mp) (a : Addr) : Ob → Prop
  | .tbl i q => a = B.fn i ∧ ∃ ps : Array Value, m.Z a = some (.tbl ps) ∧ TriplesOk ps.toList ∧ ∀ (pos : Pos) (cv : Value), codeAmong pos ps.toList = some cv → ∃ c, cv = .ref c ∧ m.Z c = some (LamX.CodeO c q) ∧ m.out c
  | .ndc ks ds => ∃ (qs : List (NK × Addr)) (vs : List V), NdAt B a (m.Z a) qs vs ∧ nkDs ks = some (qs.map (·.1)) ∧ Reps B m ks (qs.map fun q => V.ref q.2) ∧ Reps B m ds vs
  | .lst ds => ∃ vs, m.Z a = some (.lst vs) ∧ Reps B m ds vs
  | .dic ks ds => ∃ vs, DicAt (m.Z a) ks vs ∧ Reps B m ds vs
  | .fdc o u ks ds => m.Z a = some (.frz o u) ∧ ∃ vs, DicAt (some u) ks vs ∧ Reps B m ds vs
  | .ins c ns ds => ∃ dx vs, m.Z a = some (.ins (B.cls c) dx (ns.zip vs)) ∧ ns.length = vs.length ∧ Reps B m ds vs
structure Cor (B : Bas) (m : Mp) (S : Sto) : Prop where
  n : m.n = S.length
  ob : ∀ i o, S[i]? = some o → ObR B m (m.mu i) o
  inj : ∀ i j, i < m.n → j < m.n → m.mu i = m.mu j → i = j
def Sub (m : Mp) (H : Hp) : Prop := ∀ a o, m.Z a = some o → H a = some o
structure Kp (m m' : Mp) : Prop where
  le : m.n ≤ m'.n
  mu : ∀ i, i < m.n → m'.mu i = m.mu i
  keep : ∀ a o, m.Z a = some o → m.out a → m'.Z a = some o ∧ m'.out a
def Tp (o : HO) : Prop := ∃ vs, o = .tup vs
structure Le (m : Mp) (H : Hp) (m' : Mp) (H' : Hp) : Prop extends Kp m m' where
  fr0 : ∀ a o, m.Z a = none → H a = some o → H' a = some o ∧ (m'.Z a = none ∨ (m'.Z a = some o ∧ m'.out a ∧ Tp o))
  sub : Sub m' H'
theorem Le.fr {m m' : Mp} {H H' : Hp} (l : Le m H m' H') (a : Addr) (o : HO) (h1 : m.Z a = none) (h2 : H a = some o) (nt : ¬ Tp o := by rintro ⟨_, e⟩; cases e) : H' a = some o ∧ m'.Z a = none := by
  obtain ⟨p, q | ⟨_, _, q⟩⟩ := l.fr0 a o h1 h2
  · exact ⟨p, q⟩
  · exact absurd q nt
theorem Kp.trans {m m1 m2 : Mp} (a : Kp m m1) (b : Kp m1 m2) : Kp m m2 where
  le := Nat.le_trans a.le b.le
  mu := fun i h => (b.mu i (Nat.lt_of_lt_of_le h a.le)).trans (a.mu i h)
  keep := fun x o h1 h2 => let ⟨p, q⟩ := a.keep x o h1 h2; b.keep x o p q
theorem Kp.refl (m : Mp) : Kp m m := ⟨Nat.le_refl _, fun _ _ => rfl, fun _ _ z o => ⟨z, o⟩⟩
theorem Le.refl {m : Mp} {H : Hp} (h : Sub m H) : Le m H m H := ⟨Kp.refl m, fun _ _ z o => ⟨o, .inl z⟩, h⟩
theorem Le.trans {m m1 m2 : Mp} {H H1 H2 : Hp} (a : Le m H m1 H1) (b : Le m1 H1 m2 H2) : Le m H m2 H2 where
  toKp := a.toKp.trans b.toKp
  fr0 := fun x o h1 h2 => by
    obtain ⟨p, q | ⟨q1, q2, q3⟩⟩ := a.fr0 x o h1 h2
    · exact b.fr0 x o q p
    · obtain ⟨k1, k2⟩ := b.keep x o q1 q2
      exact ⟨b.sub x o k1, .inr ⟨k1, k2, q3⟩⟩
  sub := b.sub
theorem KTup.sq {K : PySem.W.Frag} {H : Hp} {a : Addr} {vs : List V} (h : KTup K a vs) : SqT K H a vs := by
  rcases h with (h | ⟨o, h⟩) | h
  · cases h
  · cases h
  · exact .inr h
theorem KLst.sq {K : PySem.W.Frag} {H : Hp} {a : Addr} {vs : List V} (h : KLst K a vs) : SqL K H a vs := by
  rcases h with (h | ⟨o, h⟩) | h
  · cases h
  · cases h
  · exact .inr h
section
variable {B : Bas} {m m' : Mp} {H H' : Hp}
theorem Rd.sub {Z : Hp} {a : Addr} {u : HO} (s : ∀ o, Z a = some o → H a = some o) (h : Rd Z a u) : Rd H a u := by
  rcases h with h | ⟨o, h⟩
  · exact .inl (s _ h)
  · exact .inr ⟨o, s _ h⟩
theorem TupAt.sq {a : Addr} {vs : List V} (s : Sub m H) (h : TupAt m a vs) : SqT B.K H a vs := .inl (.inl (s a _ h.1))
theorem LstAt.sq {a : Addr} {vs : List V} (s : Sub m H) (h : LstAt m a vs) : SqL B.K H a vs := .inl (.inl (s a _ h.1))
theorem ScrAt.sq {a : Addr} {vs : List V} (s : Sub m H) (h : ScrAt B m a vs) : SqL B.K H a vs := by
  rcases h with ⟨h, _⟩ | h
  · exact .inl (Rd.sub (s a) h)
  · exact h.sq
theorem rd_keep (l : Kp m m') {a : Addr} {u : HO} (h : Rd m.Z a u) (o : m.out a) : Rd m'.Z a u ∧ m'.out a := by
  rcases h with h | ⟨x, h⟩
  · exact ⟨.inl (l.keep _ _ h o).1, (l.keep _ _ h o).2⟩
  · exact ⟨.inr ⟨x, (l.keep _ _ h o).1⟩, (l.keep _ _ h o).2⟩
theorem TupAt.mono (l : Kp m m') {a : Addr} {vs : List V} (h : TupAt m a vs) : TupAt m' a vs := l.keep _ _ h.1 h.2
theorem LstAt.mono (l : Kp m m') {a : Addr} {vs : List V} (h : LstAt m a vs) : LstAt m' a vs := l.keep _ _ h.1 h.2
theorem ScrAt.mono (l : Kp m m') {a : Addr} {vs : List V} (h : ScrAt B m a vs) : ScrAt B m' a vs := by
  rcases h with ⟨h, o⟩ | h
  · exact .inl (rd_keep l h o)
  · exact .inr h
theorem DicAt.some {o : Option HO} {ks : List D} {vs : List V} (h : DicAt o ks vs) : ∃ u, o = some u := by
  rcases h with ⟨_, ⟨q, _, _, e⟩ | ⟨q, _, e⟩⟩
  · exact ⟨_, e⟩
  · exact ⟨_, e⟩
mutual
theorem Rep.monoK (l : Kp m m') : ∀ {d : D} {v : V}, Rep B m d v → Rep B m' d v
  | .non, _, h => by simpa only [Rep] using h
  | .bl _, _, h => by simpa only [Rep] using h
  | .int _, _, h => by simpa only [Rep] using h
  | .str _, _, h => by simpa only [Rep] using h
  | .tup ds, v, h => by
    simp only [Rep] at h ⊢
    obtain ⟨a, vs, e, t, r⟩ := h
    exact ⟨a, vs, e, t.mono l, Reps.monoK l r⟩
  | .lst ds, v, h => by
    simp only [Rep] at h ⊢
    obtain ⟨a, vs, e, t, r⟩ := h
    exact ⟨a, vs, e, t.mono l, Reps.monoK l r⟩
  | .dic ks ds, v, h => by
    simp only [Rep] at h ⊢
    obtain ⟨a, vs, e, o, t, r⟩ := h
    obtain ⟨u, hu⟩ := t.some
    obtain ⟨k1, k2⟩ := l.keep a u hu o
    exact ⟨a, vs, e, k2, by rw [k1, ← hu]; exact t, Reps.monoK l r⟩
  | .ins c ns ds, v, h => by
    simp only [Rep] at h ⊢
    obtain ⟨a, dx, vs, e, o, t, n, r⟩ := h
    obtain ⟨k1, k2⟩ := l.keep a _ t o
    exact ⟨a, dx, vs, e, k2, k1, n, Reps.monoK l r⟩
  | .ref i, v, h => by
    simp only [Rep] at h ⊢
    exact ⟨Nat.lt_of_lt_of_le h.1 l.le, by rw [l.mu i h.1]; exact h.2⟩
  | .fn _, _, h => by simpa only [Rep] using h
  | .ty _, _, h => by simpa only [Rep] using h
  | .cl _, _, h => by simpa only [Rep] using h
  | .scr ds, v, h => by
    simp only [Rep] at h ⊢
    obtain ⟨a, vs, e, t, r⟩ := h
    exact ⟨a, vs, e, t.mono l, Reps.monoK l r⟩
  | .ktp ds, v, h => by
    simp only [Rep] at h ⊢
    obtain ⟨a, vs, e, t, r⟩ := h
    exact ⟨a, vs, e, t, Reps.monoK l r⟩
  | .lam f c q ds us, v, h => by
    simp only [Rep] at h ⊢
    obtain ⟨e, t, o, r⟩ := h
    obtain ⟨k1, k2⟩ := l.keep c _ t o
    exact ⟨e, k1, k2, Reps.monoK l r⟩
theorem Reps.monoK (l : Kp m m') : ∀ {ds : List D} {vs : List V}, Reps B m ds vs → Reps B m' ds vs
  | [], _, h => by simpa only [Reps] using h
  | d :: ds, _, h => by
    simp only [Reps] at h ⊢
    obtain ⟨v, r, e, p, q⟩ := h
    exact ⟨v, r, e, Rep.monoK l p, Reps.monoK l q⟩
end
theorem ObR.monoK (l : Kp m m') {a : Addr} (hz : m'.Z a = m.Z a) {o : Ob} (h : ObR B m a o) : ObR B m' a o := by
  cases o with
  | tbl i q =>
    obtain ⟨ea, ps, e, t, f⟩ := h
    refine ⟨ea, ps, hz.trans e, t, fun pos cv hc => ?_⟩
    obtain ⟨c, e1, e2, e3⟩ := f pos cv hc
    obtain ⟨k1, k2⟩ := l.keep c _ e2 e3
    exact ⟨c, e1, k1, k2⟩
  | ndc ks ds => obtain ⟨qs, vs, e, n, r1, r2⟩ := h; exact ⟨qs, vs, by rw [hz]; exact e, n, r1.monoK l, r2.monoK l⟩
  | lst ds => obtain ⟨vs, e, r⟩ := h; exact ⟨vs, hz.trans e, r.monoK l⟩
  | dic ks ds => obtain ⟨vs, e, r⟩ := h; exact ⟨vs, by rw [hz]; exact e, r.monoK l⟩
  | fdc o u ks ds => obtain ⟨e, vs, q, r⟩ := h; exact ⟨hz.trans e, vs, q, r.monoK l⟩
  | ins c ns ds => obtain ⟨dx, vs, e, n, r⟩ := h; exact ⟨dx, vs, hz.trans e, n, r.monoK l⟩
theorem ObR.some {a : Addr} {o : Ob} (h : ObR B m a o) : ∃ u, m.Z a = some u := by
  cases o with
  | tbl i q => obtain ⟨_, ps, e, _⟩ := h; exact ⟨_, e⟩
  | ndc ks ds => obtain ⟨qs, vs, e, _⟩ := h; exact e.some
  | lst ds => obtain ⟨vs, e, r⟩ := h; exact ⟨_, e⟩
  | dic ks ds => obtain ⟨vs, e, r⟩ := h; exact e.some
  | fdc o u ks ds => obtain ⟨e, _⟩ := h; exact ⟨_, e⟩
  | ins c ns ds => obtain ⟨dx, vs, e, n, r⟩ := h; exact ⟨_, e⟩
theorem Rep.mono (l : Le m H m' H') {d : D} {v : V} (h : Rep B m d v) : Rep B m' d v := Rep.monoK l.toKp h
theorem Reps.mono (l : Le m H m' H') {d : List D} {v : List V} (h : Reps B m d v) : Reps B m' d v := Reps.monoK l.toKp h
theorem ObR.mono (l : Le m H m' H') {a : Addr} (hz : m'.Z a = m.Z a) {o : Ob} (h : ObR B m a o) : ObR B m' a o := ObR.monoK l.toKp hz h
theorem Cor.same {S : Sto} (c : Cor B m S) (l : Le m H m' H') (hn : m'.n = m.n) (hz : ∀ i, i < m.n → m'.Z (m.mu i) = m.Z (m.mu i)) : Cor B m' S where
  n := hn.trans c.n
  ob := fun i o e => by
    have hi : i < m.n := by rw [c.n]; exact (List.getElem?_eq_some_iff.mp e).1
    rw [l.mu i hi]
    exact (c.ob i o e).mono l (hz i hi)
  inj := fun i j hi hj e => by
    rw [hn] at hi hj
    rw [l.mu i hi, l.mu j hj] at e
    exact c.inj i j hi hj e
theorem Cor.at {S : Sto} (c : Cor B m S) {i : Nat} (hi : i < m.n) : ∃ u, m.Z (m.mu i) = some u := by
  have h : i < S.length := by rw [← c.n]; exact hi
  exact (c.ob i _ (List.getElem?_eq_getElem h)).some
theorem Cor.out_of {S : Sto} (c : Cor B m S) {a : Addr} (h : m.Z a = none) : m.out a := fun i hi e => by
  obtain ⟨u, hu⟩ := c.at hi
  rw [e, h] at hu
  cases hu
theorem Sub.none (s : Sub m H) {a : Addr} (h : H a = none) : m.Z a = none := by
  cases e : m.Z a with
  | none => rfl
  | some o => rw [s a o e] at h; cases h
def Mp.put (m : Mp) (p : Addr) (o : HO) : Mp := { m with Z := upd m.Z p o }
theorem Le.new {S : Sto} {p : Addr} {o : HO} (c : Cor B m S) (s : Sub m H) (h : H p = none) : Le m H (m.put p o) (upd H p o) where
  le := Nat.le_refl _
  mu := fun _ _ => rfl
  keep := fun a u e q => ⟨by show upd m.Z p o a = _; rw [upd_ne (ne_of_none e (s.none h))]; exact e, q⟩
  fr0 := fun a u e q => by
    have ne : a ≠ p := ne_of_none q h
    exact ⟨by rw [upd_ne ne]; exact q, .inl <| by show upd m.Z p o a = _; rw [upd_ne ne]; exact e⟩
  sub := fun a u e => by
    by_cases ha : a = p
    · subst ha
      have e' : upd m.Z a o a = some u := e
      rw [upd_same] at e' ⊢
      exact e'
    · have e' : upd m.Z p o a = some u := e
      rw [upd_ne ha] at e' ⊢
      exact s a u e'
theorem Cor.new {S : Sto} {p : Addr} {o : HO} (c : Cor B m S) (s : Sub m H) (h : H p = none) : Cor B (m.put p o) S :=
  c.same (Le.new (o := o) c s h) rfl fun i hi => by
    obtain ⟨u, hu⟩ := c.at hi
    show upd m.Z p o (m.mu i) = _
    rw [upd_ne (ne_of_none hu (s.none h))]
theorem Le.take {S : Sto} {p : Addr} {o : HO} (c : Cor B m S) (s : Sub m H) (hz : m.Z p = none) (h : H p = some o) : Sub (m.put p o) H := fun a u e => by
  by_cases ha : a = p
  · subst ha
    have e' : upd m.Z a o a = some u := e
    rw [upd_same] at e'
    cases e'
    exact h
  · have e' : upd m.Z p o a = some u := e
    rw [upd_ne ha] at e'
    exact s a u e'
end
abbrev En := List (Option D)
def EnR (B : Bas) (m : Mp) (en : En) (σ : St) : Prop := en.length = σ.length ∧ ∀ (i : Nat) (d : D), en[i]? = some (some d) → ∃ v, σ[i]? = some (some v) ∧ Rep B m d v
theorem EnR.mono {B : Bas} {m m' : Mp} {H H' : Hp} {en : En} {σ : St} (l : Le m H m' H') (h : EnR B m en σ) : EnR B m' en σ :=
  ⟨h.1, fun i d e => let ⟨v, a, b⟩ := h.2 i d e; ⟨v, a, b.mono l⟩⟩
theorem EnR.set {B : Bas} {m : Mp} {en : En} {σ : St} {d : D} {v : V} (i : Nat) (h : EnR B m en σ) (r : Rep B m d v) : EnR B m (en.set i (some d)) (σ.set i (some v)) := by
  refine ⟨by rw [List.length_set, List.length_set, h.1], fun j x e => ?_⟩
  by_cases hj : i = j
  · subst hj
    have hi : i < en.length := by
      have := (List.getElem?_eq_some_iff.mp e).1
      rwa [List.length_set] at this
    rw [List.getElem?_set_self hi] at e
    cases e
    exact ⟨v, by rw [List.getElem?_set_self (by rw [← h.1]; exact hi)], r⟩
  · rw [List.getElem?_set_ne hj] at e
    rw [List.getElem?_set_ne hj]
    exact h.2 j x e
inductive Res (α : Type) where
  | ok (a : α) (S : Sto)
  | ex (c : Nat) (ns : List Str) (vs : List D) (S : Sto)
  | bad
def Res.bind {α β : Type} (r : Res α) (k : α → Sto → Res β) : Res β := match r with
  | .ok a S => k a S
  | .ex c ns vs S => .ex c ns vs S
  | .bad => .bad
@[simp] theorem Res.bind_ok {α β : Type} (a : α) (S : Sto) (k : α → Sto → Res β) : (Res.ok a S).bind k = k a S := rfl
@[simp] theorem Res.bind_ex {α β : Type} (c : Nat) (ns : List Str) (vs : List D) (S : Sto) (k : α → Sto → Res β) : (Res.ex c ns vs S : Res α).bind k = .ex c ns vs S := rfl
@[simp] theorem Res.bind_bad {α β : Type} (k : α → Sto → Res β) : (Res.bad : Res α).bind k = .bad := rfl
def ExR (B : Bas) (m : Mp) (ns : List Str) (vs : List D) (dd : Option Addr) : Prop :=
  (ns = [] ∧ vs = [] ∧ dd = none) ∨ ∃ a us, dd = some a ∧ m.Z a = some (.xd (ns.zip us)) ∧ m.out a ∧ ns.length = us.length ∧ Reps B m vs us
def Post {α β : Type} (B : Bas) (R : Mp → α → β → Prop) (W : XK) (m : Mp) (H : Hp) (Q : β → Hp → Prop) (r : Res α) : Prop := match r with
  | .ok a S' => ∀ m' H' v, Le m H m' H' → Cor B m' S' → R m' a v → Q v H'
  | .ex c ns vs S' => ∀ m' H' dd, Le m H m' H' → Cor B m' S' → ExR B m' ns vs dd → W (.ref (B.cls c)) dd H'
  | .bad => False
section
variable {α β γ δ : Type} {B : Bas} {R : Mp → α → β → Prop} {R2 : Mp → γ → δ → Prop} {W : XK} {m m1 : Mp} {H H1 : Hp} {Q Q' : β → Hp → Prop} {r : Res α}
theorem Post.imp (h : Post B R W m H Q r) (f : ∀ v H', Q v H' → Q' v H') : Post B R W m H Q' r := by
  cases r with
  | ok a S => exact fun m' H' v l c x => f _ _ (h m' H' v l c x)
  | ex c ns vs S => exact h
  | bad => exact h
theorem Post.shift (l : Le m H m1 H1) (h : Post B R W m H Q r) : Post B R W m1 H1 Q r := by
  cases r with
  | ok a S => exact fun m' H' v l' c x => h m' H' v (l.trans l') c x
  | ex c ns vs S => exact fun m' H' dd l' c x => h m' H' dd (l.trans l') c x
  | bad => exact h
theorem Post.bind {Q2 : δ → Hp → Prop} {k : α → Sto → Res γ} (h : Post B R2 W m H Q2 (r.bind k)) :
    Post B R W m H (fun v H1 => ∃ a S m1, r = .ok a S ∧ Le m H m1 H1 ∧ Cor B m1 S ∧ R m1 a v ∧ Post B R2 W m1 H1 Q2 (k a S)) r := by
  cases r with
  | ok a S => exact fun m' H' v l c x => ⟨a, S, m', rfl, l, c, x, Post.shift l h⟩
  | ex c ns vs S => exact h
  | bad => exact h
end
abbrev ME := En → Sto → Res D
abbrev MT := En → Sto → Res Bool
abbrev MA := En → Sto → Res (List D)
abbrev at' (W : WX) (σ : St) : XK := fun c d H => W c d σ H
def RT : Mp → Bool → Bool → Prop := fun _ a b => a = b
def tE (B : Bas) (W : WX) (e : ME) : TE := fun σ H Q => ∃ m S en, Sub m H ∧ Cor B m S ∧ EnR B m en σ ∧ Post B (Rep B) (at' W σ) m H Q (e en S)
def tT (B : Bas) (W : WX) (e : MT) : TT := fun σ H Q => ∃ m S en, Sub m H ∧ Cor B m S ∧ EnR B m en σ ∧ Post B RT (at' W σ) m H Q (e en S)
def tA (B : Bas) (W : WX) (e : MA) : TA := fun σ H Q => ∃ m S en, Sub m H ∧ Cor B m S ∧ EnR B m en σ ∧ Post B (Reps B) (at' W σ) m H Q (e en S)
theorem PE.cut {X : Cx} {e : Expr} {t t' : TE} (h : PE X e t) (f : ∀ σ H Q, t' σ H Q → t σ H Q) : PE X e t' := ⟨fun pins s σ H Q I q => h.run pins s σ H Q I (f σ H Q q)⟩
theorem PT.cut {X : Cx} {e : Expr} {t t' : TT} (h : PT X e t) (f : ∀ σ H Q, t' σ H Q → t σ H Q) : PT X e t' := ⟨fun pins s σ H Q I q => h.run pins s σ H Q I (f σ H Q q)⟩
theorem PA.cut {X : Cx} {e : List Expr} {t t' : TA} (h : PA X e t) (f : ∀ σ H Q, t' σ H Q → t σ H Q) : PA X e t' := ⟨fun pos pins s σ H Q I q => h.run pos pins s σ H Q I (f σ H Q q)⟩
theorem PS.cut {X : Cx} {e : Stmt} {t t' : TS} (h : PS X e t) (f : ∀ D σ H, t' D σ H → t D σ H) : PS X e t' := ⟨fun pins s σ H D I q => h.run pins s σ H D I (f D σ H q)⟩
theorem PSs.cut {X : Cx} {e : List Stmt} {t t' : TS} (h : PSs X e t) (f : ∀ D σ H, t' D σ H → t D σ H) : PSs X e t' := ⟨fun pins s σ H D I q => h.run pins s σ H D I (f D σ H q)⟩
end G
end
section
namespace G
open PySem L2
theorem Le.self {B : Bas} {m : Mp} {H : Hp} {S : Sto} (h : Sub m H) : Le m H m H := Le.refl h
def seqT : D → Option (List D)
  | .tup ds => some ds
  | .ktp ds => some ds
  | _ => none
def seqL (S : Sto) : D → Option (List D)
  | .lst ds => some ds
  | .scr ds => some ds
  | .ref i => match S[i]? with
    | some (.lst ds) => some ds
    | _ => none
  | _ => none
def plL (S : Sto) : D → Option (List D)
  | .lst ds => some ds
  | .ref i => match S[i]? with
    | some (.lst ds) => some ds
    | _ => none
  | _ => none
def dicOf (S : Sto) : D → Option (List D × List D)
  | .dic ks ds => some (ks, ds)
  | .ref i => match S[i]? with
    | some (.dic ks ds) => some (ks, ds)
    | _ => none
  | _ => none
def insOf (S : Sto) : D → Option (Nat × List Str × List D)
  | .ins c ns ds => some (c, ns, ds)
  | .ref i => match S[i]? with
    | some (.ins c ns ds) => some (c, ns, ds)
    | _ => none
  | _ => none
section
variable {B : Bas} {m m' : Mp} {H H' : Hp} {S : Sto}
theorem Reps.length : ∀ {ds : List D} {vs : List V}, Reps B m ds vs → ds.length = vs.length
  | [], _, h => by simp only [Reps] at h; rw [h]; rfl
  | d :: ds, _, h => by
    simp only [Reps] at h
    obtain ⟨v, r, rfl, _, q⟩ := h
    simp only [List.length_cons, Reps.length q]
theorem Reps.get : ∀ {ds : List D} {vs : List V} {i : Nat} {d : D}, Reps B m ds vs → ds[i]? = some d → ∃ v, vs[i]? = some v ∧ Rep B m d v
  | [], _, _, _, _, e => by simp at e
  | d :: ds, _, 0, x, h, e => by
    simp only [Reps] at h
    obtain ⟨v, r, rfl, p, q⟩ := h
    simp at e
    subst e
    exact ⟨v, rfl, p⟩
  | d :: ds, _, i + 1, x, h, e => by
    simp only [Reps] at h
    obtain ⟨v, r, rfl, p, q⟩ := h
    obtain ⟨w, a, b⟩ := Reps.get (i := i) (d := x) q (by simpa using e)
    exact ⟨w, by simpa using a, b⟩
theorem Reps.append : ∀ {ds es : List D} {vs us : List V}, Reps B m ds vs → Reps B m es us → Reps B m (ds ++ es) (vs ++ us)
  | [], es, vs, us, h, q => by
    simp only [Reps] at h
    subst h
    exact q
  | d :: ds, es, vs, us, h, q => by
    simp only [Reps] at h
    obtain ⟨v, r, rfl, p, t⟩ := h
    show Reps B m (d :: (ds ++ es)) (v :: (r ++ us))
    simp only [Reps]
    exact ⟨v, _, rfl, p, Reps.append t q⟩
theorem Reps.take : ∀ {ds : List D} {vs : List V} (n : Nat), Reps B m ds vs → Reps B m (ds.take n) (vs.take n)
  | [], vs, n, h => by
    simp only [Reps] at h
    subst h
    simp [Reps]
  | d :: ds, vs, 0, h => by simp [Reps]
  | d :: ds, vs, n + 1, h => by
    simp only [Reps] at h
    obtain ⟨v, r, rfl, p, t⟩ := h
    simp only [List.take_succ_cons, Reps]
    exact ⟨v, _, rfl, p, Reps.take n t⟩
theorem Reps.drop : ∀ {ds : List D} {vs : List V} (n : Nat), Reps B m ds vs → Reps B m (ds.drop n) (vs.drop n)
  | [], vs, n, h => by
    simp only [Reps] at h
    subst h
    simp [Reps]
  | d :: ds, vs, 0, h => h
  | d :: ds, vs, n + 1, h => by
    simp only [Reps] at h
    obtain ⟨v, r, rfl, p, t⟩ := h
    exact Reps.drop n t
theorem Reps.nil_iff {ds : List D} {vs : List V} (h : Reps B m ds vs) : vs = [] ↔ ds = [] := by
  have := h.length
  constructor
  · intro e; subst e; simpa using this
  · intro e; subst e
    simp only [List.length_nil] at this
    exact List.eq_nil_of_length_eq_zero this.symm
theorem Reps.cons {d : D} {ds : List D} {v : V} {vs : List V} (a : Rep B m d v) (b : Reps B m ds vs) : Reps B m (d :: ds) (v :: vs) := by
  simp only [Reps]
  exact ⟨v, vs, rfl, a, b⟩
theorem Reps.nil : Reps B m [] [] := by simp only [Reps]
theorem repT {d : D} {ds : List D} {v : V} (s : Sub m H) (r : Rep B m d v) (e : seqT d = some ds) : ∃ a vs, v = .ref a ∧ SqT B.K H a vs ∧ Reps B m ds vs := by
  cases d <;> simp only [seqT] at e <;> try (cases e)
  · simp only [Rep] at r
    obtain ⟨a, vs, e, t, q⟩ := r
    exact ⟨a, vs, e, t.sq s, q⟩
  · simp only [Rep] at r
    obtain ⟨a, vs, e, t, q⟩ := r
    exact ⟨a, vs, e, t.sq, q⟩
theorem repL {d : D} {ds : List D} {v : V} (s : Sub m H) (c : Cor B m S) (r : Rep B m d v) (e : seqL S d = some ds) : ∃ a vs, v = .ref a ∧ SqL B.K H a vs ∧ Reps B m ds vs := by
  cases d <;> simp only [seqL] at e <;> try (cases e)
  · simp only [Rep] at r
    obtain ⟨a, vs, e, t, q⟩ := r
    exact ⟨a, vs, e, t.sq s, q⟩
  · simp only [Rep] at r
    obtain ⟨hi, rfl⟩ := r
    split at e
    · rename_i i x ys hx
      cases e
      obtain ⟨vs, z, q⟩ := c.ob _ _ hx
      exact ⟨_, vs, rfl, .inl (.inl (s _ _ z)), q⟩
    · cases e
  · simp only [Rep] at r
    obtain ⟨a, vs, e, t, q⟩ := r
    exact ⟨a, vs, e, t.sq s, q⟩
theorem repP {d : D} {ds : List D} {v : V} (s : Sub m H) (c : Cor B m S) (r : Rep B m d v) (e : plL S d = some ds) : ∃ a vs, v = .ref a ∧ H a = some (.lst vs) ∧ Reps B m ds vs := by
  cases d <;> simp only [plL] at e <;> try (cases e)
  · simp only [Rep] at r
    obtain ⟨a, vs, e, t, q⟩ := r
    exact ⟨a, vs, e, s _ _ t.1, q⟩
  · simp only [Rep] at r
    obtain ⟨hi, rfl⟩ := r
    split at e
    · rename_i i x ys hx
      cases e
      obtain ⟨vs, z, q⟩ := c.ob _ _ hx
      exact ⟨_, vs, rfl, s _ _ z, q⟩
    · cases e
theorem repD {d : D} {ks ds : List D} {v : V} (s : Sub m H) (c : Cor B m S) (r : Rep B m d v) (e : dicOf S d = some (ks, ds)) : ∃ a vs, v = .ref a ∧ DicAt (H a) ks vs ∧ Reps B m ds vs := by
  have lift : ∀ {a : Addr} {vs : List V}, DicAt (m.Z a) ks vs → DicAt (H a) ks vs := fun {a vs} h => by
    obtain ⟨u, hu⟩ := h.some
    rw [s _ _ hu, ← hu]
    exact h
  cases d <;> simp only [dicOf] at e <;> try (cases e)
  · simp only [Rep] at r
    obtain ⟨a, vs, e, o, t, q⟩ := r
    exact ⟨a, vs, e, lift t, q⟩
  · simp only [Rep] at r
    obtain ⟨hi, rfl⟩ := r
    split at e
    · rename_i i x ys zs hx
      cases e
      obtain ⟨vs, z, q⟩ := c.ob _ _ hx
      exact ⟨_, vs, rfl, lift z, q⟩
    · cases e
end
mutual
def pd : D → Option PyData
  | .non => some .none
  | .bl b => some (.bool b)
  | .int i => some (.int i)
  | .str x => some (.str x)
  | .tup ds => (pds ds).map .tuple
  | .ktp ds => (pds ds).map .tuple
  | .lst ds => (pds ds).map .list
  | .scr ds => (pds ds).map .list
  | _ => none
def pds : List D → Option (List PyData)
  | [] => some []
  | d :: r => match pd d, pds r with
    | some p, some q => some (p :: q)
    | _, _ => none
end
def pdv (S : Sto) (d : D) : Option PyData := match seqL S d with
  | some ds => (pds ds).map .list
  | none => pd d
section
variable {B : Bas} {m : Mp} {H : Hp} {S : Sto}
mutual
theorem Rep.dp (s : Sub m H) : ∀ {d : D} {v : V} {p : PyData}, Rep B m d v → pd d = some p → Dp B.K H v p
  | .non, v, p, r, e => by simp only [Rep] at r; simp only [pd] at e; cases e; subst r; exact .non
  | .bl b, v, p, r, e => by simp only [Rep] at r; simp only [pd] at e; cases e; subst r; exact .bl b
  | .int i, v, p, r, e => by simp only [Rep] at r; simp only [pd] at e; cases e; subst r; exact .int i
  | .str x, v, p, r, e => by simp only [Rep] at r; simp only [pd] at e; cases e; subst r; exact .str x
  | .tup ds, v, p, r, e => by
    simp only [Rep] at r
    simp only [pd] at e
    obtain ⟨a, vs, rfl, t, q⟩ := r
    cases h : pds ds with
    | none => rw [h] at e; cases e
    | some ps => rw [h] at e; cases e; exact .tup (t.sq s) (Reps.dp s q h)
  | .ktp ds, v, p, r, e => by
    simp only [Rep] at r
    simp only [pd] at e
    obtain ⟨a, vs, rfl, t, q⟩ := r
    cases h : pds ds with
    | none => rw [h] at e; cases e
    | some ps => rw [h] at e; cases e; exact .tup t.sq (Reps.dp s q h)
  | .lst ds, v, p, r, e => by
    simp only [Rep] at r
    simp only [pd] at e
    obtain ⟨a, vs, rfl, t, q⟩ := r
    cases h : pds ds with
    | none => rw [h] at e; cases e
    | some ps => rw [h] at e; cases e; exact .lst (t.sq s) (Reps.dp s q h)
  | .scr ds, v, p, r, e => by
    simp only [Rep] at r
    simp only [pd] at e
    obtain ⟨a, vs, rfl, t, q⟩ := r
    cases h : pds ds with
    | none => rw [h] at e; cases e
    | some ps => rw [h] at e; cases e; exact .lst (t.sq s) (Reps.dp s q h)
  | .dic _ _, v, p, r, e => by simp [pd] at e
  | .ins _ _ _, v, p, r, e => by simp [pd] at e
  | .ref _, v, p, r, e => by simp [pd] at e
  | .fn _, v, p, r, e => by simp [pd] at e
  | .ty _, v, p, r, e => by simp [pd] at e
  | .cl _, v, p, r, e => by simp [pd] at e
  | .lam _ _ _ _ _, v, p, r, e => by simp [pd] at e
theorem Reps.dp (s : Sub m H) : ∀ {ds : List D} {vs : List V} {ps : List PyData}, Reps B m ds vs → pds ds = some ps → DpAll B.K H vs ps
  | [], vs, ps, r, e => by simp only [Reps] at r; simp only [pds] at e; cases e; subst r; exact .nil
  | d :: ds, vs, ps, r, e => by
    simp only [Reps] at r
    obtain ⟨v, t, rfl, a, b⟩ := r
    simp only [pds] at e
    cases h1 : pd d with
    | none => rw [h1] at e; cases e
    | some p =>
      cases h2 : pds ds with
      | none => rw [h1, h2] at e; cases e
      | some q =>
        rw [h1, h2] at e
        cases e
        exact .cons (Rep.dp s a h1) (Reps.dp s b h2)
end
theorem Rep.dpv {d : D} {v : V} {p : PyData} (s : Sub m H) (c : Cor B m S) (r : Rep B m d v) (e : pdv S d = some p) : Dp B.K H v p := by
  unfold pdv at e
  cases h : seqL S d with
  | none => rw [h] at e; exact r.dp s e
  | some ds =>
    rw [h] at e
    obtain ⟨a, vs, rfl, q, t⟩ := repL s c r h
    cases h2 : pds ds with
    | none => simp only [h2] at e; cases e
    | some ps => simp only [h2] at e; cases e; exact .lst q (t.dp s h2)
end
def mVar (i : Nat) : ME := fun en S => match en[i]? with
  | some (some d) => .ok d S
  | _ => .bad
def mC (d : D) : ME := fun _ S => .ok d S
section
variable {X : Cx} {B : Bas} {W : WX} {e : Expr}
theorem de_var {i : Nat} (h : PE X e (tVar i)) : PE X e (tE B W (mVar i)) := PE.cut h fun σ H Q ⟨m, S, en, s, c, r, p⟩ => by
  unfold mVar at p
  split at p
  · rename_i d hd
    obtain ⟨v, hv, rv⟩ := r.2 i d hd
    exact ⟨v, hv, p m H v (Le.refl s) c rv⟩
  · exact p.elim
theorem de_c {d : D} {v : V} (h : PE X e (tC v)) (r : ∀ m, Rep B m d v) : PE X e (tE B W (mC d)) := PE.cut h fun σ H Q ⟨m, S, en, s, c, _, p⟩ => p m H v (Le.refl s) c (r m)
theorem rp_int {B : Bas} {i : Int} (m : Mp) : Rep B m (.int i) (.int i) := by simp only [Rep]
theorem rp_str {B : Bas} {x : Str} (m : Mp) : Rep B m (.str x) (.str x) := by simp only [Rep]
theorem rp_bl {B : Bas} {b : Bool} (m : Mp) : Rep B m (.bl b) (.bl b) := by simp only [Rep]
theorem rp_non {B : Bas} (m : Mp) : Rep B m .non .non := by simp only [Rep]
theorem de_int {i j pos} : PE X (.Constant (.int i) j pos) (tE B W (mC (.int i))) := de_c pe_int rp_int
theorem de_str {x j pos} : PE X (.Constant (.str x) j pos) (tE B W (mC (.str x))) := de_c pe_str rp_str
theorem de_bl {b j pos} : PE X (.Constant (.bool b) j pos) (tE B W (mC (.bl b))) := de_c pe_bl rp_bl
theorem de_non {j pos} : PE X (.Constant .none j pos) (tE B W (mC .non)) := de_c pe_non rp_non
end
def mOp (g : Sto → D → D → Option D) (a b : ME) : ME := fun en S => (a en S).bind fun x S1 => (b en S1).bind fun y S2 => match g S2 x y with
  | some d => .ok d S2
  | none => .bad
def Op2 (B : Bas) (r : R2) (g : Sto → D → D → Option D) : Prop := ∀ (m : Mp) (S : Sto) (H : Hp) (x y : V) (d1 d2 d : D), Sub m H → Cor B m S → Rep B m d1 x → Rep B m d2 y → g S d1 d2 = some d →
  ∀ Q : VK, (∀ m' H' v, Le m H m' H' → Cor B m' S → Rep B m' d v → Q v H') → r x y H Q
def Op1 (B : Bas) (r : V → Hp → VK → Prop) (g : Sto → D → Option D) : Prop := ∀ (m : Mp) (S : Sto) (H : Hp) (x : V) (d1 d : D), Sub m H → Cor B m S → Rep B m d1 x → g S d1 = some d →
  ∀ Q : VK, (∀ m' H' v, Le m H m' H' → Cor B m' S → Rep B m' d v → Q v H') → r x H Q
theorem Op2.or {B : Bas} {r r' : R2} {g g' : Sto → D → D → Option D} (h : Op2 B r g) (h' : Op2 B r' g') : Op2 B (fun x y H Q => r x y H Q ∨ r' x y H Q) (fun S a b => match g S a b with
    | some d => some d
    | none => g' S a b) := fun m S H x y d1 d2 d s c r1 r2 e Q q => by
  cases h1 : g S d1 d2 with
  | some z => simp only [h1] at e; cases e; exact .inl (h m S H x y d1 d2 _ s c r1 r2 h1 Q q)
  | none => simp only [h1] at e; exact .inr (h' m S H x y d1 d2 d s c r1 r2 e Q q)
theorem OpR.or {X : Cx} {f : Value → Value → Sem Value} {r r' : R2} (h : OpR X f r) (h' : OpR X f r') : OpR X f (fun x y H Q => r x y H Q ∨ r' x y H Q) := by
  intro pins s σ H x y v u Q I rx ry q
  rcases q with q | q
  · exact h pins s σ H x y v u Q I rx ry q
  · exact h' pins s σ H x y v u Q I rx ry q
theorem tOp_of {B : Bas} {W : WX} {r : R2} {g : Sto → D → D → Option D} {a b : ME} (h : Op2 B r g) (σ : St) (H : Hp) (Q : VK) (t : tE B W (mOp g a b) σ H Q) : tOp r (tE B W a) (tE B W b) σ H Q := by
  obtain ⟨m, S, en, s, c, er, p⟩ := t
  refine ⟨m, S, en, s, c, er, (Post.bind p).imp ?_⟩
  rintro x H1 ⟨d1, S1, m1, _, l1, c1, r1, p1⟩
  refine ⟨m1, S1, en, l1.sub, c1, er.mono l1, (Post.bind p1).imp ?_⟩
  rintro y H2 ⟨d2, S2, m2, _, l2, c2, r2, p2⟩
  cases e : g S2 d1 d2 with
  | none => rw [e] at p2; exact p2.elim
  | some d => rw [e] at p2; exact h m2 S2 H2 x y d1 d2 d l2.sub c2 (r1.mono l2) r2 e Q p2
section
variable {X : Cx} {B : Bas} {W : WX} {e a b : Expr} {pos : Pos} {ma mb : ME} {r : R2} {g : Sto → D → D → Option D}
theorem de_op {op : Operator} (ho : OpR X (binaryOp op) r) (h : Op2 B r g) (ha : PE X a (tE B W ma)) (hb : PE X b (tE B W mb)) : PE X (.BinOp a op b pos) (tE B W (mOp g ma mb)) :=
  PE.cut (pe_op ho ha hb) (tOp_of h)
theorem de_cmp {op : CmpOp} (ho : OpR X (compareOp op) r) (h : Op2 B r g) (ha : PE X a (tE B W ma)) (hb : PE X b (tE B W mb)) (hm : behindInMarks op b = false) : PE X (.Compare a [op] [b] pos) (tE B W (mOp g ma mb)) :=
  PE.cut (pe_cmpR ho ha hb hm) (tOp_of h)
def mTest (a : ME) : MT := fun en S => (a en S).bind fun x S1 => match x with
  | .bl k => .ok k S1
  | _ => .bad
theorem tTest_of (σ : St) (H : Hp) (Q : Bool → Hp → Prop) (t : tT B W (mTest ma) σ H Q) : tTest (tE B W ma) σ H Q := by
  obtain ⟨m, S, en, s, c, er, p⟩ := t
  refine ⟨m, S, en, s, c, er, (Post.bind p).imp ?_⟩
  rintro x H1 ⟨d1, S1, m1, _, l1, c1, r1, p1⟩
  cases d1 with
  | bl k =>
    simp only [Rep] at r1
    exact ⟨k, r1, p1 m1 H1 k (Le.refl l1.sub) c1 rfl⟩
  | _ => exact p1.elim
theorem dt_cmp {op : CmpOp} (ho : OpR X (compareOp op) r) (h : Op2 B r g) (ha : PE X a (tE B W ma)) (hb : PE X b (tE B W mb)) (hm : behindInMarks op b = false) : PT X (.Compare a [op] [b] pos) (tT B W (mTest (mOp g ma mb))) :=
  PT.cut (pt_cmpR ho ha hb hm) fun σ H Q t => tOp_of (W := W) h σ H _ (tTest_of σ H Q t)
theorem dt_val (h : PE X e (tE B W ma)) (he : ∀ whole, isTrue e X.env whole = (do let v ← whole; standAt e.pos; holding [v] (truthy v)) := by intro _; rfl) : PT X e (tT B W (mTest ma)) :=
  PT.cut (pt_val h he) fun σ H Q t => tTest_of σ H Q t
end
def mAnd (a b : MT) : MT := fun en S => (a en S).bind fun k S1 => match k with
  | true => b en S1
  | false => .ok false S1
def mOr (a b : MT) : MT := fun en S => (a en S).bind fun k S1 => match k with
  | true => .ok true S1
  | false => b en S1
def mNot (a : MT) : MT := fun en S => (a en S).bind fun k S1 => .ok (!k) S1
def mIf (t : MT) (a b : ME) : ME := fun en S => (t en S).bind fun k S1 => match k with
  | true => a en S1
  | false => b en S1
section
variable {X : Cx} {B : Bas} {W : WX} {e a b : Expr} {es : List Expr} {pos : Pos} {ta tb : MT} {ma mb : ME}
theorem dw_and1 (h : PT X a (tT B W ta)) : PW X (.BoolOp .And [a] pos) (tT B W ta) := pw_and1 h
theorem dw_or1 (h : PT X a (tT B W ta)) : PW X (.BoolOp .Or [a] pos) (tT B W ta) := pw_or1 h
theorem PW.cut {t t' : TT} (h : PW X e t) (f : ∀ σ H Q, t' σ H Q → t σ H Q) : PW X e t' := ⟨fun whole pins s σ H Q I q => h.run whole pins s σ H Q I (f σ H Q q)⟩
theorem dw_and (h : PT X a (tT B W ta)) (h2 : PW X (.BoolOp .And (b :: es) pos) (tT B W tb)) : PW X (.BoolOp .And (a :: b :: es) pos) (tT B W (mAnd ta tb)) :=
  PW.cut (pw_and h h2) fun σ H Q ⟨m, S, en, s, c, er, p⟩ => ⟨m, S, en, s, c, er, (Post.bind p).imp (by
    rintro k H1 ⟨d1, S1, m1, _, l1, c1, r1, p1⟩
    cases r1
    cases k with
    | true => exact iteT ⟨m1, S1, en, l1.sub, c1, er.mono l1, p1⟩
    | false => exact iteF (p1 m1 H1 false (Le.refl l1.sub) c1 rfl))⟩
theorem dw_or (h : PT X a (tT B W ta)) (h2 : PW X (.BoolOp .Or (b :: es) pos) (tT B W tb)) : PW X (.BoolOp .Or (a :: b :: es) pos) (tT B W (mOr ta tb)) :=
  PW.cut (pw_or h h2) fun σ H Q ⟨m, S, en, s, c, er, p⟩ => ⟨m, S, en, s, c, er, (Post.bind p).imp (by
    rintro k H1 ⟨d1, S1, m1, _, l1, c1, r1, p1⟩
    cases r1
    cases k with
    | true => exact iteT (p1 m1 H1 true (Le.refl l1.sub) c1 rfl)
    | false => exact iteF ⟨m1, S1, en, l1.sub, c1, er.mono l1, p1⟩)⟩
theorem dt_not (h : PT X a (tT B W ta)) : PT X (.UnaryOp .Not a pos) (tT B W (mNot ta)) :=
  PT.cut (pt_not h) fun σ H Q ⟨m, S, en, s, c, er, p⟩ => ⟨m, S, en, s, c, er, (Post.bind p).imp (by
    rintro k H1 ⟨d1, S1, m1, _, l1, c1, r1, p1⟩
    cases r1
    exact p1 m1 H1 _ (Le.refl l1.sub) c1 rfl)⟩
theorem de_if {c : Expr} (hc : PT X c (tT B W ta)) (ha : PE X a (tE B W ma)) (hb : PE X b (tE B W mb)) : PE X (.IfExp c a b pos) (tE B W (mIf ta ma mb)) :=
  PE.cut (pe_ifExp hc ha hb) fun σ H Q ⟨m, S, en, s, c, er, p⟩ => ⟨m, S, en, s, c, er, (Post.bind p).imp (by
    rintro k H1 ⟨d1, S1, m1, _, l1, c1, r1, p1⟩
    cases r1
    cases k with
    | true => exact iteT ⟨m1, S1, en, l1.sub, c1, er.mono l1, p1⟩
    | false => exact iteF ⟨m1, S1, en, l1.sub, c1, er.mono l1, p1⟩)⟩
def mAndV (a b : ME) : ME := fun en S => (a en S).bind fun x S1 => match x with
  | .bl true => b en S1
  | .bl false => .ok (.bl false) S1
  | _ => .bad
def mOrV (a b : ME) : ME := fun en S => (a en S).bind fun x S1 => match x with
  | .bl true => .ok (.bl true) S1
  | .bl false => b en S1
  | _ => .bad
def mNotV (a : ME) : ME := fun en S => (a en S).bind fun x S1 => match x with
  | .bl k => .ok (.bl (!k)) S1
  | _ => .bad
theorem de_one {op} (h : PE X a (tE B W ma)) : PE X (.BoolOp op [a] pos) (tE B W ma) := pe_one h
theorem de_and (h : PE X a (tE B W ma)) (h2 : PE X (.BoolOp .And (b :: es) pos) (tE B W mb)) : PE X (.BoolOp .And (a :: b :: es) pos) (tE B W (mAndV ma mb)) :=
  PE.cut (pe_and h h2) fun σ H Q ⟨m, S, en, s, c, er, p⟩ => ⟨m, S, en, s, c, er, (Post.bind p).imp (by
    rintro x H1 ⟨d1, S1, m1, _, l1, c1, r1, p1⟩
    cases d1 with
    | bl k =>
      simp only [Rep] at r1
      cases k with
      | true => exact ⟨true, r1, iteT ⟨m1, S1, en, l1.sub, c1, er.mono l1, p1⟩⟩
      | false => exact ⟨false, r1, iteF (p1 m1 H1 _ (Le.refl l1.sub) c1 (rp_bl _))⟩
    | _ => exact p1.elim)⟩
end
def aNil : MA := fun _ S => .ok [] S
def aCons (a : ME) (r : MA) : MA := fun en S => (a en S).bind fun x S1 => (r en S1).bind fun xs S2 => .ok (x :: xs) S2
def mTup (r : MA) : ME := fun en S => (r en S).bind fun xs S1 => if xs.length ≤ sizeLine then .ok (.tup xs) S1 else .bad
def mLst (r : MA) : ME := fun en S => (r en S).bind fun xs S1 => if xs.length ≤ sizeLine then .ok (.lst xs) S1 else .bad
def mNew (r : MA) : ME := fun en S => (r en S).bind fun xs S1 => if xs.length ≤ sizeLine then .ok (.ref S1.length) (S1 ++ [.lst xs]) else .bad
section
variable {B : Bas} {m : Mp} {H : Hp} {S : Sto}
theorem rp_tup {p : Addr} {ds : List D} {vs : List V} (c : Cor B m S) (s : Sub m H) (h : H p = none) (r : Reps B m ds vs) : Rep B (m.put p (.tup vs)) (.tup ds) (.ref p) := by
  simp only [Rep]
  exact ⟨p, vs, rfl, ⟨upd_same, c.out_of (s.none h)⟩, r.mono (Le.new c s h)⟩
theorem rp_lst {p : Addr} {ds : List D} {vs : List V} (c : Cor B m S) (s : Sub m H) (h : H p = none) (r : Reps B m ds vs) : Rep B (m.put p (.lst vs)) (.lst ds) (.ref p) := by
  simp only [Rep]
  exact ⟨p, vs, rfl, ⟨upd_same, c.out_of (s.none h)⟩, r.mono (Le.new c s h)⟩
def Mp.add (m : Mp) (p : Addr) (o : HO) : Mp := { mu := fun i => if i = m.n then p else m.mu i, n := m.n + 1, Z := upd m.Z p o }
theorem Mp.add_mu {p : Addr} {o : HO} {i : Nat} (h : i < m.n) : (m.add p o).mu i = m.mu i := by
  show (if i = m.n then p else m.mu i) = _
  rw [if_neg (Nat.ne_of_lt h)]
theorem Mp.add_last {p : Addr} {o : HO} : (m.add p o).mu m.n = p := by
  show (if m.n = m.n then p else _) = _
  rw [if_pos rfl]
theorem Le.add {p : Addr} {o : HO} (c : Cor B m S) (s : Sub m H) (h : H p = none) : Le m H (m.add p o) (upd H p o) where
  le := Nat.le_succ _
  mu := fun i hi => Mp.add_mu hi
  keep := fun a u e q => by
    have ne : a ≠ p := ne_of_none e (s.none h)
    refine ⟨by show upd m.Z p o a = _; rw [upd_ne ne]; exact e, fun i hi => ?_⟩
    rcases Nat.lt_succ_iff_lt_or_eq.mp (show i < m.n + 1 from hi) with z | z
    · rw [Mp.add_mu z]; exact q i z
    · rw [z, Mp.add_last]; exact ne.symm
  fr0 := fun a u e q => by
    have ne : a ≠ p := ne_of_none q h
    exact ⟨by rw [upd_ne ne]; exact q, .inl <| by show upd m.Z p o a = _; rw [upd_ne ne]; exact e⟩
  sub := (Le.new (o := o) c s h).sub
theorem Cor.add {p : Addr} {o : HO} {b : Ob} (c : Cor B m S) (s : Sub m H) (h : H p = none) (r : ObR B (m.add p o) p b) : Cor B (m.add p o) (S ++ [b]) where
  n := by
    rw [List.length_append, List.length_singleton, ← c.n]
    rfl
  ob := fun i x e => by
    by_cases hi : i < S.length
    · rw [List.getElem?_append_left hi] at e
      have hm : i < m.n := by rw [c.n]; exact hi
      rw [Mp.add_mu hm]
      refine (c.ob i x e).mono (Le.add (o := o) c s h) ?_
      obtain ⟨u, hu⟩ := c.at hm
      show upd m.Z p o (m.mu i) = _
      rw [upd_ne (ne_of_none hu (s.none h))]
    · have hi' : S.length ≤ i := Nat.le_of_not_lt hi
      rw [List.getElem?_append_right hi'] at e
      have z : i - S.length = 0 := by
        have := (List.getElem?_eq_some_iff.mp e).1
        simp only [List.length_singleton] at this
        omega
      have hin : i = m.n := by rw [c.n]; omega
      rw [z] at e
      cases e
      rw [hin, Mp.add_last]
      exact r
  inj := fun i j hi hj e => by
    have out := c.out_of (s.none h)
    rcases Nat.lt_succ_iff_lt_or_eq.mp (show i < m.n + 1 from hi) with z | z <;> rcases Nat.lt_succ_iff_lt_or_eq.mp (show j < m.n + 1 from hj) with y | y
    · rw [Mp.add_mu z, Mp.add_mu y] at e; exact c.inj i j z y e
    · rw [Mp.add_mu z, y, Mp.add_last] at e; exact absurd e (out i z)
    · rw [Mp.add_mu y, z, Mp.add_last] at e; exact absurd e.symm (out j y)
    · rw [z, y]
theorem rp_ref {p : Addr} {o : HO} (c : Cor B m S) : Rep B (m.add p o) (.ref S.length) (.ref p) := by
  simp only [Rep]
  refine ⟨by rw [← c.n]; exact Nat.lt_succ_self _, ?_⟩
  rw [← c.n, Mp.add_last]
end
section
variable {X : Cx} {B : Bas} {W : WX} {e : Expr} {es : List Expr} {pos : Pos} {ma : ME} {mr : MA}
theorem da_nil : PA X [] (tA B W aNil) := PA.cut pa_nil fun σ H Q ⟨m, S, en, s, c, er, p⟩ => p m H [] (Le.refl s) c Reps.nil
theorem tCons_of (σ : St) (H : Hp) (Q : List V → Hp → Prop) (t : tA B W (aCons ma mr) σ H Q) : tCons (tE B W ma) (tA B W mr) σ H Q := by
  obtain ⟨m, S, en, s, c, er, p⟩ := t
  refine ⟨m, S, en, s, c, er, (Post.bind p).imp ?_⟩
  rintro x H1 ⟨d1, S1, m1, _, l1, c1, r1, p1⟩
  refine ⟨m1, S1, en, l1.sub, c1, er.mono l1, (Post.bind p1).imp ?_⟩
  rintro xs H2 ⟨ds, S2, m2, _, l2, c2, r2, p2⟩
  exact p2 m2 H2 _ (Le.refl l2.sub) c2 (Reps.cons (r1.mono l2) r2)
theorem da_cons (ha : PE X e (tE B W ma)) (hr : PA X es (tA B W mr)) (he : starEach (e :: es) X.env = (false, eval e X.env) :: starEach es X.env := by rfl) : PA X (e :: es) (tA B W (aCons ma mr)) :=
  PA.cut (pa_cons ha hr he) tCons_of
theorem tTup_of (σ : St) (H : Hp) (Q : VK) (t : tE B W (mTup mr) σ H Q) : tTup (tA B W mr) σ H Q := by
  obtain ⟨m, S, en, s, c, er, p⟩ := t
  refine ⟨m, S, en, s, c, er, (Post.bind p).imp ?_⟩
  rintro xs H1 ⟨ds, S1, m1, _, l1, c1, r1, p1⟩
  split at p1
  · rename_i hl
    exact ⟨by rw [← r1.length]; exact hl, fun q hq => p1 _ _ _ (Le.new c1 l1.sub hq) (Cor.new c1 l1.sub hq) (rp_tup c1 l1.sub hq r1)⟩
  · exact p1.elim
theorem tLst_of (σ : St) (H : Hp) (Q : VK) (t : tE B W (mLst mr) σ H Q) : tLst (tA B W mr) σ H Q := by
  obtain ⟨m, S, en, s, c, er, p⟩ := t
  refine ⟨m, S, en, s, c, er, (Post.bind p).imp ?_⟩
  rintro xs H1 ⟨ds, S1, m1, _, l1, c1, r1, p1⟩
  split at p1
  · rename_i hl
    exact ⟨by rw [← r1.length]; exact hl, fun q hq => p1 _ _ _ (Le.new c1 l1.sub hq) (Cor.new c1 l1.sub hq) (rp_lst c1 l1.sub hq r1)⟩
  · exact p1.elim
theorem tNew_of (σ : St) (H : Hp) (Q : VK) (t : tE B W (mNew mr) σ H Q) : tLst (tA B W mr) σ H Q := by
  obtain ⟨m, S, en, s, c, er, p⟩ := t
  refine ⟨m, S, en, s, c, er, (Post.bind p).imp ?_⟩
  rintro xs H1 ⟨ds, S1, m1, _, l1, c1, r1, p1⟩
  split at p1
  · rename_i hl
    refine ⟨by rw [← r1.length]; exact hl, fun q hq => p1 _ _ _ (Le.add c1 l1.sub hq) (Cor.add c1 l1.sub hq ⟨xs, upd_same, r1.mono (Le.add c1 l1.sub hq)⟩) (rp_ref c1)⟩
  · exact p1.elim
def mCB (g : Sto → List D → Option D) (r : MA) : ME := fun en S => (r en S).bind fun xs S1 => match g S1 xs with
  | some d => .ok d S1
  | none => .bad
def OpN (B : Bas) (r : List V → Hp → VK → Prop) (g : Sto → List D → Option D) : Prop := ∀ (m : Mp) (S : Sto) (H : Hp) (xs : List V) (ds : List D) (d : D), Sub m H → Cor B m S → Reps B m ds xs → g S ds = some d →
  ∀ Q : VK, (∀ m' H' v, Le m H m' H' → Cor B m' S → Rep B m' d v → Q v H') → r xs H Q
theorem tCB_of {r : List V → Hp → VK → Prop} {g : Sto → List D → Option D} (h : OpN B r g) (σ : St) (H : Hp) (Q : VK) (t : tE B W (mCB g mr) σ H Q) : tCB r (tA B W mr) σ H Q := by
  obtain ⟨m, S, en, s, c, er, p⟩ := t
  refine ⟨m, S, en, s, c, er, (Post.bind p).imp ?_⟩
  rintro xs H1 ⟨ds, S1, m1, _, l1, c1, r1, p1⟩
  cases e : g S1 ds with
  | none => rw [e] at p1; exact p1.elim
  | some d => rw [e] at p1; exact h m1 S1 H1 xs ds d l1.sub c1 r1 e Q p1
end
end G
end
section
namespace G
open PySem L2
inductive Fl where
  | nx (en : En) | rt (d : D) | bk (en : En) | ct (en : En)
inductive FlV where
  | nx (σ : St) | rt (v : V) | bk (σ : St) | ct (σ : St)
def RFl (B : Bas) (m : Mp) : Fl → FlV → Prop
  | .nx en, .nx σ => EnR B m en σ
  | .rt d, .rt v => Rep B m d v
  | .bk en, .bk σ => EnR B m en σ
  | .ct en, .ct σ => EnR B m en σ
  | _, _ => False
def qOf (D : Ends) : FlV → Hp → Prop
  | .nx σ, H => D.nx σ H
  | .rt v, H => D.rt v H
  | .bk σ, H => D.bk σ H
  | .ct σ, H => D.ct σ H
abbrev MS := En → Sto → Res Fl
def tS (B : Bas) (W : WX) (f : MS) : TS := fun D σ H => ∃ m S en, Sub m H ∧ Cor B m S ∧ EnR B m en σ ∧ Post B (RFl B) (at' W σ) m H (qOf D) (f en S)
def WI (W : WX) : Prop := ∀ c d σ σ' H, W c d σ H → W c d σ' H
theorem Post.wx {α β : Type} {B : Bas} {R : Mp → α → β → Prop} {W W' : XK} {m : Mp} {H : Hp} {Q : β → Hp → Prop} {r : Res α} (h : Post B R W m H Q r) (f : ∀ c d H', W c d H' → W' c d H') : Post B R W' m H Q r := by
  cases r with
  | ok a S => exact h
  | ex c ns vs S => exact fun m' H' dd l c x => f _ _ _ (h m' H' dd l c x)
  | bad => exact h
def sNil : MS := fun en S => .ok (.nx en) S
def sSeq (a b : MS) : MS := fun en S => (a en S).bind fun f S1 => match f with
  | .nx en1 => b en1 S1
  | .rt d => .ok (.rt d) S1
  | .bk e => .ok (.bk e) S1
  | .ct e => .ok (.ct e) S1
def sIf (t : MT) (a b : MS) : MS := fun en S => (t en S).bind fun k S1 => match k with
  | true => a en S1
  | false => b en S1
def sRet (e : ME) : MS := fun en S => (e en S).bind fun d S1 => .ok (.rt d) S1
def sRetN : MS := fun _ S => .ok (.rt .non) S
def sDrop (e : ME) : MS := fun en S => (e en S).bind fun _ S1 => .ok (.nx en) S1
abbrev MG := D → En → Option En
def sAsg (e : ME) (g : MG) : MS := fun en S => (e en S).bind fun d S1 => match g d en with
  | some en1 => .ok (.nx en1) S1
  | none => .bad
def sPar (i j : Nat) (r : MA) : MS := fun en S => (r en S).bind fun ds S1 => match ds with
  | [x, y] => .ok (.nx ((en.set i (some x)).set j (some y))) S1
  | _ => .bad
def sBk : MS := fun en S => .ok (.bk en) S
def sCt : MS := fun en S => .ok (.ct en) S
def gN (i : Nat) : MG := fun d en => some (en.set i (some d))
abbrev MGs := List D → En → Option En
def gsNil : MGs := fun ds en => match ds with
  | [] => some en
  | _ => none
def gsCons (g : MG) (r : MGs) : MGs := fun ds en => match ds with
  | d :: ds => (g d en).bind (r ds)
  | [] => none
def gT (n : Nat) (g : MGs) : MG := fun d en => match d with
  | .tup ds => if ds.length = n then g ds en else none
  | _ => none
def Only (own : List Nat) (σ σ' : St) : Prop := σ'.length = σ.length ∧ ∀ j : Nat, j ∉ own → σ'[j]? = σ[j]?
theorem Only.refl (own : List Nat) (σ : St) : Only own σ σ := ⟨rfl, fun _ _ => rfl⟩
theorem Only.trans {o1 o2 : List Nat} {a b c : St} (h1 : Only o1 a b) (h2 : Only o2 b c) : Only (o1 ++ o2) a c :=
  ⟨h2.1.trans h1.1, fun j hj => (h2.2 j fun z => hj (List.mem_append_right _ z)).trans (h1.2 j fun z => hj (List.mem_append_left _ z))⟩
def TgR (B : Bas) (own : List Nat) (g : TG) (t : MG) : Prop := ∀ (m : Mp) (H : Hp) (en en' : En) (σ : St) (d : D) (v : V), Sub m H → Rep B m d v → EnR B m en σ → t d en = some en' → ∀ Q : St → Hp → Prop, (∀ σ', EnR B m en' σ' → Only own σ σ' → Q σ' H) → g v σ H Q
def TgsR (B : Bas) (own : List Nat) (g : TGs) (t : MGs) : Prop := ∀ (m : Mp) (H : Hp) (en en' : En) (σ : St) (d : List D) (v : List V), Sub m H → Reps B m d v → EnR B m en σ → t d en = some en' → ∀ Q : St → Hp → Prop, (∀ σ', EnR B m en' σ' → Only own σ σ' → Q σ' H) → g v σ H Q
theorem tg_name {B : Bas} {i : Nat} : TgR B [i] (gName i) (gN i) := fun m H en en' σ d v s r er e Q q => by
  cases e
  exact q _ (er.set i r) ⟨List.length_set, fun j hj => List.getElem?_set_ne (fun z => hj (by simp [z]))⟩
theorem tgs_nil {B : Bas} : TgsR B [] gNil gsNil := fun m H en en' σ d v s r er e Q q => by
  cases d with
  | nil =>
    simp only [Reps] at r
    cases e
    exact ⟨r, q σ er (Only.refl _ _)⟩
  | cons x xs => cases e
theorem tgs_cons {B : Bas} {o1 o2 : List Nat} {g : TG} {t : MG} {gs : TGs} {ts : MGs} (h : TgR B o1 g t) (hs : TgsR B o2 gs ts) : TgsR B (o1 ++ o2) (gCons g gs) (gsCons t ts) := fun m H en en' σ d v s r er e Q q => by
  cases d with
  | nil => cases e
  | cons x xs =>
    simp only [Reps] at r
    obtain ⟨y, ys, rfl, r1, r2⟩ := r
    simp only [gsCons] at e
    cases e1 : t x en with
    | none => rw [e1] at e; cases e
    | some en1 =>
      rw [e1] at e
      exact ⟨y, ys, rfl, h m H en en1 σ x y s r1 er e1 _ fun σ' er' o1 => hs m H en1 en' σ' xs ys s r2 er' e Q fun σ2 er2 o2 => q σ2 er2 (o1.trans o2)⟩
theorem tg_tup {B : Bas} {own : List Nat} {n : Nat} {gs : TGs} {ts : MGs} (hs : TgsR B own gs ts) : TgR B own (gTup B.K n gs) (gT n ts) := fun m H en en' σ d v s r er e Q q => by
  cases d with
  | tup ds =>
    simp only [gT] at e
    split at e
    · rename_i hn
      simp only [Rep] at r
      obtain ⟨a, vs, rfl, t, rs⟩ := r
      exact ⟨a, vs, rfl, t.sq s, by rw [← rs.length]; exact hn, hs m H en en' σ ds vs s rs er e Q q⟩
    · cases e
  | _ => cases e
section
variable {X : Cx} {B : Bas} {W : WX} {st : Stmt} {sts : List Stmt} {pos : Pos} {e : Expr} {ma mb : MS} {me : ME} {mt : MT} {mr : MA}
theorem ds_nil : PSs X [] (tS B W sNil) := PSs.cut pss_nil fun D σ H ⟨m, S, en, s, c, er, p⟩ => p m H (.nx σ) (Le.refl s) c er
theorem tSeq_of (hW : WI W) (D : Ends) (σ : St) (H : Hp) (t : tS B W (sSeq ma mb) D σ H) : tSeq (tS B W ma) (tS B W mb) D σ H := by
  obtain ⟨m, S, en, s, c, er, p⟩ := t
  refine ⟨m, S, en, s, c, er, (Post.bind p).imp ?_⟩
  rintro g H1 ⟨f, S1, m1, _, l1, c1, r1, p1⟩
  cases f with
  | nx en1 =>
    cases g with
    | nx σ1 => exact ⟨m1, S1, en1, l1.sub, c1, r1, p1.wx fun c d H' h => hW _ _ _ _ _ h⟩
    | _ => exact r1.elim
  | rt d =>
    cases g with
    | rt v => exact p1 m1 H1 (.rt v) (Le.refl l1.sub) c1 r1
    | _ => exact r1.elim
  | bk en1 =>
    cases g with
    | bk v => exact p1 m1 H1 (.bk v) (Le.refl l1.sub) c1 r1
    | _ => exact r1.elim
  | ct en1 =>
    cases g with
    | ct v => exact p1 m1 H1 (.ct v) (Le.refl l1.sub) c1 r1
    | _ => exact r1.elim
theorem ds_cons (hW : WI W) (h1 : PS X st (tS B W ma)) (h2 : PSs X sts (tS B W mb)) : PSs X (st :: sts) (tS B W (sSeq ma mb)) := PSs.cut (pss_cons h1 h2) (tSeq_of hW)
theorem ds_one (h1 : PS X st (tS B W ma)) : PSs X [st] (tS B W ma) := pss_one h1
theorem ds_if {c : Expr} {a b : List Stmt} (hc : PT X c (tT B W mt)) (ha : PSs X a (tS B W ma)) (hb : PSs X b (tS B W mb)) : PS X (.If c a b pos) (tS B W (sIf mt ma mb)) :=
  PS.cut (ps_if hc ha hb) fun D σ H ⟨m, S, en, s, c, er, p⟩ => ⟨m, S, en, s, c, er, (Post.bind p).imp (by
    rintro k H1 ⟨k', S1, m1, _, l1, c1, r1, p1⟩
    cases r1
    cases k with
    | true => exact iteT ⟨m1, S1, en, l1.sub, c1, er.mono l1, p1⟩
    | false => exact iteF ⟨m1, S1, en, l1.sub, c1, er.mono l1, p1⟩)⟩
theorem ds_ret (he : PE X e (tE B W me)) : PS X (.Return (some e) pos) (tS B W (sRet me)) :=
  PS.cut (ps_ret he) fun D σ H ⟨m, S, en, s, c, er, p⟩ => ⟨m, S, en, s, c, er, (Post.bind p).imp (by
    rintro v H1 ⟨d, S1, m1, _, l1, c1, r1, p1⟩
    exact p1 m1 H1 (.rt v) (Le.refl l1.sub) c1 r1)⟩
theorem ds_expr (he : PE X e (tE B W me)) (hs : swapsWith e none pos.line X.env = pure false := by rfl) : PS X (.Expr e pos) (tS B W (sDrop me)) :=
  PS.cut (ps_expr he hs) fun D σ H ⟨m, S, en, s, c, er, p⟩ => ⟨m, S, en, s, c, er, (Post.bind p).imp (by
    rintro v H1 ⟨d, S1, m1, _, l1, c1, r1, p1⟩
    exact p1 m1 H1 (.nx σ) (Le.refl l1.sub) c1 (er.mono l1))⟩
theorem tAsg_of {own : List Nat} {g : TG} {t : MG} (h : TgR B own g t) (D : Ends) (σ : St) (H : Hp) (q : tS B W (sAsg me t) D σ H) : tAsg (tE B W me) g D σ H := by
  obtain ⟨m, S, en, s, c, er, p⟩ := q
  refine ⟨m, S, en, s, c, er, (Post.bind p).imp ?_⟩
  rintro v H1 ⟨d, S1, m1, _, l1, c1, r1, p1⟩
  cases e1 : t d en with
  | none => rw [e1] at p1; exact p1.elim
  | some en1 =>
    rw [e1] at p1
    exact h m1 H1 en en1 σ d v l1.sub r1 (er.mono l1) e1 _ fun σ' er' _ => p1 m1 H1 (.nx σ') (Le.refl l1.sub) c1 er'
theorem ds_set {i : Nat} {x : Str} {pos' : Pos} (hN : X.N.Nodup) (hi : X.N[i]? = some x) (hx : Loc X.env.scope x) (he : PE X e (tE B W me)) (hs : swapsWith e (some (.Name x pos')) pos.line X.env = pure false := by rfl)
    (hf : X.fn x = true ∨ X.env.scope.names.lookup x = some .local := by first | exact .inl rfl | exact .inr rfl | assumption) : PS X (.Assign [.Name x pos'] e pos) (tS B W (sAsg me (gN i))) :=
  PS.cut (ps_set hN hi hx he hs hf) (tAsg_of tg_name)
theorem ds_asg {own : List Nat} {tg : Expr} {g : TG} {t : MG} (ht : TgR B own g t) (he : PE X e (tE B W me)) (hg : PG X tg g) (hs : swapsWithSole [tg] e pos.line X.env = pure false := by rfl) (hw : swappedStores [tg] e X.env = pure none := by rfl)
    (h1 : (assignEach [tg] X.env).map (·.2) = [assign tg X.env] := by rfl) : PS X (.Assign [tg] e pos) (tS B W (sAsg me t)) := PS.cut (ps_asg he hg hs hw h1) (tAsg_of ht)
theorem ds_par {i j : Nat} {x y : Str} {a b : Expr} {px py pt : Pos} {kt k2 pt2} (hc : X.calm = true) (hN : X.N.Nodup) (hi : X.N[i]? = some x) (hj : X.N[j]? = some y) (hij : i ≠ j)
    (hx : X.env.scope.names.lookup x = some .local) (hy : X.env.scope.names.lookup y = some .local) (ha : PA X [a, b] (tA B W mr))
    (hw : swappedStores [.Tuple [.Name x px, .Name y py] kt pt] (.Tuple [a, b] k2 pt2) X.env = pure (some [x, y]))
    (hs : swapsWithSole [.Tuple [.Name x px, .Name y py] kt pt] (.Tuple [a, b] k2 pt2) pos.line X.env = pure false := by rfl) : PS X (.Assign [.Tuple [.Name x px, .Name y py] kt pt] (.Tuple [a, b] k2 pt2) pos) (tS B W (sPar i j mr)) :=
  PS.cut (ps_par hc hN hi hj hij hx hy ha hw hs) fun D σ H ⟨m, S, en, s, c, er, p⟩ => ⟨m, S, en, s, c, er, (Post.bind p).imp (by
    rintro vs H1 ⟨ds, S1, m1, _, l1, c1, r1, p1⟩
    match ds, p1, r1 with
    | [x, y], p1, r1 =>
      simp only [Reps] at r1
      obtain ⟨v, r, rfl, rv, w, r', rfl, rw', rfl⟩ := r1
      exact ⟨v, w, rfl, p1 m1 H1 (.nx _) (Le.refl l1.sub) c1 (((er.mono l1).set i rv).set j rw')⟩
    | [], p1, _ => exact p1.elim
    | [_], p1, _ => exact p1.elim
    | _ :: _ :: _ :: _, p1, _ => exact p1.elim)⟩
end
structure Its where
  ds : List D
  P : Sto → Prop
def ItR (B : Bas) (m : Mp) (its : Its) (J : It) : Prop := ∀ (m' : Mp) (H' : Hp) (S : Sto), Kp m m' → Sub m' H' → Cor B m' S → its.P S →
  (∀ (i : Nat) (d : D), its.ds[i]? = some d → J.go i H' ∧ ∀ x H'', J.yld i H' x H'' → ∃ m'', Le m' H' m'' H'' ∧ Cor B m'' S ∧ Rep B m'' d x) ∧ ∀ i, its.ds.length ≤ i → J.stop i H'
abbrev MI := En → Sto → Res Its
def tI (B : Bas) (W : WX) (f : MI) : TI := fun σ H R => ∃ m S en, Sub m H ∧ Cor B m S ∧ EnR B m en σ ∧ Post B (ItR B) (at' W σ) m H R (f en S)
open Classical in
noncomputable def loop (g : MG) (b : MS) (P : Sto → Prop) : List D → En → Sto → Res Fl
  | [], en, S => if P S then .ok (.nx en) S else .bad
  | d :: ds, en, S => if P S then (match g d en with
    | none => .bad
    | some en1 => (b en1 S).bind fun f S1 => match f with
      | .nx en2 => loop g b P ds en2 S1
      | .ct en2 => loop g b P ds en2 S1
      | .bk en2 => .ok (.nx en2) S1
      | .rt d => .ok (.rt d) S1) else .bad
noncomputable def sFor (i : MI) (g : MG) (b : MS) : MS := fun en S => (i en S).bind fun its S1 => loop g b its.P its.ds en S1
theorem tFor_of {B : Bas} {W : WX} {mi : MI} {mb : MS} {g : TG} {t : MG} {own : List Nat} (hW : WI W) (ht : TgR B own g t) (D : Ends) (σ : St) (H : Hp) (q : tS B W (sFor mi t mb) D σ H) : tFor (tI B W mi) g (tS B W mb) D σ H := by
  obtain ⟨m, S, en, s, c, er, p⟩ := q
  refine ⟨m, S, en, s, c, er, (Post.bind p).imp ?_⟩
  rintro J H1 ⟨its, S1, m1, _, l1, c1, ir, p1⟩
  refine ⟨fun i k σ' H' => k = its.ds.length - i ∧ ∃ m' S' en', Le m1 H1 m' H' ∧ Cor B m' S' ∧ EnR B m' en' σ' ∧ Post B (RFl B) (at' W σ') m' H' (qOf D) (loop t mb its.P (its.ds.drop i) en' S'),
    ⟨_, rfl, m1, S1, en, Le.refl l1.sub, c1, er.mono l1, p1⟩, ?_⟩
  rintro i k σ' H' ⟨rfl, m', S', en', l', c', er', p'⟩
  by_cases hP : its.P S'
  · obtain ⟨hg, hs⟩ := ir m' H' S' l'.toKp l'.sub c' hP
    cases hd : its.ds[i]? with
    | none =>
      have hi : its.ds.length ≤ i := List.getElem?_eq_none_iff.mp hd
      rw [List.drop_eq_nil_of_le hi, loop, if_pos hP] at p'
      exact .inl ⟨hs i hi, p' m' H' (.nx σ') (Le.refl l'.sub) c' er'⟩
    | some d =>
      have hi : i < its.ds.length := (List.getElem?_eq_some_iff.mp hd).1
      obtain ⟨go, yl⟩ := hg i d hd
      have e1 : its.ds.drop i = d :: its.ds.drop (i + 1) := by
        rw [List.drop_eq_getElem_cons hi]
        congr 1
        exact (List.getElem?_eq_some_iff.mp hd).2
      rw [e1, loop, if_pos hP] at p'
      refine .inr ⟨go, fun σ2 H2 => its.ds.length - (i + 1) = its.ds.length - (i + 1) ∧ ∃ m2 S2 en2, Le m1 H1 m2 H2 ∧ Cor B m2 S2 ∧ EnR B m2 en2 σ2 ∧ Post B (RFl B) (at' W σ2) m2 H2 (qOf D) (loop t mb its.P (its.ds.drop (i + 1)) en2 S2),
        fun σ2 H2 n2 => ⟨its.ds.length - (i + 1), by omega, n2⟩, fun x H'' y => ?_⟩
      obtain ⟨m'', l2, c2, r2⟩ := yl x H'' y
      cases e2 : t d en' with
      | none => rw [e2] at p'; exact p'.elim
      | some en1 =>
        rw [e2] at p'
        refine ht m'' H'' en' en1 σ' d x l2.sub r2 (er'.mono l2) e2 _ fun σ2 er2 _ => ?_
        refine ⟨m'', S', en1, l2.sub, c2, er2, (Post.bind ((p'.shift l2).wx fun c d H3 h => hW _ _ _ _ _ h)).imp ?_⟩
        rintro f' H3 ⟨f, S3, m3, _, l3, c3, r3, p3⟩
        cases f with
        | nx en3 =>
          cases f' with
          | nx σ3 => exact ⟨rfl, m3, S3, en3, (l'.trans l2).trans l3, c3, r3, p3.wx fun c d H4 h => hW _ _ _ _ _ h⟩
          | _ => exact r3.elim
        | ct en3 =>
          cases f' with
          | ct σ3 => exact ⟨rfl, m3, S3, en3, (l'.trans l2).trans l3, c3, r3, p3.wx fun c d H4 h => hW _ _ _ _ _ h⟩
          | _ => exact r3.elim
        | bk en3 =>
          cases f' with
          | bk σ3 => exact p3 m3 H3 (.nx σ3) (Le.refl l3.sub) c3 r3
          | _ => exact r3.elim
        | rt d3 =>
          cases f' with
          | rt v3 => exact p3 m3 H3 (.rt v3) (Le.refl l3.sub) c3 r3
          | _ => exact r3.elim
  · exfalso
    cases hl : its.ds.drop i with
    | nil => rw [hl, loop, if_neg hP] at p'; exact p'
    | cons d ds => rw [hl, loop, if_neg hP] at p'; exact p'
theorem ds_for {X : Cx} {B : Bas} {W : WX} {tg iter : Expr} {body : List Stmt} {pos : Pos} {mi : MI} {mb : MS} {g : TG} {t : MG} {own : List Nat} (hW : WI W) (hp : PassesOwn (model X.prog X.w) X.A X.env X.xe) (hc : X.calm = true)
    (ht : TgR B own g t) (hi : PI X tg iter (tI B W mi)) (hg : PG X tg g) (hb : PSs X body (tS B W mb)) (hs : ∀ x, foldedSetIterable iter X.env x = pure x := by intro _; rfl) :
    PS X (.For tg iter body [] pos) (tS B W (sFor mi t mb)) := PS.cut (ps_for hp hc hi hg hb hs) (tFor_of hW ht)
def whil (t : MT) (b : MS) : Nat → En → Sto → Res Fl
  | 0, _, _ => .bad
  | n + 1, en, S => (t en S).bind fun k S1 => match k with
    | false => .ok (.nx en) S1
    | true => (b en S1).bind fun f S2 => match f with
      | .nx en2 => whil t b n en2 S2
      | .ct en2 => whil t b n en2 S2
      | .bk en2 => .ok (.nx en2) S2
      | .rt d => .ok (.rt d) S2
def sWhile (n : Nat) (t : MT) (b : MS) : MS := fun en S => whil t b n en S
structure Fn where
  n : Nat
  run : List D → Sto → Res D
def spF (B : Bas) (F : Fn) : Sp := fun vs H Q E => ∃ m S ds, Sub m H ∧ Cor B m S ∧ Reps B m ds vs ∧ ds.length = F.n ∧ Post B (Rep B) E m H Q (F.run ds S)
theorem spF_len {B : Bas} {F : Fn} {ps : List Str} (h : F.n = ps.length) (vs : List V) (H : Hp) (Q : VK) (E : XK) (q : spF B F vs H Q E) : vs.length = ps.length := by
  obtain ⟨m, S, ds, _, _, r, n, _⟩ := q
  rw [← r.length, n, h]
def startE (N : Nat) (ds : List D) : En := ds.map some ++ List.replicate (N - ds.length) none
def fnB (n N : Nat) (b : MS) : Fn := ⟨n, fun ds S => (b (startE N ds) S).bind fun f S1 => match f with
  | .nx _ => .ok .non S1
  | .rt d => .ok d S1
  | _ => .bad⟩
theorem start_en {B : Bas} {m : Mp} {N : List Str} {ds : List D} {vs : List V} (r : Reps B m ds vs) : EnR B m (startE N.length ds) (L2.start N vs) := by
  have hl := r.length
  refine ⟨by unfold startE L2.start; simp only [List.length_append, List.length_map, List.length_replicate]; omega, fun i d e => ?_⟩
  unfold startE at e
  by_cases hi : i < ds.length
  · rw [List.getElem?_append_left (by simpa using hi), List.getElem?_map] at e
    cases e2 : ds[i]? with
    | none => rw [e2] at e; cases e
    | some x =>
      rw [e2] at e
      cases e
      obtain ⟨v, hv, rv⟩ := r.get e2
      refine ⟨v, ?_, rv⟩
      unfold L2.start
      rw [List.getElem?_append_left (by simpa [← hl] using hi), List.getElem?_map, hv]
      rfl
  · rw [List.getElem?_append_right (by simpa using hi), List.getElem?_replicate] at e
    split at e <;> cases e
abbrev WE0 (E : XK) : WX := fun c d _ H => E c d H
theorem wi_E {E : XK} : WI (WE0 E) := fun _ _ _ _ _ h => h
abbrev W0 : WX := fun _ _ _ _ => False
theorem fn_body {B : Bas} {N : List Str} {n : Nat} {ms : MS} {vs : List V} {H : Hp} {Q : VK} {E : XK} (h : spF B (fnB n N.length ms) vs H Q E) : tS B (WE0 E) ms { nx := fun _ H' => Q .non H', rt := Q } (L2.start N vs) H := by
  obtain ⟨m, S, ds, s, c, r, hn, p⟩ := h
  refine ⟨m, S, startE N.length ds, s, c, start_en r, (Post.bind p).imp ?_⟩
  rintro f' H1 ⟨f, S1, m1, _, l1, c1, r1, p1⟩
  cases f with
  | nx en =>
    cases f' with
    | nx σ => exact p1 m1 H1 .non (Le.refl l1.sub) c1 (rp_non _)
    | _ => exact r1.elim
  | rt d =>
    cases f' with
    | rt v => exact p1 m1 H1 v (Le.refl l1.sub) c1 r1
    | _ => exact r1.elim
  | bk en => exact p1.elim
  | ct en => exact p1.elim
theorem fn_ok {P : Program} {w : World} {K : PySem.W.Frag} {mg : Str → Option Value} {base : Heap} {B : Bas} {x qual : Str} {st : Stmt} {f : Addr} {fd : FuncData} {N ps : List Str} {k n : Nat} {ms : MS} (F : Fun K x qual st f fd) (S : FnScope N ps (defScope st)) (hn : n = ps.length)
    (hbody : ∀ (cdv : Value) (A : Around) (outer : List Env) (s : Shared) (H : Hp) (E : XK), Room k (A.deeper (PyProof.Rows.envOfC qual (defScope st) s.heap.objs.size f cdv)) →
      PSs (cxOf (L2.CX P w) P w K mg base N qual (defScope st) f cdv A outer s H E) (defBody st) (tS B (WE0 E) ms)) : FnOk P w K mg base (L2.CX P w) (k + 1) f fd ps (spF B (fnB n N.length ms)) :=
  F.okX S (spF_len hn) fun cdv A outer s H vs Q E hr h => ⟨_, hbody cdv A outer s H E hr, fn_body h⟩
def mCall (F : Fn) (r : MA) : ME := fun en S => (r en S).bind fun ds S1 => if ds.length = F.n then F.run ds S1 else .bad
theorem tCall_of {B : Bas} {W : WX} {F : Fn} {mr : MA} (σ : St) (H : Hp) (Q : VK) (t : tE B W (mCall F mr) σ H Q) : tCallSD (spF B F) [] (fun σ => at' W σ) (tA B W mr) σ H Q := by
  obtain ⟨m, S, en, s, c, er, p⟩ := t
  refine ⟨m, S, en, s, c, er, (Post.bind p).imp ?_⟩
  rintro vs H1 ⟨ds, S1, m1, _, l1, c1, r1, p1⟩
  split at p1
  · rename_i hn
    exact ⟨m1, S1, ds, l1.sub, c1, by rw [List.append_nil]; exact r1, hn, p1⟩
  · exact p1.elim
section
variable {X : Cx} {B : Bas} {W : WX} {k : Nat} {f : Addr} {fd : FuncData} {ps : List Str} {F : Fn} {x : Str} {p pos : Pos} {e : Expr} {es : List Expr} {mr : MA}
theorem de_call (FO : FnOk X.prog X.w X.K X.mg X.base (L2.CX X.prog X.w) k f fd ps (spF B F)) (hr : Room k X.A) (tk : Takes X W) (hm : X.mg x = some (.ref f)) (hk : PySem.W.keepIn X.K (.ref f) = true) (hb : Binds X.K fd ps [])
    (ha : PA X (e :: es) (tA B W mr)) (hg : Gl X x := by rfl) (hdb : (x == ("__debug__" : Str)) = false := by decide) (he : starEach (e :: es) X.env = (false, eval e X.env) :: starEach es X.env := by rfl) (hpl : (backTo pos (starEach es X.env)).any (·.1) = false := by rfl) :
    PE X (.Call (.Name x p) (e :: es) [] pos) (tE B W (mCall F mr)) := PE.cut (pe_callSD FO hr hg hm hk hb .nil (fun σ => passAt tk σ) ha hdb he hpl) tCall_of
end
end G
end
section
namespace G
open PySem L2
mutual
def D.bel (n : Nat) : D → Prop
  | .tup ds => D.bels n ds
  | .lst ds => D.bels n ds
  | .scr ds => D.bels n ds
  | .ktp ds => D.bels n ds
  | .dic _ ds => D.bels n ds
  | .ins _ _ ds => D.bels n ds
  | .ref i => i < n
  | .non => True
  | .bl _ => True
  | .int _ => True
  | .str _ => True
  | .fn _ => True
  | .ty _ => True
  | .cl _ => True
  | .lam _ _ _ ds _ => D.bels n ds
def D.bels (n : Nat) : List D → Prop
  | [] => True
  | d :: r => D.bel n d ∧ D.bels n r
end
def Ob.bel (n : Nat) : Ob → Prop
  | .tbl _ _ => True
  | .ndc _ ds => D.bels n ds
  | .fdc _ _ _ ds => D.bels n ds
  | .lst ds => D.bels n ds
  | .dic _ ds => D.bels n ds
  | .ins _ _ ds => D.bels n ds
mutual
theorem nk_bel (n : Nat) : ∀ {d : D} {k : NK}, nkD d = some k → d.bel n
  | .int _, _, _ => by simp only [D.bel]
  | .str _, _, _ => by simp only [D.bel]
  | .tup ds, k, h => by
    simp only [nkD] at h
    obtain ⟨ks, h1, _⟩ := Option.map_eq_some_iff.mp h
    simp only [D.bel]
    exact nks_bel n h1
  | .non, _, h => by simp [nkD] at h
  | .bl _, _, h => by simp [nkD] at h
  | .lst _, _, h => by simp [nkD] at h
  | .dic _ _, _, h => by simp [nkD] at h
  | .ins _ _ _, _, h => by simp [nkD] at h
  | .ref _, _, h => by simp [nkD] at h
  | .fn _, _, h => by simp [nkD] at h
  | .scr _, _, h => by simp [nkD] at h
  | .ktp _, _, h => by simp [nkD] at h
  | .ty _, _, h => by simp [nkD] at h
  | .cl _, _, h => by simp [nkD] at h
  | .lam _ _ _ _ _, _, h => by simp [nkD] at h
theorem nks_bel (n : Nat) : ∀ {ds : List D} {ks : List NK}, nkDs ds = some ks → D.bels n ds
  | [], _, _ => by simp only [D.bels]
  | d :: ds, ks, h => by
    simp only [nkDs] at h
    cases h1 : nkD d with
    | none => rw [h1] at h; cases h
    | some k =>
      cases h2 : nkDs ds with
      | none => rw [h1, h2] at h; cases h
      | some ks' =>
        simp only [D.bels]
        exact ⟨nk_bel n h1, nks_bel n h2⟩
end
section
variable {B : Bas} {m : Mp}
mutual
theorem Rep.bel : ∀ {d : D} {v : V}, Rep B m d v → d.bel m.n
  | .non, _, _ => by simp only [D.bel]
  | .bl _, _, _ => by simp only [D.bel]
  | .int _, _, _ => by simp only [D.bel]
  | .str _, _, _ => by simp only [D.bel]
  | .fn _, _, _ => by simp only [D.bel]
  | .ty _, _, _ => by simp only [D.bel]
  | .cl _, _, _ => by simp only [D.bel]
  | .ref i, v, h => by
    simp only [Rep] at h
    simp only [D.bel]
    exact h.1
  | .tup ds, v, h => by
    simp only [Rep] at h
    obtain ⟨a, vs, e, t, r⟩ := h
    simp only [D.bel]
    exact Reps.bel r
  | .lst ds, v, h => by
    simp only [Rep] at h
    obtain ⟨a, vs, e, t, r⟩ := h
    simp only [D.bel]
    exact Reps.bel r
  | .scr ds, v, h => by
    simp only [Rep] at h
    obtain ⟨a, vs, e, t, r⟩ := h
    simp only [D.bel]
    exact Reps.bel r
  | .ktp ds, v, h => by
    simp only [Rep] at h
    obtain ⟨a, vs, e, t, r⟩ := h
    simp only [D.bel]
    exact Reps.bel r
  | .dic ks ds, v, h => by
    simp only [Rep] at h
    obtain ⟨a, vs, e, o, t, r⟩ := h
    simp only [D.bel]
    exact Reps.bel r
  | .ins c ns ds, v, h => by
    simp only [Rep] at h
    obtain ⟨a, dx, vs, e, o, t, n, r⟩ := h
    simp only [D.bel]
    exact Reps.bel r
  | .lam f c q ds us, v, h => by
    simp only [Rep] at h
    simp only [D.bel]
    exact Reps.bel h.2.2.2
theorem Reps.bel : ∀ {ds : List D} {vs : List V}, Reps B m ds vs → D.bels m.n ds
  | [], _, _ => by simp only [D.bels]
  | d :: ds, _, h => by
    simp only [Reps] at h
    obtain ⟨v, r, e, p, q⟩ := h
    simp only [D.bels]
    exact ⟨Rep.bel p, Reps.bel q⟩
end
theorem ObR.bel {a : Addr} {o : Ob} (h : ObR B m a o) : o.bel m.n := by
  cases o with
  | tbl i q => exact True.intro
  | ndc ks ds => obtain ⟨qs, vs, e, n, r1, r2⟩ := h; exact r2.bel
  | lst ds => obtain ⟨vs, e, r⟩ := h; exact r.bel
  | dic ks ds => obtain ⟨vs, e, r⟩ := h; exact r.bel
  | fdc o u ks ds => obtain ⟨e, vs, q, r⟩ := h; exact r.bel
  | ins c ns ds => obtain ⟨dx, vs, e, n, r⟩ := h; exact r.bel
end
open Classical in
noncomputable def Mp.cut (m : Mp) (n : Nat) : Mp := { mu := m.mu, n := n, Z := fun a => if ∃ j, n ≤ j ∧ j < m.n ∧ m.mu j = a then none else m.Z a }
section
variable {B : Bas} {m : Mp} {n : Nat}
open Classical in
theorem Mp.cut_out {a : Addr} (h : m.out a) : (m.cut n).Z a = m.Z a := by
  show (if ∃ j, n ≤ j ∧ j < m.n ∧ m.mu j = a then none else m.Z a) = _
  rw [if_neg]
  rintro ⟨j, _, h2, h3⟩
  exact h j h2 h3
theorem Mp.cut_oo {a : Addr} (hn : n ≤ m.n) (h : m.out a) : (m.cut n).out a := fun i hi => h i (Nat.lt_of_lt_of_le hi hn)
mutual
theorem Rep.cutR (hn : n ≤ m.n) : ∀ {d : D} {v : V}, Rep B m d v → d.bel n → Rep B (m.cut n) d v
  | .non, _, h, _ => by simpa only [Rep] using h
  | .bl _, _, h, _ => by simpa only [Rep] using h
  | .int _, _, h, _ => by simpa only [Rep] using h
  | .str _, _, h, _ => by simpa only [Rep] using h
  | .fn _, _, h, _ => by simpa only [Rep] using h
  | .ty _, _, h, _ => by simpa only [Rep] using h
  | .cl _, _, h, _ => by simpa only [Rep] using h
  | .ref i, v, h, b => by
    simp only [Rep] at h ⊢
    simp only [D.bel] at b
    exact ⟨b, h.2⟩
  | .tup ds, v, h, b => by
    simp only [Rep] at h ⊢
    simp only [D.bel] at b
    obtain ⟨a, vs, e, t, r⟩ := h
    exact ⟨a, vs, e, ⟨(Mp.cut_out t.2).trans t.1, Mp.cut_oo hn t.2⟩, Reps.cutR hn r b⟩
  | .lst ds, v, h, b => by
    simp only [Rep] at h ⊢
    simp only [D.bel] at b
    obtain ⟨a, vs, e, t, r⟩ := h
    exact ⟨a, vs, e, ⟨(Mp.cut_out t.2).trans t.1, Mp.cut_oo hn t.2⟩, Reps.cutR hn r b⟩
  | .scr ds, v, h, b => by
    simp only [Rep] at h ⊢
    simp only [D.bel] at b
    obtain ⟨a, vs, e, t, r⟩ := h
    refine ⟨a, vs, e, ?_, Reps.cutR hn r b⟩
    rcases t with ⟨t, o⟩ | t
    · refine .inl ⟨?_, Mp.cut_oo hn o⟩
      rcases t with t | ⟨x, t⟩
      · exact .inl ((Mp.cut_out o).trans t)
      · exact .inr ⟨x, (Mp.cut_out o).trans t⟩
    · exact .inr t
  | .ktp ds, v, h, b => by
    simp only [Rep] at h ⊢
    simp only [D.bel] at b
    obtain ⟨a, vs, e, t, r⟩ := h
    exact ⟨a, vs, e, t, Reps.cutR hn r b⟩
  | .dic ks ds, v, h, b => by
    simp only [Rep] at h ⊢
    simp only [D.bel] at b
    obtain ⟨a, vs, e, o, t, r⟩ := h
    exact ⟨a, vs, e, Mp.cut_oo hn o, by rw [Mp.cut_out o]; exact t, Reps.cutR hn r b⟩
  | .ins c ns ds, v, h, b => by
    simp only [Rep] at h ⊢
    simp only [D.bel] at b
    obtain ⟨a, dx, vs, e, o, t, k, r⟩ := h
    exact ⟨a, dx, vs, e, Mp.cut_oo hn o, (Mp.cut_out o).trans t, k, Reps.cutR hn r b⟩
  | .lam f c q ds us, v, h, b => by
    simp only [Rep] at h ⊢
    simp only [D.bel] at b
    obtain ⟨e, t, o, r⟩ := h
    exact ⟨e, (Mp.cut_out o).trans t, Mp.cut_oo hn o, Reps.cutR hn r b⟩
theorem Reps.cutR (hn : n ≤ m.n) : ∀ {ds : List D} {vs : List V}, Reps B m ds vs → D.bels n ds → Reps B (m.cut n) ds vs
  | [], _, h, _ => by simpa only [Reps] using h
  | d :: ds, _, h, b => by
    simp only [Reps] at h ⊢
    simp only [D.bels] at b
    obtain ⟨v, r, e, p, q⟩ := h
    exact ⟨v, r, e, Rep.cutR hn p b.1, Reps.cutR hn q b.2⟩
end
theorem ObR.cutR (hn : n ≤ m.n) {a : Addr} {o : Ob} (hz : (m.cut n).Z a = m.Z a) (h : ObR B m a o) (b : o.bel n) : ObR B (m.cut n) a o := by
  cases o with
  | tbl i q =>
    obtain ⟨ea, ps, e, t, f⟩ := h
    refine ⟨ea, ps, hz.trans e, t, fun pos cv hc => ?_⟩
    obtain ⟨c, e1, e2, e3⟩ := f pos cv hc
    exact ⟨c, e1, (Mp.cut_out e3).trans e2, Mp.cut_oo hn e3⟩
  | ndc ks ds => obtain ⟨qs, vs, e, k, r1, r2⟩ := h; exact ⟨qs, vs, by rw [hz]; exact e, k, Reps.cutR hn r1 (nks_bel n k), Reps.cutR hn r2 b⟩
  | lst ds => obtain ⟨vs, e, r⟩ := h; exact ⟨vs, hz.trans e, Reps.cutR hn r b⟩
  | dic ks ds => obtain ⟨vs, e, r⟩ := h; exact ⟨vs, by rw [hz]; exact e, Reps.cutR hn r b⟩
  | fdc o u ks ds => obtain ⟨e, vs, q, r⟩ := h; exact ⟨hz.trans e, vs, q, Reps.cutR hn r b⟩
  | ins c ns ds => obtain ⟨dx, vs, e, k, r⟩ := h; exact ⟨dx, vs, hz.trans e, k, Reps.cutR hn r b⟩
end
def Cl (S S' : Sto) : Prop := S.length ≤ S'.length ∧ ∀ i, i < S.length → S'[i]? = S[i]? ∨ ∃ o, S'[i]? = some o ∧ o.bel S.length
theorem Cl.app (S G : Sto) : Cl S (S ++ G) := ⟨by simp, fun i hi => .inl (List.getElem?_append_left hi)⟩
open Classical in
noncomputable def Res.drop (S : Sto) : Res D → Res D
  | .ok d S' => if Cl S S' ∧ d.bel S.length then .ok d (S'.take S.length) else .bad
  | .ex c ns vs S' => if Cl S S' ∧ D.bels S.length vs then .ex c ns vs (S'.take S.length) else .bad
  | .bad => .bad
noncomputable def dropF (F : Fn) : Fn := ⟨F.n, fun ds S => (F.run ds S).drop S⟩
theorem Res.drop_app {d : D} {S G : Sto} (h : d.bel S.length) : (Res.ok d (S ++ G)).drop S = .ok d S := by
  simp only [Res.drop]
  rw [if_pos ⟨Cl.app S G, h⟩, List.take_left']
  rfl
theorem Res.drop_self {d : D} {S : Sto} (h : d.bel S.length) : (Res.ok d S).drop S = .ok d S := by
  have := Res.drop_app (G := []) h
  rwa [List.append_nil] at this
open Classical in
theorem cut_all {B : Bas} {m m1 : Mp} {H H1 : Hp} {S S1 : Sto} (c : Cor B m S) (l : Le m H m1 H1) (c1 : Cor B m1 S1) (cl : Cl S S1) : Le m H (m1.cut S.length) H1 ∧ Cor B (m1.cut S.length) (S1.take S.length) := by
  have hn : S.length ≤ m1.n := by rw [c1.n]; exact cl.1
  refine ⟨⟨⟨by rw [c.n]; exact Nat.le_refl _, fun i hi => l.mu i hi, fun a o h1 h2 => ?_⟩, fun a o h1 h2 => ?_, fun a o h => ?_⟩, ⟨?_, fun i o e => ?_, fun i j hi hj e => ?_⟩⟩
  · obtain ⟨k1, k2⟩ := l.keep a o h1 h2
    exact ⟨(Mp.cut_out k2).trans k1, Mp.cut_oo hn k2⟩
  · obtain ⟨k1, k2 | ⟨k2, k3, k4⟩⟩ := l.fr0 a o h1 h2
    · refine ⟨k1, .inl ?_⟩
      show (if _ then none else m1.Z a) = none
      split
      · rfl
      · exact k2
    · exact ⟨k1, .inr ⟨(Mp.cut_out k3).trans k2, Mp.cut_oo hn k3, k4⟩⟩
  · have h' : (if ∃ j, S.length ≤ j ∧ j < m1.n ∧ m1.mu j = a then none else m1.Z a) = some o := h
    split at h'
    · cases h'
    · exact l.sub a o h'
  · show S.length = _
    rw [List.length_take, Nat.min_eq_left cl.1]
  · have hi : i < S.length := by
      have := (List.getElem?_eq_some_iff.mp e).1
      rw [List.length_take] at this
      omega
    rw [List.getElem?_take_of_lt hi] at e
    have ob := c1.ob i o e
    refine ObR.cutR hn ?_ ob ?_
    · show (if ∃ j, S.length ≤ j ∧ j < m1.n ∧ m1.mu j = m1.mu i then none else m1.Z (m1.mu i)) = m1.Z (m1.mu i)
      rw [if_neg]
      rintro ⟨j, h1, h2, h3⟩
      have := c1.inj j i h2 (Nat.lt_of_lt_of_le hi hn) h3
      omega
    · rcases cl.2 i hi with q | ⟨o', q, b⟩
      · rw [q] at e
        have := (c.ob i o e).bel
        rw [c.n] at this
        exact this
      · rw [q] at e
        cases e
        exact b
  · have hi' : i < m1.n := Nat.lt_of_lt_of_le hi hn
    have hj' : j < m1.n := Nat.lt_of_lt_of_le hj hn
    exact c1.inj i j hi' hj' e
theorem ExR.cutR {B : Bas} {m : Mp} {n : Nat} (hn : n ≤ m.n) {ns : List Str} {vs : List D} {dd : Option Addr} (h : ExR B m ns vs dd) (b : D.bels n vs) : ExR B (m.cut n) ns vs dd := by
  rcases h with h | ⟨a, us, e, z, o, l, r⟩
  · exact .inl h
  · exact .inr ⟨a, us, e, (Mp.cut_out o).trans z, Mp.cut_oo hn o, l, Reps.cutR hn r b⟩
theorem Post.drop {B : Bas} {E : XK} {m : Mp} {H : Hp} {Q : VK} {r : Res D} {S : Sto} (c : Cor B m S) (h : Post B (Rep B) E m H Q (r.drop S)) : Post B (Rep B) E m H Q r := by
  cases r with
  | bad => exact h
  | ok d S1 =>
    intro m1 H1 v l c1 rv
    simp only [Res.drop] at h
    split at h
    · rename_i hc
      obtain ⟨l2, c2⟩ := cut_all c l c1 hc.1
      exact h _ _ _ l2 c2 (rv.cutR (by rw [c1.n]; exact hc.1.1) hc.2)
    · exact h.elim
  | ex cl ns vs S1 =>
    intro m1 H1 dd l c1 rv
    simp only [Res.drop] at h
    split at h
    · rename_i hc
      obtain ⟨l2, c2⟩ := cut_all c l c1 hc.1
      exact h _ _ _ l2 c2 (rv.cutR (by rw [c1.n]; exact hc.1.1) hc.2)
    · exact h.elim
theorem fn_drop {P : Program} {w : World} {K : PySem.W.Frag} {mg : Str → Option Value} {base : Heap} {CX : CXT} {B : Bas} {f : Addr} {fd : FuncData} {ps : List Str} {k : Nat} {F : Fn} (h : FnOk P w K mg base CX k f fd ps (spF B F)) :
    FnOk P w K mg base CX k f fd ps (spF B (dropF F)) := h.imp fun vs H Q E ⟨m, S, ds, s, c, r, n, p⟩ => ⟨m, S, ds, s, c, r, n, p.drop c⟩
end G
end
section
namespace G
open PySem L2
section
variable {B : Bas} {m : Mp} {H : Hp} {S : Sto} {Q : VK} {d : D}
theorem q_val {v : V} (s : Sub m H) (c : Cor B m S) (q : ∀ m' H' v, Le m H m' H' → Cor B m' S → Rep B m' d v → Q v H') (r : Rep B m d v) : Q v H := q m H v (Le.refl s) c r
theorem q_tup {ds : List D} {vs : List V} (s : Sub m H) (c : Cor B m S) (q : ∀ m' H' v, Le m H m' H' → Cor B m' S → Rep B m' (.tup ds) v → Q v H') (r : Reps B m ds vs) (p : Addr) (hp : H p = none) : Q (.ref p) (upd H p (.tup vs)) :=
  q _ _ _ (Le.new c s hp) (Cor.new c s hp) (rp_tup c s hp r)
theorem q_lst {ds : List D} {vs : List V} (s : Sub m H) (c : Cor B m S) (q : ∀ m' H' v, Le m H m' H' → Cor B m' S → Rep B m' (.lst ds) v → Q v H') (r : Reps B m ds vs) (p : Addr) (hp : H p = none) : Q (.ref p) (upd H p (.lst vs)) :=
  q _ _ _ (Le.new c s hp) (Cor.new c s hp) (rp_lst c s hp r)
theorem Rep.int_eq {i : Int} {v : V} (r : Rep B m (.int i) v) : v = .int i := by simpa only [Rep] using r
theorem Rep.str_eq {i : Str} {v : V} (r : Rep B m (.str i) v) : v = .str i := by simpa only [Rep] using r
theorem Rep.bl_eq {i : Bool} {v : V} (r : Rep B m (.bl i) v) : v = .bl i := by simpa only [Rep] using r
theorem Rep.non_eq {v : V} (r : Rep B m .non v) : v = .non := by simpa only [Rep] using r
end
def dI (C : Int → Int → Prop) [∀ i j, Decidable (C i j)] (g : Int → Int → D) (_ : Sto) : D → D → Option D
  | .int i, .int j => if C i j then some (g i j) else none
  | _, _ => none
def dI0 (g : Int → Int → D) (_ : Sto) : D → D → Option D
  | .int i, .int j => some (g i j)
  | _, _ => none
theorem op2_I {B : Bas} {C : Int → Int → Prop} [∀ i j, Decidable (C i j)] {f : Int → Int → Int} : Op2 B (rI C fun i j => .int (f i j)) (dI C fun i j => .int (f i j)) := fun m S H x y d1 d2 d s c r1 r2 e Q q => by
  cases d1 with
  | int i =>
    cases d2 with
    | int j =>
      simp only [dI] at e
      split at e
      · cases e
        exact ⟨i, j, r1.int_eq, r2.int_eq, by assumption, q_val s c q (rp_int m)⟩
      · cases e
    | _ => cases e
  | _ => cases e
theorem op2_I0 {B : Bas} {f : Int → Int → Int} : Op2 B (rI0 fun i j => .int (f i j)) (dI0 fun i j => .int (f i j)) := fun m S H x y d1 d2 d s c r1 r2 e Q q => by
  cases d1 with
  | int i =>
    cases d2 with
    | int j => cases e; exact ⟨i, j, r1.int_eq, r2.int_eq, q_val s c q (rp_int m)⟩
    | _ => cases e
  | _ => cases e
theorem op2_B0 {B : Bas} {f : Int → Int → Bool} : Op2 B (rI0 fun i j => .bl (f i j)) (dI0 fun i j => .bl (f i j)) := fun m S H x y d1 d2 d s c r1 r2 e Q q => by
  cases d1 with
  | int i =>
    cases d2 with
    | int j => cases e; exact ⟨i, j, r1.int_eq, r2.int_eq, q_val s c q (rp_bl m)⟩
    | _ => cases e
  | _ => cases e
noncomputable instance (i j : Int) : Decidable (CMul i j) := Classical.propDecidable _
noncomputable instance (i j : Int) : Decidable (CDiv i j) := Classical.propDecidable _
noncomputable instance (i j : Int) : Decidable (CPow i j) := Classical.propDecidable _
def dSub := dI0 fun i j => .int (i - j)
noncomputable def dDiv := dI CDiv fun i j => .int (i / j)
def dMod := dI (fun _ j => 0 < j) fun i j => .int (i % j)
noncomputable def dPow := dI CPow fun i j => .int (i ^ j.toNat)
def dAnd := dI0 fun i j => .int (Builtin.bitAnd i j)
def dOr := dI0 fun i j => .int (Builtin.bitOr i j)
def dLe0 := dI0 fun i j => .bl (decide (i ≤ j))
def dGt0 := dI0 fun i j => .bl (decide (j < i))
def dGe0 := dI0 fun i j => .bl (decide (j ≤ i))
def dAdd (S : Sto) : D → D → Option D
  | .int i, .int j => some (.int (i + j))
  | .str x, .str y => if x.length + y.length ≤ sizeLine then some (.str (x ++ y)) else none
  | .tup x, .tup y => if x.length + y.length ≤ sizeLine then some (.tup (x ++ y)) else none
  | .ktp x, .ktp y => if x.length + y.length ≤ sizeLine ∧ x ≠ [] ∧ y ≠ [] then some (.tup (x ++ y)) else none
  | x, y => match plL S x, plL S y with
    | some x, some y => if x.length + y.length ≤ sizeLine then some (.lst (x ++ y)) else none
    | _, _ => none
def rStrAdd : R2 := fun x y H Q => ∃ i j, x = .str i ∧ y = .str j ∧ i.length + j.length ≤ sizeLine ∧ Q (.str (i ++ j)) H
def rAddU (K : PySem.W.Frag) : R2 := fun x y H Q => (rI0 (fun i j => .int (i + j)) x y H Q ∨ rStrAdd x y H Q) ∨ (rCatA K x y H Q ∨ rCat x y H Q)
theorem op_addU {X : Cx} : OpR X (binaryOp .Add) (rAddU X.K) := (op_add.or op_add_str).or (op_catA.or op_cat)
theorem op2_add {B : Bas} : Op2 B (rAddU B.K) dAdd := fun m S H x y d1 d2 d s c r1 r2 e Q q => by
  have fin : ∀ {a b : List D}, plL S d1 = some a → plL S d2 = some b → (if a.length + b.length ≤ sizeLine then some (D.lst (a ++ b)) else none) = some d → rAddU B.K x y H Q := fun {a b} h1 h2 e => by
    split at e
    · cases e
      obtain ⟨p1, vs, rfl, k1, q1⟩ := repP s c r1 h1
      obtain ⟨p2, us, rfl, k2, q2⟩ := repP s c r2 h2
      exact .inr (.inr ⟨p1, p2, vs, us, rfl, rfl, k1, k2, by rw [← q1.length, ← q2.length]; assumption, q_lst s c q (q1.append q2)⟩)
    · cases e
  unfold dAdd at e
  split at e
  · cases e
    exact .inl (.inl ⟨_, _, r1.int_eq, r2.int_eq, q_val s c q (rp_int m)⟩)
  · split at e
    · cases e
      exact .inl (.inr ⟨_, _, r1.str_eq, r2.str_eq, by assumption, q_val s c q (rp_str m)⟩)
    · cases e
  · split at e
    · cases e
      rename_i a b hl
      have r1' := r1
      have r2' := r2
      simp only [Rep] at r1 r2
      obtain ⟨p1, vs, rfl, k1, q1⟩ := r1
      obtain ⟨p2, us, rfl, k2, q2⟩ := r2
      refine .inr (.inl ⟨p1, p2, vs, us, rfl, rfl, k1.sq s, k2.sq s, by rw [← q1.length, ← q2.length]; exact hl, fun z => ?_, fun _ z => ?_, fun _ _ => q_tup s c q (q1.append q2)⟩)
      · have : a = [] := q1.nil_iff.mp z
        subst this
        exact q_val s c q r2'
      · have : b = [] := q2.nil_iff.mp z
        subst this
        rw [List.append_nil] at q
        exact q_val s c q r1'
    · cases e
  · split at e
    · cases e
      rename_i a b hl
      simp only [Rep] at r1 r2
      obtain ⟨p1, vs, rfl, k1, q1⟩ := r1
      obtain ⟨p2, us, rfl, k2, q2⟩ := r2
      exact .inr (.inl ⟨p1, p2, vs, us, rfl, rfl, k1.sq, k2.sq, by rw [← q1.length, ← q2.length]; exact hl.1, fun z => absurd (q1.nil_iff.mp z) hl.2.1, fun _ z => absurd (q2.nil_iff.mp z) hl.2.2, fun _ _ => q_tup s c q (q1.append q2)⟩)
    · cases e
  · split at e
    · rename_i h1 h2
      exact fin h1 h2 e
    · cases e
noncomputable def dMul (S : Sto) : D → D → Option D
  | .int i, .int j => if CMul i j then some (.int (i * j)) else none
  | x, .int k => match plL S x with
    | some xs => if -(2 ^ 63) ≤ k ∧ k < 2 ^ 63 ∧ xs.length * k.toNat ≤ sizeLine then some (.lst (List.replicate k.toNat xs).flatten) else none
    | none => none
  | _, _ => none
theorem Reps.flat {B : Bas} {m : Mp} {ds : List D} {vs : List V} (r : Reps B m ds vs) : ∀ n : Nat, Reps B m (List.replicate n ds).flatten (List.replicate n vs).flatten
  | 0 => Reps.nil
  | n + 1 => by
    rw [List.replicate_succ, List.replicate_succ, List.flatten_cons, List.flatten_cons]
    exact r.append (Reps.flat r n)
theorem op_mulU {X : Cx} : OpR X (binaryOp .Mult) (fun x y H Q => rI CMul (fun i j => .int (i * j)) x y H Q ∨ rRep x y H Q) := op_mul.or op_rep
theorem op2_mul {B : Bas} : Op2 B (fun x y H Q => rI CMul (fun i j => .int (i * j)) x y H Q ∨ rRep x y H Q) dMul := fun m S H x y d1 d2 d s c r1 r2 e Q q => by
  unfold dMul at e
  split at e
  · split at e
    · cases e
      exact .inl ⟨_, _, r1.int_eq, r2.int_eq, by assumption, q_val s c q (rp_int m)⟩
    · cases e
  · split at e
    · rename_i xs h1
      split at e
      · rename_i hk
        cases e
        obtain ⟨p1, vs, rfl, k1, q1⟩ := repP s c r1 h1
        exact .inr ⟨p1, _, vs, rfl, r2.int_eq, k1, hk.1, hk.2.1, by rw [← q1.length]; exact hk.2.2, q_lst s c q (q1.flat _)⟩
      · cases e
    · cases e
  · cases e
def dEqB (S : Sto) (x y : D) : Option Bool := match x, y with
  | .str a, .str b => some (decide (a = b))
  | x, y => match pdv S x, pdv S y with
    | some p, some q => if SeqAt.shaped p = true ∧ SeqAt.shaped q = true then some (PyData.eqv p q) else none
    | _, _ => none
def dEq (S : Sto) (x y : D) : Option D := (dEqB S x y).map .bl
def dNe (S : Sto) (x y : D) : Option D := (dEqB S x y).map fun b => .bl (!b)
theorem dEqB_of {B : Bas} {m : Mp} {H : Hp} {S : Sto} {x y : V} {d1 d2 : D} {k : Bool} (s : Sub m H) (c : Cor B m S) (r1 : Rep B m d1 x) (r2 : Rep B m d2 y) (e : dEqB S d1 d2 = some k) :
    (∃ a b : Str, x = .str a ∧ y = .str b ∧ k = decide (a = b)) ∨ ∃ p q, Dp B.K H x p ∧ Dp B.K H y q ∧ SeqAt.shaped p = true ∧ SeqAt.shaped q = true ∧ k = PyData.eqv p q := by
  unfold dEqB at e
  split at e
  · cases e
    exact .inl ⟨_, _, r1.str_eq, r2.str_eq, rfl⟩
  · split at e
    · rename_i p q h1 h2
      split at e
      · rename_i hs
        cases e
        exact .inr ⟨p, q, r1.dpv s c h1, r2.dpv s c h2, hs.1, hs.2, rfl⟩
      · cases e
    · cases e
theorem str_dec (a b : Str) : decide (V.str a = V.str b) = decide (a = b) := by
  by_cases h : a = b
  · subst h; simp
  · rw [decide_eq_false h, decide_eq_false fun z => h (by injection z)]
def rEqU (K : PySem.W.Frag) : R2 := fun x y H Q => rEq x y H Q ∨ rEqD K x y H Q
def rNeU (K : PySem.W.Frag) : R2 := fun x y H Q => rNe x y H Q ∨ rNeD K x y H Q
theorem op_eqU {X : Cx} (hu : X.A.units + 64 < cLine) : OpR X (compareOp .Eq) (rEqU X.K) := op_eq.or (op_eqD hu)
theorem op_neU {X : Cx} (hu : X.A.units + 64 < cLine) : OpR X (compareOp .NotEq) (rNeU X.K) := op_ne.or (op_neD hu)
theorem op2_eq {B : Bas} : Op2 B (rEqU B.K) dEq := fun m S H x y d1 d2 d s c r1 r2 e Q q => by
  unfold dEq at e
  cases h : dEqB S d1 d2 with
  | none => rw [h] at e; cases e
  | some k =>
    rw [h] at e
    cases e
    rcases dEqB_of s c r1 r2 h with ⟨a, b, rfl, rfl, rfl⟩ | ⟨p, z, a1, a2, a3, a4, rfl⟩
    · exact .inl ⟨rfl, by rw [str_dec]; exact q_val s c q (rp_bl m)⟩
    · exact .inr ⟨p, z, a1, a2, a3, a4, q_val s c q (rp_bl m)⟩
theorem op2_ne {B : Bas} : Op2 B (rNeU B.K) dNe := fun m S H x y d1 d2 d s c r1 r2 e Q q => by
  unfold dNe at e
  cases h : dEqB S d1 d2 with
  | none => rw [h] at e; cases e
  | some k =>
    rw [h] at e
    cases e
    rcases dEqB_of s c r1 r2 h with ⟨a, b, rfl, rfl, rfl⟩ | ⟨p, z, a1, a2, a3, a4, rfl⟩
    · exact .inl ⟨rfl, by rw [str_dec]; exact q_val s c q (rp_bl m)⟩
    · exact .inr ⟨p, z, a1, a2, a3, a4, q_val s c q (rp_bl m)⟩
def rInT (K : PySem.W.Frag) (f : Bool → Bool) : R2 := fun x y H Q => ∃ d ds, Dp K H x d ∧ Dp K H y (.tuple ds) ∧ SeqAt.shaped d = true ∧ SeqAt.shaped (.tuple ds) = true ∧ Q (.bl (f (ds.any fun z => PyData.eqv z d))) H
theorem op_inT {X : Cx} (hu : X.A.units + 65 < cLine) : OpR X (compareOp .In) (rInT X.K fun b => b) := by
  intro pins s σ H x y v u Q I rx ry h
  obtain ⟨d, ds, hd, he, sd, se, q⟩ := h
  obtain ⟨as, r1⟩ := Dp.reads I d x v hd rx
  obtain ⟨bs, r2⟩ := Dp.reads I (.tuple ds) y u he ry
  exact SeqAt.in_tuple_reads r2 r1 (SeqAt.canLay_of_shaped se) (SeqAt.canLay_of_shaped sd) (PyProof.Rows.room_in_shaped sd hu) ⟨.bl _, H, I, rfl, q⟩
theorem op_notInT {X : Cx} (hu : X.A.units + 65 < cLine) : OpR X (compareOp .NotIn) (rInT X.K fun b => !b) := by
  intro pins s σ H x y v u Q I rx ry h
  obtain ⟨d, ds, hd, he, sd, se, q⟩ := h
  obtain ⟨as, r1⟩ := Dp.reads I d x v hd rx
  obtain ⟨bs, r2⟩ := Dp.reads I (.tuple ds) y u he ry
  exact SeqAt.notIn_tuple_reads r2 r1 (SeqAt.canLay_of_shaped se) (SeqAt.canLay_of_shaped sd) (PyProof.Rows.room_in_shaped sd hu) ⟨.bl _, H, I, rfl, q⟩
def rInU (K : PySem.W.Frag) : R2 := fun x y H Q => ((∃ (c : Nat) (z : Str), x = .str ⟨#[c]⟩ ∧ y = .str z ∧ Q (.bl (decide (c ∈ z.cps.toList))) H) ∨ rInD K x y H Q) ∨ rInT K (fun b => b) x y H Q
def rNotInU (K : PySem.W.Frag) : R2 := fun x y H Q => ((∃ (c : Nat) (z : Str), x = .str ⟨#[c]⟩ ∧ y = .str z ∧ Q (.bl (!decide (c ∈ z.cps.toList))) H) ∨ rNotInD K x y H Q) ∨ rInT K (fun b => !b) x y H Q
theorem op_inU {X : Cx} (hu : X.A.units + 65 < cLine) : OpR X (compareOp .In) (rInU X.K) := (op_in_sign.or (op_inD hu)).or (op_inT hu)
theorem op_notInU {X : Cx} (hu : X.A.units + 65 < cLine) : OpR X (compareOp .NotIn) (rNotInU X.K) := (op_notIn_sign.or (op_notInD hu)).or (op_notInT hu)
def sign1 (w : Str) : Option Nat := match w.cps.toList with
  | [c] => some c
  | _ => none
theorem sign1_eq {w : Str} {c : Nat} (h : sign1 w = some c) : w = ⟨#[c]⟩ := by
  unfold sign1 at h
  split at h
  · rename_i x hx
    cases h
    obtain ⟨a⟩ := w
    congr 1
    exact Array.toList_inj.mp (by simpa using hx)
  · cases h
def dInB (S : Sto) (x y : D) : Option Bool := match y with
  | .str z => match x with
    | .str w => (sign1 w).map fun c => decide (c ∈ z.cps.toList)
    | _ => none
  | y => match seqL S y, seqT y with
    | some ds, _ => match pdv S x, pds ds with
      | some p, some qs => if SeqAt.shaped p = true ∧ SeqAt.shaped (.list qs) = true then some (qs.any fun z => PyData.eqv z p) else none
      | _, _ => none
    | none, some ds => match pdv S x, pds ds with
      | some p, some qs => if SeqAt.shaped p = true ∧ SeqAt.shaped (.tuple qs) = true then some (qs.any fun z => PyData.eqv z p) else none
      | _, _ => none
    | none, none => none
theorem dInB_of {B : Bas} {m : Mp} {H : Hp} {S : Sto} {x y : V} {d1 d2 : D} {k : Bool} (s : Sub m H) (c : Cor B m S) (r1 : Rep B m d1 x) (r2 : Rep B m d2 y) (e : dInB S d1 d2 = some k) :
    (∃ (c : Nat) (z : Str), x = .str ⟨#[c]⟩ ∧ y = .str z ∧ k = decide (c ∈ z.cps.toList)) ∨ (∃ p qs, Dp B.K H x p ∧ Dp B.K H y (.list qs) ∧ SeqAt.shaped p = true ∧ SeqAt.shaped (.list qs) = true ∧ k = (qs.any fun z => PyData.eqv z p)) ∨
      ∃ p qs, Dp B.K H x p ∧ Dp B.K H y (.tuple qs) ∧ SeqAt.shaped p = true ∧ SeqAt.shaped (.tuple qs) = true ∧ k = (qs.any fun z => PyData.eqv z p) := by
  unfold dInB at e
  split at e
  · split at e
    · rename_i z _ w
      cases h : sign1 w with
      | none => rw [h] at e; cases e
      | some c' =>
        rw [h] at e
        cases e
        have := sign1_eq h
        subst this
        exact .inl ⟨_, _, r1.str_eq, r2.str_eq, rfl⟩
    · cases e
  · split at e
    · rename_i ds _ h1
      split at e
      · rename_i p qs h2 h3
        split at e
        · rename_i hs
          cases e
          obtain ⟨a, vs, rfl, q, t⟩ := repL s c r2 h1
          exact .inr (.inl ⟨p, qs, r1.dpv s c h2, .lst q (t.dp s h3), hs.1, hs.2, rfl⟩)
        · cases e
      · cases e
    · rename_i ds _ h1
      split at e
      · rename_i p qs h2 h3
        split at e
        · rename_i hs
          cases e
          obtain ⟨a, vs, rfl, q, t⟩ := repT s r2 h1
          exact .inr (.inr ⟨p, qs, r1.dpv s c h2, .tup q (t.dp s h3), hs.1, hs.2, rfl⟩)
        · cases e
      · cases e
    · cases e
def dIn (S : Sto) (x y : D) : Option D := (dInB S x y).map .bl
def dNotIn (S : Sto) (x y : D) : Option D := (dInB S x y).map fun b => .bl (!b)
theorem op2_in {B : Bas} : Op2 B (rInU B.K) dIn := fun m S H x y d1 d2 d s c r1 r2 e Q q => by
  unfold dIn at e
  cases h : dInB S d1 d2 with
  | none => rw [h] at e; cases e
  | some k =>
    rw [h] at e
    cases e
    rcases dInB_of s c r1 r2 h with ⟨c', z, a1, a2, rfl⟩ | ⟨p, qs, a1, a2, a3, a4, rfl⟩ | ⟨p, qs, a1, a2, a3, a4, rfl⟩
    · exact .inl (.inl ⟨c', z, a1, a2, q_val s c q (rp_bl m)⟩)
    · exact .inl (.inr ⟨p, qs, a1, a2, a3, a4, q_val s c q (rp_bl m)⟩)
    · exact .inr ⟨p, qs, a1, a2, a3, a4, q_val s c q (rp_bl m)⟩
theorem op2_notIn {B : Bas} : Op2 B (rNotInU B.K) dNotIn := fun m S H x y d1 d2 d s c r1 r2 e Q q => by
  unfold dNotIn at e
  cases h : dInB S d1 d2 with
  | none => rw [h] at e; cases e
  | some k =>
    rw [h] at e
    cases e
    rcases dInB_of s c r1 r2 h with ⟨c', z, a1, a2, rfl⟩ | ⟨p, qs, a1, a2, a3, a4, rfl⟩ | ⟨p, qs, a1, a2, a3, a4, rfl⟩
    · exact .inl (.inl ⟨c', z, a1, a2, q_val s c q (rp_bl m)⟩)
    · exact .inl (.inr ⟨p, qs, a1, a2, a3, a4, q_val s c q (rp_bl m)⟩)
    · exact .inr ⟨p, qs, a1, a2, a3, a4, q_val s c q (rp_bl m)⟩
def isNon : D → Bool
  | .non => true
  | _ => false
def dIs (_ : Sto) (x y : D) : Option D := match y with
  | .non => some (.bl (isNon x))
  | _ => none
def dIsNot (_ : Sto) (x y : D) : Option D := match y with
  | .non => some (.bl (!isNon x))
  | _ => none
theorem rep_non_iff {B : Bas} {m : Mp} {d : D} {v : V} (r : Rep B m d v) : decide (v = V.non) = isNon d := by
  cases d <;> simp only [Rep] at r
  case non => subst r; rfl
  case bl => subst r; rfl
  case int => subst r; rfl
  case str => subst r; rfl
  case fn => subst r; rfl
  case ty => subst r; rfl
  case cl => subst r; rfl
  case lam => rw [r.1]; rfl
  case ref => obtain ⟨_, rfl⟩ := r; rfl
  case tup => obtain ⟨a, vs, rfl, _⟩ := r; rfl
  case lst => obtain ⟨a, vs, rfl, _⟩ := r; rfl
  case scr => obtain ⟨a, vs, rfl, _⟩ := r; rfl
  case ktp => obtain ⟨a, vs, rfl, _⟩ := r; rfl
  case dic => obtain ⟨a, vs, rfl, _⟩ := r; rfl
  case ins => obtain ⟨a, dx, vs, rfl, _⟩ := r; rfl
def rIsU : R2 := fun x y H Q => y = .non ∧ Q (.bl (decide (x = .non))) H
def rIsNotU : R2 := fun x y H Q => y = .non ∧ Q (.bl (!decide (x = .non))) H
theorem op2_is {B : Bas} : Op2 B rIsU dIs := fun m S H x y d1 d2 d s c r1 r2 e Q q => by
  cases d2 with
  | non => cases e; exact ⟨r2.non_eq, by rw [rep_non_iff r1]; exact q_val s c q (rp_bl m)⟩
  | _ => cases e
theorem op2_isNot {B : Bas} : Op2 B rIsNotU dIsNot := fun m S H x y d1 d2 d s c r1 r2 e Q q => by
  cases d2 with
  | non => cases e; exact ⟨r2.non_eq, by rw [rep_non_iff r1]; exact q_val s c q (rp_bl m)⟩
  | _ => cases e
def dNeg (_ : Sto) : D → Option D
  | .int i => some (.int (-i))
  | _ => none
def mUn (g : Sto → D → Option D) (a : ME) : ME := fun en S => (a en S).bind fun x S1 => match g S1 x with
  | some d => .ok d S1
  | none => .bad
theorem op1_neg {B : Bas} : Op1 B (rU fun i => .int (-i)) dNeg := fun m S H x d1 d s c r1 e Q q => by
  cases d1 with
  | int i => cases e; exact ⟨i, r1.int_eq, q_val s c q (rp_int m)⟩
  | _ => cases e
theorem tUn_of {B : Bas} {W : WX} {r : V → Hp → VK → Prop} {g : Sto → D → Option D} {a : ME} (h : Op1 B r g) (σ : L2.St) (H : Hp) (Q : VK) (t : tE B W (mUn g a) σ H Q) : tUn r (tE B W a) σ H Q := by
  obtain ⟨m, S, en, s, c, er, p⟩ := t
  refine ⟨m, S, en, s, c, er, (Post.bind p).imp ?_⟩
  rintro x H1 ⟨d1, S1, m1, _, l1, c1, r1, p1⟩
  cases e : g S1 d1 with
  | none => rw [e] at p1; exact p1.elim
  | some d => rw [e] at p1; exact h m1 S1 H1 x d1 d l1.sub c1 r1 e Q p1
theorem de_un {X : Cx} {B : Bas} {W : WX} {op : UnaryOp} {a : Expr} {pos : Pos} {ma : ME} {r : V → Hp → VK → Prop} {g : Sto → D → Option D} (ho : UnR X (unaryOp op) r) (h : Op1 B r g) (ha : PE X a (tE B W ma)) : PE X (.UnaryOp op a pos) (tE B W (mUn g ma)) :=
  PE.cut (pe_un ho ha) (tUn_of h)
def dIdx (S : Sto) (x y : D) : Option D := match y with
  | .int i => match x with
    | .str z => if z.length ≤ sizeLine then (atI z.cps.toList i).map fun c => .str ⟨#[c]⟩ else none
    | x => match seqL S x, seqT x with
      | some ds, _ => atI ds i
      | none, some ds => atI ds i
      | none, none => none
  | _ => none
theorem Reps.at {B : Bas} {m : Mp} {ds : List D} {vs : List V} {i : Int} {d : D} (r : Reps B m ds vs) (e : atI ds i = some d) : ∃ v, atI vs i = some v ∧ Rep B m d v := by
  unfold atI at e ⊢
  rw [← r.length]
  cases h : ixN ds.length i with
  | none => rw [h] at e; cases e
  | some j => rw [h] at e; exact r.get e
theorem op2_idx {B : Bas} : Op2 B (rIx B.K) dIdx := fun m S H x y d1 d2 d s c r1 r2 e Q q => by
  unfold dIdx at e
  split at e
  · split at e
    · split at e
      · rename_i z hz
        rename_i i' _
        cases h : atI z.cps.toList i' with
        | none => rw [h] at e; cases e
        | some c' => rw [h] at e; cases e; exact .inr (.inr ⟨z, _, c', r1.str_eq, r2.int_eq, hz, h, q_val s c q (rp_str m)⟩)
      · cases e
    · split at e
      · rename_i ds _ h1
        obtain ⟨a, vs, rfl, k, t⟩ := repL s c r1 h1
        obtain ⟨v, hv, rv⟩ := t.at e
        exact .inl ⟨a, vs, _, v, rfl, r2.int_eq, k, hv, q_val s c q rv⟩
      · rename_i ds _ h1
        obtain ⟨a, vs, rfl, k, t⟩ := repT s r1 h1
        obtain ⟨v, hv, rv⟩ := t.at e
        exact .inr (.inl ⟨a, vs, _, v, rfl, r2.int_eq, k, hv, q_val s c q rv⟩)
      · cases e
  · cases e
theorem de_idx {X : Cx} {B : Bas} {W : WX} {a b : Expr} {pos : Pos} {ma mb : ME} {r : R2} {g : Sto → D → D → Option D} (hr : IxR X r) (h : Op2 B r g) (ha : PE X a (tE B W ma)) (hb : PE X b (tE B W mb)) (hs : PlainIx b := by intro _ _; rfl) : PE X (.Subscript a b pos) (tE B W (mOp g ma mb)) :=
  PE.cut (pe_ix hr ha hb hs) (tOp_of h)
end G
end
section
namespace G
open PySem L2
theorem PI.cut {X : Cx} {tg e : Expr} {t t' : TI} (h : PI X tg e t) (f : ∀ σ H R, t' σ H R → t σ H R) : PI X tg e t' := ⟨fun pins s σ H R I q => h.run pins s σ H R I (f σ H R q)⟩
def iSeqU (K : PySem.W.Frag) (tl : TE) : TI := fun σ H R => tl σ H fun x H1 => ∃ a, x = .ref a ∧ (((∃ xs, SqL K H1 a xs) ∧ R (Itl K a) H1) ∨ ((∃ xs, SqT K H1 a xs) ∧ R (Itt K a) H1))
theorem pi_seq {X : Cx} {tg l : Expr} {tl : TE} (hl : PE X l tl) : PI X tg l (iSeqU X.K tl) := ⟨fun pins s σ H R I h => by
  refine thn (hl.run pins s σ H _ I h) fun v s1 hq => ?_
  obtain ⟨x, H1, I1, r1, a, rfl, q⟩ := hq
  cases r1
  have fresh : ∀ b, b ∈ [s1.heap.objs.size] → FpOk X pins H1 b := fun b hb => by
    have e : b = s1.heap.objs.size := by simpa using hb
    rw [e]
    exact I1.fpOk (Nat.le_refl _) (I1.hok.fresh (Nat.le_refl _))
  rcases q with ⟨⟨xs, hs⟩, q⟩ | ⟨⟨xs, hs⟩, q⟩
  · obtain ⟨its, _, p, _⟩ := I1.list hs
    exact wpAny_pyIter_list p.isList ⟨_, _, _, _, H1, rfl, I1.kept (t' := s1.toks) (fun b o e => Heap.get?_push_of_some _ e), turn_list a _, ⟨_, Heap.get?_push_size _ rfl, rfl, rfl⟩, fresh, q⟩
  · obtain ⟨its, _, p, _⟩ := I1.tuple hs
    exact wpAny_pyIter_tuple (show s1.heap.IsTuple a its.toArray from p) ⟨_, _, _, _, H1, rfl, I1.kept (t' := s1.toks) (fun b o e => Heap.get?_push_of_some _ e), turn_tuple a _, ⟨_, Heap.get?_push_size _ rfl, rfl, rfl⟩, fresh, q⟩⟩
def iSeq (e : ME) : MI := fun en S => (e en S).bind fun d S1 => match seqL S1 d, seqT d with
  | some ds, _ => .ok ⟨ds, fun S => seqL S d = some ds⟩ S1
  | none, some ds => .ok ⟨ds, fun _ => True⟩ S1
  | none, none => .bad
theorem itr_list {B : Bas} {m : Mp} {a : Addr} {d : D} {ds : List D} (r : Rep B m d (.ref a)) : ItR B m ⟨ds, fun S => seqL S d = some ds⟩ (Itl B.K a) := fun m' H' S k s c p => by
  obtain ⟨a', vs, e, hs, rs⟩ := repL s c (r.monoK k) p
  cases e
  refine ⟨fun i x e => ?_, fun i hi => ⟨vs, hs, by rw [← rs.length]; exact hi⟩⟩
  obtain ⟨v, hv, rv⟩ := rs.get e
  refine ⟨⟨vs, v, hs, hv⟩, fun y H'' hy => ?_⟩
  obtain ⟨rfl, hy⟩ := hy
  have := hy vs hs
  rw [hv] at this
  cases this
  exact ⟨m', Le.refl s, c, rv⟩
theorem itr_tup {B : Bas} {m : Mp} {a : Addr} {d : D} {ds : List D} (r : Rep B m d (.ref a)) (e : seqT d = some ds) : ItR B m ⟨ds, fun _ => True⟩ (Itt B.K a) := fun m' H' S k s c _ => by
  obtain ⟨a', vs, e, hs, rs⟩ := repT s (r.monoK k) e
  cases e
  refine ⟨fun i x e => ?_, fun i hi => ⟨vs, hs, by rw [← rs.length]; exact hi⟩⟩
  obtain ⟨v, hv, rv⟩ := rs.get e
  refine ⟨⟨vs, v, hs, hv⟩, fun y H'' hy => ?_⟩
  obtain ⟨rfl, hy⟩ := hy
  have := hy vs hs
  rw [hv] at this
  cases this
  exact ⟨m', Le.refl s, c, rv⟩
theorem di_seq {X : Cx} {B : Bas} {W : WX} {tg l : Expr} {me : ME} (hK : B.K = X.K := by rfl) (hl : PE X l (tE B W me)) : PI X tg l (tI B W (iSeq me)) :=
  PI.cut (pi_seq hl) fun σ H R ⟨m, S, en, s, c, er, p⟩ => ⟨m, S, en, s, c, er, (Post.bind p).imp (by
    rintro v H1 ⟨d, S1, m1, _, l1, c1, r1, p1⟩
    rw [← hK]
    cases h1 : seqL S1 d with
    | some ds =>
      rw [h1] at p1
      obtain ⟨a, vs, rfl, hs, _⟩ := repL l1.sub c1 r1 h1
      exact ⟨a, rfl, .inl ⟨⟨vs, hs⟩, p1 m1 H1 _ (Le.refl l1.sub) c1 (itr_list r1)⟩⟩
    | none =>
      cases h2 : seqT d with
      | some ds =>
        rw [h1, h2] at p1
        obtain ⟨a, vs, rfl, hs, _⟩ := repT l1.sub r1 h2
        exact ⟨a, rfl, .inr ⟨⟨vs, hs⟩, p1 m1 H1 _ (Le.refl l1.sub) c1 (itr_tup r1 h2)⟩⟩
      | none => rw [h1, h2] at p1; exact p1.elim)⟩
def rangeD (lo : Int) (n : Nat) : List D := (List.range n).map fun k => .int (lo + (k : Nat))
theorem itr_range {B : Bas} {m : Mp} {lo : Int} {n : Nat} : ItR B m ⟨rangeD lo n, fun _ => True⟩ (Itr lo n) := fun m' H' S k s c _ => by
  refine ⟨fun i x e => ?_, fun i hi => by
    have hi : n ≤ i := by simpa [rangeD] using hi
    exact hi⟩
  have hi : i < n := by
    have := (List.getElem?_eq_some_iff.mp e).1
    simpa [rangeD] using this
  refine ⟨hi, fun y H'' hy => ?_⟩
  obtain ⟨rfl, rfl⟩ := hy
  refine ⟨m', Le.refl s, c, ?_⟩
  have : x = .int (lo + (i : Nat)) := by
    unfold rangeD at e
    rw [List.getElem?_map, List.getElem?_range hi] at e
    cases e
    rfl
  rw [this]
  exact rp_int m'
def rgOk (j : Int) : Prop := -(2 ^ 62) ≤ j ∧ j < 2 ^ 62
open Classical in
noncomputable def iRg1 (r : MA) : MI := fun en S => (r en S).bind fun ds S1 => match ds with
  | [.int j] => if rgOk j then .ok ⟨rangeD 0 j.toNat, fun _ => True⟩ S1 else .bad
  | _ => .bad
open Classical in
noncomputable def iRg2 (r : MA) : MI := fun en S => (r en S).bind fun ds S1 => match ds with
  | [.int i, .int j] => if rgOk i ∧ rgOk j then .ok ⟨rangeD i (j - i).toNat, fun _ => True⟩ S1 else .bad
  | _ => .bad
theorem di_rg1 {X : Cx} {B : Bas} {W : WX} {tg a : Expr} {mr : MA} {p pos : Pos} (hm : X.mg "range" = none) (ha : PA X [a] (tA B W mr)) (hg : Gl X "range" := by rfl) (hs : starEach [a] X.env = [(false, eval a X.env)] := by rfl) :
    PI X tg (.Call (.Name "range" p) [a] [] pos) (tI B W (iRg1 mr)) := PI.cut (pi_range1 hg hm ha hs) fun σ H R ⟨m, S, en, s, c, er, p⟩ => ⟨m, S, en, s, c, er, (Post.bind p).imp (by
    rintro vs H1 ⟨ds, S1, m1, _, l1, c1, r1, p1⟩
    split at p1
    · rename_i j _
      split at p1
      · rename_i hj
        simp only [Reps] at r1
        obtain ⟨v, r, rfl, rv, rfl⟩ := r1
        exact ⟨j, by rw [rv.int_eq], hj.1, hj.2, p1 m1 H1 _ (Le.refl l1.sub) c1 itr_range⟩
      · exact p1.elim
    · exact p1.elim)⟩
def Res.noex {α : Type} : Res α → Res α
  | .ok a S => .ok a S
  | _ => .bad
theorem Post.noex {α β : Type} {B : Bas} {R : Mp → α → β → Prop} {W W' : XK} {m : Mp} {H : Hp} {Q : β → Hp → Prop} {r : Res α} (h : Post B R W m H Q r.noex) : Post B R W' m H Q r := by
  cases r with
  | ok a S => exact h
  | ex c ns vs S => exact h.elim
  | bad => exact h
def wipeE (en : En) : List Nat → En
  | [] => en
  | v :: vs => (wipeE en vs).set v none
theorem wipeE_length (en : En) : ∀ vs : List Nat, (wipeE en vs).length = en.length
  | [] => rfl
  | v :: vs => by unfold wipeE; rw [List.length_set, wipeE_length en vs]
theorem wipe_other {σ : L2.St} {j : Nat} : ∀ {vs : List Nat}, j ∉ vs → (wipe σ vs)[j]? = σ[j]?
  | [], _ => rfl
  | v :: vs, h => by
    unfold wipe
    rw [List.getElem?_set_ne (fun z => h (by simp [z]))]
    exact wipe_other fun z => h (List.mem_cons_of_mem _ z)
theorem wipe_own {σ : L2.St} {j : Nat} (hj : j < σ.length) : ∀ {vs : List Nat}, j ∈ vs → (wipe σ vs)[j]? = some none
  | v :: vs, h => by
    unfold wipe
    by_cases e : v = j
    · subst e
      rw [List.getElem?_set_self (by rw [wipe_length]; exact hj)]
    · rw [List.getElem?_set_ne e]
      rcases List.mem_cons.mp h with z | z
      · exact absurd z.symm e
      · exact wipe_own hj z
theorem wipeE_some {en : En} {j : Nat} {d : D} : ∀ {vs : List Nat}, (wipeE en vs)[j]? = some (some d) → j ∉ vs ∧ en[j]? = some (some d)
  | [], h => ⟨by simp, h⟩
  | v :: vs, h => by
    unfold wipeE at h
    by_cases e : v = j
    · subst e
      by_cases hv : v < (wipeE en vs).length
      · rw [List.getElem?_set_self hv] at h; cases h
      · rw [List.getElem?_eq_none (by rw [List.length_set]; omega)] at h; cases h
    · rw [List.getElem?_set_ne e] at h
      obtain ⟨h1, h2⟩ := wipeE_some h
      exact ⟨by
        intro z
        rcases List.mem_cons.mp z with z | z
        · exact e z.symm
        · exact h1 z, h2⟩
theorem EnR.wipe {B : Bas} {m : Mp} {en : En} {σ : L2.St} (h : EnR B m en σ) (vs : List Nat) : EnR B m (wipeE en vs) (L2.wipe σ vs) := by
  refine ⟨by rw [wipeE_length, L2.wipe_length, h.1], fun i d e => ?_⟩
  obtain ⟨h1, h2⟩ := wipeE_some e
  obtain ⟨v, hv, rv⟩ := h.2 i d h2
  exact ⟨v, by rw [wipe_other h1]; exact hv, rv⟩
theorem wipe_only {own vs : List Nat} {σ σ' : L2.St} (h : Only own (wipe σ vs) σ') (hs : ∀ j ∈ own, j ∈ vs) : wipe σ' vs = wipe σ vs := by
  have hl : σ'.length = σ.length := by rw [h.1, wipe_length]
  apply List.ext_getElem?
  intro j
  by_cases hj : j ∈ vs
  · by_cases hk : j < σ.length
    · rw [wipe_own (by rw [hl]; exact hk) hj, wipe_own hk hj]
    · rw [List.getElem?_eq_none (by rw [wipe_length, hl]; omega), List.getElem?_eq_none (by rw [wipe_length]; omega)]
  · rw [wipe_other hj, h.2 j fun z => hj (hs j z)]
open Classical in
noncomputable def comp (g : MG) (t : MT) (e : ME) (P : Sto → Prop) (en : En) : List D → List D → Sto → Res (List D)
  | [], acc, S => if P S then .ok acc S else .bad
  | d :: ds, acc, S => if P S then (match g d en with
    | none => .bad
    | some en1 => (t en1 S).noex.bind fun k S1 => match k with
      | false => comp g t e P en ds acc S1
      | true => (e en1 S1).noex.bind fun x S2 => if acc.length < sizeLine then comp g t e P en ds (acc ++ [x]) S2 else .bad) else .bad
noncomputable def cItems (i : MI) (g : MG) (t : MT) (e : ME) (vs : List Nat) (en : En) (S : Sto) : Res (List D) := (i en S).bind fun its S1 => comp g t e its.P (wipeE en vs) its.ds [] S1
noncomputable def mLc (i : MI) (g : MG) (t : MT) (e : ME) (vs : List Nat) : ME := fun en S => (cItems i g t e vs en S).bind fun ds S1 => .ok (.lst ds) S1
noncomputable def mLcN (i : MI) (g : MG) (t : MT) (e : ME) (vs : List Nat) : ME := fun en S => (cItems i g t e vs en S).bind fun ds S1 => .ok (.ref S1.length) (S1 ++ [.lst ds])
def del (H : Hp) (p : Addr) : Hp := fun a => if a = p then none else H a
theorem del_at {H : Hp} {p : Addr} : del H p p = none := by unfold del; rw [if_pos rfl]
theorem del_ne {H : Hp} {p a : Addr} (h : a ≠ p) : del H p a = H a := by unfold del; rw [if_neg h]
theorem del_upd {H : Hp} {p : Addr} {o : HO} : del (upd H p o) p = del H p := by
  funext a
  by_cases h : a = p
  · rw [h, del_at, del_at]
  · rw [del_ne h, del_ne h, upd_ne h]
theorem upd_del {H : Hp} {p : Addr} {o : HO} (h : H p = some o) : upd (del H p) p o = H := by
  funext a
  by_cases e : a = p
  · rw [e, upd_same, h]
  · rw [upd_ne e, del_ne e]
theorem del_new {H : Hp} {p : Addr} (h : H p = none) : del H p = H := by
  funext a
  by_cases e : a = p
  · rw [e, del_at, h]
  · rw [del_ne e]
theorem Le.del {m m' : Mp} {H H' : Hp} {p : Addr} (l : Le m H m' H') (hz : m.Z p = none) (hp : ∃ o, H p = some o ∧ ¬ Tp o) : Le m (G.del H p) m' (G.del H' p) where
  toKp := l.toKp
  fr0 := fun a o h1 h2 => by
    by_cases e : a = p
    · rw [e, del_at] at h2; cases h2
    · rw [del_ne e] at h2 ⊢
      exact l.fr0 a o h1 h2
  sub := fun a o h => by
    obtain ⟨u, hu, nt⟩ := hp
    have e : a ≠ p := fun z => by
      rw [z, (l.fr p u hz hu nt).2] at h
      cases h
    rw [del_ne e]
    exact l.sub a o h
theorem comp_run {B : Bas} {W : WX} {m1 : Mp} {H1 : Hp} {S1 : Sto} {its : Its} {J : It} {en : En} {σ : L2.St} {vs own : List Nat} {g : TG} {t : MG} {tt : MT} {te : ME} {Q : VK} {K2 : List D → Sto → Res D}
    (sub1 : Sub m1 H1) (c1 : Cor B m1 S1) (er : EnR B m1 en σ) (ir : ItR B m1 its J) (ht : TgR B own g t) (hown : ∀ j ∈ own, j ∈ vs) (D : Addr) (hD : H1 D = none)
    (hend : ∀ (m' : Mp) (H' : Hp) (S' : Sto) (acc : List G.D) (av : List V), Le m1 H1 m' (del H' D) → Cor B m' S' → H' D = some (.lst av) → Reps B m' acc av → Post B (Rep B) (at' W σ) m' (del H' D) Q (K2 acc S') → Q (.ref D) H')
    (p1 : Post B (Rep B) (at' W σ) m1 H1 Q ((comp t tt te its.P (wipeE en vs) its.ds [] S1).bind K2)) :
    ∃ Wt : Nat → Nat → Hp → Prop, (∃ k, Wt 0 k (upd H1 D (.lst []))) ∧ ∀ i k H, Wt i k H →
      (J.stop i H ∧ Q (.ref D) H) ∨ (J.go i H ∧ ∃ Nx : Hp → Prop, (∀ H', Nx H' → ∃ m', m' < k ∧ Wt (i + 1) m' H') ∧ ∀ x H', J.yld i H x H' → g x (wipe σ vs) H' fun σ2 H2 => wipe σ2 vs = wipe σ vs ∧ tT B W0 tt σ2 H2 fun b H3 =>
        if b = true then tE B W0 te σ2 H3 fun y H4 => ∃ acc, H4 D = some (.lst acc) ∧ acc.length < sizeLine ∧ Nx (upd H4 D (.lst (acc ++ [y]))) else Nx H3) := by
  refine ⟨fun i k H' => k = its.ds.length - i ∧ ∃ m' S' acc av, Le m1 H1 m' (del H' D) ∧ Cor B m' S' ∧ H' D = some (.lst av) ∧ Reps B m' acc av ∧ Post B (Rep B) (at' W σ) m' (del H' D) Q ((comp t tt te its.P (wipeE en vs) (its.ds.drop i) acc S').bind K2),
    ⟨_, rfl, m1, S1, [], [], by rw [del_upd, del_new hD]; exact Le.refl sub1, c1, upd_same, Reps.nil, by rw [del_upd, del_new hD]; exact p1⟩, ?_⟩
  rintro i k H' ⟨rfl, m', S', acc, av, l', c', hDa, ra, p'⟩
  have zD : m'.Z D = none := l'.sub.none del_at
  have sub' : Sub m' H' := fun a o h => by
    have e : a ≠ D := fun z => by rw [z, zD] at h; cases h
    have := l'.sub a o h
    rwa [del_ne e] at this
  by_cases hP : its.P S'
  · obtain ⟨hg, hs⟩ := ir m' H' S' l'.toKp sub' c' hP
    cases hd : its.ds[i]? with
    | none =>
      have hi : its.ds.length ≤ i := List.getElem?_eq_none_iff.mp hd
      rw [List.drop_eq_nil_of_le hi, comp, if_pos hP] at p'
      exact .inl ⟨hs i hi, hend m' H' S' acc av l' c' hDa ra p'⟩
    | some d =>
      have hi : i < its.ds.length := (List.getElem?_eq_some_iff.mp hd).1
      obtain ⟨go, yl⟩ := hg i d hd
      have e1 : its.ds.drop i = d :: its.ds.drop (i + 1) := by
        rw [List.drop_eq_getElem_cons hi]
        congr 1
        exact (List.getElem?_eq_some_iff.mp hd).2
      rw [e1, comp, if_pos hP] at p'
      refine .inr ⟨go, fun H2 => its.ds.length - (i + 1) = its.ds.length - (i + 1) ∧ ∃ m2 S2 acc2 av2, Le m1 H1 m2 (del H2 D) ∧ Cor B m2 S2 ∧ H2 D = some (.lst av2) ∧ Reps B m2 acc2 av2 ∧ Post B (Rep B) (at' W σ) m2 (del H2 D) Q ((comp t tt te its.P (wipeE en vs) (its.ds.drop (i + 1)) acc2 S2).bind K2),
        fun H2 n2 => ⟨its.ds.length - (i + 1), by omega, n2⟩, fun x H'' y => ?_⟩
      obtain ⟨m2, l2, c2, r2⟩ := yl x H'' y
      have l2d := l2.del zD ⟨_, hDa, by rintro ⟨_, e⟩; cases e⟩
      obtain ⟨hD2, zD2⟩ := l2.fr D _ zD hDa
      cases e2 : t d (wipeE en vs) with
      | none => rw [e2] at p'; exact p'.elim
      | some en1 =>
        rw [e2] at p'
        refine ht m2 H'' (wipeE en vs) en1 (wipe σ vs) d x l2.sub r2 (((er.wipe vs).mono l').mono l2d) e2 _ fun σ2 er2 on => ⟨wipe_only on hown, ?_⟩
        simp only [] at p'
        have key : ∀ (m3 : Mp) (H3 : Hp), Le m2 H'' m3 H3 → H3 D = some (.lst av) ∧ m3.Z D = none ∧ Le m1 H1 m3 (del H3 D) := fun m3 H3 l3 => by
          obtain ⟨a1, a2⟩ := l3.fr D _ zD2 hD2
          exact ⟨a1, a2, (l'.trans l2d).trans (l3.del zD2 ⟨_, hD2, by rintro ⟨_, e⟩; cases e⟩)⟩
        have p2 := p'.shift l2d
        cases hk : tt en1 S' with
        | bad => rw [hk] at p2; exact p2.elim
        | ex c ns vs S3 => rw [hk] at p2; exact p2.elim
        | ok kk S3 =>
          rw [hk] at p2
          refine ⟨m2, S', en1, l2.sub, c2, er2, ?_⟩
          rw [hk]
          intro m3 H3 b l3 c3 rb
          cases rb
          obtain ⟨hD3, zD3, l13⟩ := key m3 H3 l3
          cases kk with
          | false =>
            refine iteF ⟨rfl, m3, S3, acc, av, l13, c3, hD3, (ra.mono l2d).mono l3, ?_⟩
            exact p2.shift (l3.del zD2 ⟨_, hD2, by rintro ⟨_, e⟩; cases e⟩)
          | true =>
            refine iteT ?_
            cases hx : te en1 S3 with
            | bad => simp only [Res.noex, Res.bind_ok, hx] at p2; exact p2.elim
            | ex c ns vs S4 => simp only [Res.noex, Res.bind_ok, hx] at p2; exact p2.elim
            | ok xx S4 =>
              simp only [Res.noex, Res.bind_ok, hx] at p2
              refine ⟨m3, S3, en1, l3.sub, c3, er2.mono l3, ?_⟩
              rw [hx]
              intro m4 H4 yv l4 c4 ry
              obtain ⟨hD4, zD4⟩ := l4.fr D _ zD3 hD3
              have l34 := l4.del zD3 ⟨_, hD3, by rintro ⟨_, e⟩; cases e⟩
              split at p2
              · rename_i hlen
                have ra4 : Reps B m4 (acc ++ [xx]) (av ++ [yv]) := (((ra.mono l2d).mono l3).mono l4).append (Reps.cons ry Reps.nil)
                refine ⟨av, hD4, by rw [← ra.length]; exact hlen, rfl, m4, S4, acc ++ [xx], av ++ [yv], by rw [del_upd]; exact l13.trans l34, c4, upd_same, ra4, ?_⟩
                rw [del_upd]
                exact (p2.shift (l3.del zD2 ⟨_, hD2, by rintro ⟨_, e⟩; cases e⟩)).shift l34
              · exact p2.elim
  · exfalso
    cases hl : its.ds.drop i with
    | nil => rw [hl, comp, if_neg hP] at p'; exact p'
    | cons d ds => rw [hl, comp, if_neg hP] at p'; exact p'
theorem tLc_of {B : Bas} {W : WX} {mi : MI} {g : TG} {t : MG} {tt : MT} {te : ME} {vs own : List Nat} (ht : TgR B own g t) (hown : ∀ j ∈ own, j ∈ vs) (σ : L2.St) (H : Hp) (Q : VK) (q : tE B W (mLc mi t tt te vs) σ H Q) : tLc (tI B W mi) g (tT B W0 tt) (tE B W0 te) vs σ H Q := by
  obtain ⟨m, S, en, s, c, er, p⟩ := q
  have p0 : Post B (Rep B) (at' W σ) m H Q ((mi en S).bind fun its S1 => (comp t tt te its.P (wipeE en vs) its.ds [] S1).bind fun ds S1 => .ok (.lst ds) S1) := by
    have : (mi en S).bind (fun its S1 => (comp t tt te its.P (wipeE en vs) its.ds [] S1).bind fun ds S1 => .ok (.lst ds) S1) = mLc mi t tt te vs en S := by
      unfold mLc cItems
      cases mi en S <;> rfl
    rw [this]
    exact p
  refine ⟨m, S, en, s, c, er, (Post.bind p0).imp ?_⟩
  rintro J H1 ⟨its, S1, m1, _, l1, c1, ir, p1⟩
  intro D hD
  refine comp_run l1.sub c1 (er.mono l1) ir ht hown D hD (fun m' H' S' acc av l' c' hDa ra pe => ?_) p1
  have := pe (m'.put D (.lst av)) (upd (del H' D) D (.lst av)) (.ref D) (Le.new c' l'.sub del_at) (Cor.new c' l'.sub del_at) (rp_lst c' l'.sub del_at ra)
  rwa [upd_del hDa] at this
section
variable {X : Cx} {B : Bas} {W : WX} {elt tg iter : Expr} {ifs : List Expr} {scope : Scope} {ow : List (Str × Nat)} {pos : Pos} {mi : MI} {g : TG} {t : MG} {tt : MT} {te : ME} {own : List Nat}
theorem de_lc (hc : X.calm = true) (hN : X.N.Nodup) (ht : TgR B own g t) (hown : ∀ j ∈ own, j ∈ ow.map (·.2)) (hi : PI X tg iter (tI B W mi)) (ok : BlkOk X.N X.env.scope scope ow)
    (hg : ∀ (s : Shared) (H : Hp) (C : Addr) (cl : List (Str × Addr)) (fp : List Addr), PG (X.blk s H scope (compEnvC scope cl C X.env) fp) tg g) (htt : ∀ (s : Shared) (H : Hp) (C : Addr) (cl : List (Str × Addr)) (fp : List Addr), PTs (X.blk s H scope (compEnvC scope cl C X.env) fp) ifs (tT B W0 tt))
    (he : ∀ (s : Shared) (H : Hp) (C : Addr) (cl : List (Str × Addr)) (fp : List Addr), PE (X.blk s H scope (compEnvC scope cl C X.env) fp) elt (tE B W0 te)) (hs : ∀ x, foldedSetIterable iter X.env x = pure x := by intro _; rfl) :
    PE X (.ListComp elt [⟨tg, iter, ifs, 0⟩] scope pos) (tE B W (mLc mi t tt te (ow.map (·.2)))) := PE.cut (pe_lc hc hN hi ok hg htt he hs) (tLc_of ht hown)
def tYesM : MT := fun _ S => .ok true S
theorem PTs.cut {es : List Expr} {t t' : TT} (h : PTs X es t) (f : ∀ σ H Q, t' σ H Q → t σ H Q) : PTs X es t' := ⟨fun pins s σ H Q I q => h.run pins s σ H Q I (f σ H Q q)⟩
theorem dts_nil : PTs X [] (tT B W tYesM) := PTs.cut pts_nil fun σ H Q ⟨m, S, en, s, c, er, p⟩ => p m H true (Le.refl s) c rfl
theorem dts_one {c : Expr} {mt : MT} (h : PT X c (tT B W mt)) : PTs X [c] (tT B W mt) := pts_one h
end
end G
end
section
namespace PySem.SeqAt
open Sem (wp)
open AutoSeq1 (wpAny_loadPart')
open MeetsSeq MeetsSeq2 MeetsSeq3 SeqRoads2
theorem tuple_ltF (l b : Addr) (items items2 : Array Value) (n n2 : Nat) (dd dd2 : Option Addr) (sl sl2 : Array (Option Value)) (e r : Nat → Bool) :
    Meets (Builtin.«tuple.__lt__» ⟨[.ref l, .ref b], []⟩)
      (fun A R s => (s.heap.get? l = some { cls := .type "tuple", dict := dd, data := .seq items n, slots := sl } ∧ s.heap.get? b = some { cls := .type "tuple", dict := dd2, data := .seq items2 n2, slots := sl2 }) ∧
        ((∀ j (h1 : j < items.size) (h2 : j < items2.size), EqAt A.in1 s items[j] items2[j] (e j)) ∧ (∀ j (h1 : j < items.size) (h2 : j < items2.size), (∀ i, i < j → e i = true) → e j = false → RcLt A.in1 s items[j] items2[j] (r j))) ∧
        R (.ok (.ret (.bool (firstLt e r (decide (items.size < items2.size)) (List.range (min items.size items2.size)))))) s) :=
  .of_wp fun prog w A R s h => by
    obtain ⟨hp, g, d, tk, os⟩ := s; obtain ⟨⟨hl, hb⟩, ⟨he, hr⟩, h⟩ := h
    have f2 := AutoSeq1.sub_tuple_tuple
    have lenZ : (items.toList.zip items2.toList).length = min items.size items2.size := by simp
    wp_walk using wpAny_loadPart' hl, wpAny_loadPart' hb, wpAny_forIn_list _ (fun rest b s' => b.1 = none ∧ s' = ⟨hp, g, d, tk, os⟩ ∧ ∃ i, (∀ k, k < i → e k = true) ∧ rest = (items.toList.zip items2.toList).drop i ∧
      R (.ok (.ret (.bool (firstLt e r (decide (items.size < items2.size)) ((List.range (min items.size items2.size)).drop i))))) ⟨hp, g, d, tk, os⟩) _
    case turn =>
      rintro ⟨y, x⟩ rest b s' ⟨hb', rfl, i, hpre, hz, hR⟩
      have hlt : i < (items.toList.zip items2.toList).length := by
        apply Nat.lt_of_not_le
        intro h'
        rw [List.drop_of_length_le h'] at hz
        cases hz
      have hm : i < min items.size items2.size := lenZ ▸ hlt
      have h1 : i < items.size := Nat.lt_of_lt_of_le hm (Nat.min_le_left _ _)
      have h2 : i < items2.size := Nat.lt_of_lt_of_le hm (Nat.min_le_right _ _)
      rw [List.drop_eq_getElem_cons hlt] at hz
      injection hz with hyx hrest
      obtain rfl : y = items[i] := by simpa using congrArg Prod.fst hyx
      obtain rfl : x = items2[i] := by simpa using congrArg Prod.snd hyx
      have hd : (List.range (min items.size items2.size)).drop i = i :: (List.range (min items.size items2.size)).drop (i + 1) := by simp [List.drop_eq_getElem_cons, hm]
      rw [hd] at hR
      refine wpAny_bind (he i h1 h2 prog w _ _ ?_)
      cases hy : e i with
      | true =>
        rw [firstLt_yes hy] at hR
        wp_walk
        refine ⟨rfl, rfl, i + 1, fun k hk => ?_, hrest, hR⟩
        rcases Nat.lt_succ_iff_lt_or_eq.mp hk with z | z
        · exact hpre k z
        · rw [z]; exact hy
      | false =>
        rw [firstLt_no hy] at hR
        have hrc := hr i h1 h2 hpre hy
        unfold RcLt at hrc
        generalize richCompare CmpOp.Lt items[i] items2[i] = rc at hrc ⊢
        wp_walk
        refine hrc prog w _ _ ?_
        wp_walk
        exact ⟨_, rfl, hR⟩
    case fin =>
      rintro ⟨b1, b2⟩ s' ⟨hb', rfl, i, _, hz, hR⟩
      simp only at hb'
      subst hb'
      have hge : min items.size items2.size ≤ i := by
        apply Nat.le_of_not_lt
        intro h'
        rw [List.drop_eq_getElem_cons (by rw [lenZ]; exact h')] at hz
        cases hz
      rw [List.drop_of_length_le (by simpa using hge)] at hR
      wp_walk
      exact ⟨_, rfl, by simpa [Builtin.Tuple.tupleCompareSizes, firstLt] using hR⟩
    case h => exact ⟨rfl, rfl, 0, fun k hk => absurd hk (Nat.not_lt_zero _), rfl, by simpa using h⟩
theorem RcLt.tupF {A : Around} {s : Shared} {l b : Addr} {items items2 : Array Value} {e r : Nat → Bool} (hl : s.heap.IsTuple l items) (hb : s.heap.IsTuple b items2) (hu : A.units < cLine)
    (he : ∀ j (h1 : j < items.size) (h2 : j < items2.size), EqAt A.in1 s items[j] items2[j] (e j)) (hr : ∀ j (h1 : j < items.size) (h2 : j < items2.size), (∀ i, i < j → e i = true) → e j = false → RcLt A.in1 s items[j] items2[j] (r j)) :
    RcLt A s (.ref l) (.ref b) (firstLt e r (decide (items.size < items2.size)) (List.range (min items.size items2.size))) := fun prog w E Q h => by
  obtain ⟨⟨cls, dd, data, sl⟩, ho, hc, n, hd⟩ := id hl
  obtain ⟨⟨cls2, dd2, data2, sl2⟩, ho2, hc2, n2, hd2⟩ := id hb
  simp only at hc hd hc2 hd2
  subst hc hd hc2 hd2
  exact richCompare_meets_room (op := .Lt) ⟨_, ho, rfl⟩ ⟨_, ho2, rfl⟩ F.slot_tuple_lt F.entry_tuple_lt (F.args_tuple_lt_2 _ _) (tuple_ltF l b items items2 n n2 dd dd2 sl sl2 e r)
    ⟨⟨ho, ho2⟩, ⟨he, hr⟩, ⟨(fun x => nomatch x), h⟩⟩ hu
end PySem.SeqAt
namespace G
open PySem L2
mutual
def pLt : PyData → PyData → Option Bool
  | .int i, .int j => some (decide (i < j))
  | .str x, .str y => some (decide (x.cps.toList < y.cps.toList))
  | .tuple xs, .tuple ys => pLts xs ys
  | _, _ => none
def pLts : List PyData → List PyData → Option Bool
  | [], [] => some false
  | [], _ :: _ => some true
  | _ :: _, [] => some false
  | x :: xs, y :: ys => if PyData.eqv x y = true then pLts xs ys else pLt x y
end
open SeqAt in
theorem firstLt_shift (e r : Nat → Bool) (fin : Bool) (n : Nat) : firstLt e r fin (List.range (n + 1)) = if e 0 = true then firstLt (fun j => e (j + 1)) (fun j => r (j + 1)) fin (List.range n) else r 0 := by
  rw [List.range_succ_eq_map, firstLt]
  congr 1
  generalize List.range n = l
  induction l with
  | nil => rfl
  | cons j t ih => simp only [List.map_cons, firstLt, ih]
open SeqAt in
theorem firstLt_pLts : ∀ (xs ys : List PyData) (k : Bool) (r : Nat → Bool), pLts xs ys = some k →
    (∀ j, j < xs.length → j < ys.length → (∀ i, i < j → pairEq xs ys i = true) → pairEq xs ys j = false → pLt (xs.getD j .none) (ys.getD j .none) = some (r j)) →
    firstLt (pairEq xs ys) r (decide (xs.length < ys.length)) (List.range (min xs.length ys.length)) = k
  | [], [], k, r, h, _ => by
    simp only [pLts] at h
    cases h
    simp [firstLt]
  | [], y :: ys, k, r, h, _ => by
    simp only [pLts] at h
    cases h
    simp [firstLt]
  | x :: xs, [], k, r, h, _ => by
    simp only [pLts] at h
    cases h
    simp [firstLt]
  | x :: xs, y :: ys, k, r, h, hr => by
    have e0 : pairEq (x :: xs) (y :: ys) 0 = PyData.eqv x y := rfl
    have e1 : ∀ j, pairEq (x :: xs) (y :: ys) (j + 1) = pairEq xs ys j := fun _ => rfl
    simp only [List.length_cons, Nat.succ_min_succ, firstLt_shift, e0, e1]
    simp only [pLts] at h
    split at h
    · rename_i hq
      rw [if_pos hq]
      have ih := firstLt_pLts xs ys k (fun j => r (j + 1)) h fun j h1 h2 hpre hj => by
        have := hr (j + 1) (by simpa using h1) (by simpa using h2) (fun i hi => by
          cases i with
          | zero => exact hq
          | succ i => exact hpre i (by omega)) hj
        simpa using this
      simpa using ih
    · rename_i hq
      rw [if_neg hq]
      have := hr 0 (by simp) (by simp) (fun i hi => absurd hi (Nat.not_lt_zero _)) (by rw [e0]; simpa using hq)
      simp only [List.getD_cons_zero] at this
      rw [h] at this
      exact (Option.some.inj this).symm
theorem pLts_at : ∀ (xs ys : List PyData) (k : Bool), pLts xs ys = some k → ∀ j, j < xs.length → j < ys.length → (∀ i, i < j → SeqAt.pairEq xs ys i = true) → SeqAt.pairEq xs ys j = false → ∃ q, pLt (xs.getD j .none) (ys.getD j .none) = some q
  | [], _, _, _, j, h1, _, _, _ => absurd h1 (Nat.not_lt_zero _)
  | _ :: _, [], _, _, j, _, h2, _, _ => absurd h2 (Nat.not_lt_zero _)
  | x :: xs, y :: ys, k, h, j, h1, h2, hpre, hj => by
    simp only [pLts] at h
    cases j with
    | zero =>
      have hj' : PyData.eqv x y = false := hj
      rw [hj'] at h
      simp only [Bool.false_eq_true, if_false] at h
      exact ⟨k, h⟩
    | succ j =>
      have h0 : PyData.eqv x y = true := hpre 0 (Nat.succ_pos _)
      rw [if_pos h0] at h
      exact pLts_at xs ys k h j (by simpa using h1) (by simpa using h2) (fun i hi => hpre (i + 1) (by omega)) hj
mutual
theorem rcLt_p : ∀ (da db : PyData) (A : Around) (s : Shared) (a b : Value) (as bs : List Addr) (k : Bool), Reads s.heap a da as → Reads s.heap b db bs → da.canLay0 = true → db.canLay0 = true → A.units + min da.depth db.depth < cLine → pLt da db = some k → SeqAt.RcLt A s a b k
  | .int x, db, A, s, a, b, as, bs, k, ra, rb, ha, hb, hu, h => by
    cases db with
    | int y =>
      simp only [pLt] at h
      cases h
      cases ra
      cases rb
      exact fun prog w E Q hq => P.lt_int hq
    | _ => simp [pLt] at h
  | .str x, db, A, s, a, b, as, bs, k, ra, rb, ha, hb, hu, h => by
    cases db with
    | str y =>
      simp only [pLt] at h
      cases h
      cases ra
      cases rb
      exact fun prog w E Q hq => P.lt_str hq
    | _ => simp [pLt] at h
  | .tuple xs, db, A, s, a, b, as, bs, k, ra, rb, ha, hb, hu, h => by
    cases db with
    | tuple ys =>
      simp only [pLt] at h
      have ha' : PyData.canLayAll0 xs = true := by simpa [PyData.canLay0] using ha
      have hb' : PyData.canLayAll0 ys = true := by simpa [PyData.canLay0] using hb
      cases ra with
      | @tuple l o vs n _ as₁ h1 h2 h3 h4 =>
        cases rb with
        | @tuple l' o' vs' n' _ bs₁ k1 k2 k3 k4 =>
          have hl : s.heap.IsTuple l vs := ⟨_, h1, h2, _, h3⟩
          have hl' : s.heap.IsTuple l' vs' := ⟨_, k1, k2, _, k3⟩
          have n1 : vs.size = xs.length := PySem.W.readsAll_len h4
          have n2 : vs'.size = ys.length := PySem.W.readsAll_len k4
          have hu1 : (A.in1).units + min (PyData.depthAll xs) (PyData.depthAll ys) < cLine := SeqAt.room_in hu
          rw [← firstLt_pLts xs ys k (fun j => (pLt (xs.getD j .none) (ys.getD j .none)).getD false) h (fun j h1 h2 hpre hj => by
            obtain ⟨q, hq⟩ := pLts_at xs ys k h j h1 h2 hpre hj
            rw [hq]
            rfl), ← n1, ← n2]
          refine SeqAt.RcLt.tupF hl hl' (SeqAt.room_here hu) (fun j j1 j2 => ?_) fun j j1 j2 hpre hj => ?_
          · have := SeqAt.eqAt_readsAll xs ys A.in1 s vs.toList vs'.toList _ _ h4 k4 ha' hb' hu1 j (by simpa using j1) (by simpa using j2)
            simpa using this
          · obtain ⟨q, hq⟩ := pLts_at xs ys k h j (by omega) (by omega) hpre hj
            have := rcLt_ps xs ys A.in1 s vs.toList vs'.toList _ _ h4 k4 ha' hb' hu1 j (by simpa using j1) (by simpa using j2) q hq
            rw [hq]
            simpa using this
    | _ => simp [pLt] at h
  | .none, db, _, _, _, _, _, _, _, _, _, _, _, _, h => by simp [pLt] at h
  | .bool _, db, _, _, _, _, _, _, _, _, _, _, _, _, h => by simp [pLt] at h
  | .list _, db, _, _, _, _, _, _, _, _, _, _, _, _, h => by simp [pLt] at h
  | .dict _, db, _, _, _, _, _, _, _, _, _, _, _, _, h => by simp [pLt] at h
theorem rcLt_ps : ∀ (xs ys : List PyData) (A : Around) (s : Shared) (vs ws : List Value) (as bs : List Addr), ReadsAll s.heap vs xs as → ReadsAll s.heap ws ys bs → PyData.canLayAll0 xs = true → PyData.canLayAll0 ys = true →
    A.units + min (PyData.depthAll xs) (PyData.depthAll ys) < cLine → ∀ j (h1 : j < vs.length) (h2 : j < ws.length) (q : Bool), pLt (xs.getD j .none) (ys.getD j .none) = some q → SeqAt.RcLt A s vs[j] ws[j] q
  | [], _, _, _, _, _, _, _, ra, _, _, _, _, j, h1, _, _, _ => by cases ra; exact absurd h1 (Nat.not_lt_zero _)
  | _ :: _, [], _, _, _, _, _, _, _, rb, _, _, _, j, _, h2, _, _ => by cases rb; exact absurd h2 (Nat.not_lt_zero _)
  | x :: xs, y :: ys, A, s, _, _, _, _, ra, rb, ha, hb, hu, j, h1, h2, q, hq => by
    have ha' : x.canLay0 = true ∧ PyData.canLayAll0 xs = true := by simpa [PyData.canLayAll0] using ha
    have hb' : y.canLay0 = true ∧ PyData.canLayAll0 ys = true := by simpa [PyData.canLayAll0] using hb
    cases ra with
    | cons r rs =>
      cases rb with
      | cons r' rs' =>
        cases j with
        | zero => exact rcLt_p x y A s _ _ _ _ q r r' ha'.1 hb'.1 (SeqAt.room_head hu) (by simpa using hq)
        | succ j => exact rcLt_ps xs ys A s _ _ _ _ rs rs' ha'.2 hb'.2 (SeqAt.room_tail hu) j (Nat.lt_of_succ_lt_succ h1) (Nat.lt_of_succ_lt_succ h2) q (by simpa using hq)
end
end G
end
section
namespace PySem
section
variable {prog : Program} {w : World} {A : Around} {E : Value → Shared → Prop} {s : Shared}
theorem two_min {a b : Value} {Q : Value → Shared → Prop}
    (h : wpAny (model prog w) A.in1 (pyIter (.ref s.heap.objs.size)) (fun it s2 => ∃ I fp wr G n P St H bt, it = .ref I ∧ WalksS prog w A.in1 I fp wr G n P St ∧ St 0 s2 ∧ (∀ b ∈ fp, b < s2.heap.objs.size) ∧ 0 < n ∧
      (∀ b o, H.get? b = some o → b ∉ wr) ∧ (∀ b o, H.get? b = some o → s2.heap.get? b = some o) ∧ CmpIn prog w A.in1 .Lt H P bt ∧ ∀ v s', P (argBest bt (n - 1)) v → Moved wr G s2 s' → Q v s') E
      { s with heap := s.heap.push { cls := .type "tuple", data := .seq #[a, b] } }) :
    wpAny (model prog w) A (call (.builtin "min") [a, b]) Q E s := by
  have hname : (toString "min" ++ toString ".loop" : String) = "min.loop" := by decide
  refine call_function_tree F.kind_min F.plain_min F.entry_min (F.args_min2 _ _) ?_
  show wpAny _ A.in1 (Builtin.Builtins.bindParams "min" ["key", "default"] 0 ⟨[], []⟩ >>= _) _ _ s
  refine wpAny_bind (wpAny_of_eq (show Builtin.Builtins.bindParams "min" ["key", "default"] 0 ⟨[], []⟩ = pure [none, none] from rfl) ?_)
  show wpAny _ A.in1 (newTuple [a, b] >>= _) _ _ s
  refine wpAny_bind (wpAny_newObj_type (wpAny_bind (wpAny_mono h (fun it s2 h2 => ?_) fun _ _ e => e)))
  obtain ⟨I, fp, wr, G, n, P, St, H, bt, rfl, W, hst, hfp, hn, hw, hkeep, hcmp, hQ⟩ := h2
  refine wpAny_bind (wpAny_newObj_type ?_)
  rw [hname]
  exact wpAny_pure ⟨plainId_quiet F.plain_min_loop _, codeAny_min_loop_firstH W H hw bt hcmp s2.heap.objs.size (fun hm => Nat.lt_irrefl _ (hfp _ hm)) (fresh_in hkeep) _ hn (fun b o e => Heap.get?_push_of_some _ (hkeep b o e))
    (W.frame 0 s2 _ s2.toks hst (Nat.le_refl _) fun b _ o e => Heap.get?_push_of_some _ e) (Heap.get?_push_size _ rfl) fun v s' hP hm => hQ v s' hP (Moved.drop_new (tk := s2.toks) hm (Nat.le_refl _))⟩
theorem two_max {a b : Value} {Q : Value → Shared → Prop}
    (h : wpAny (model prog w) A.in1 (pyIter (.ref s.heap.objs.size)) (fun it s2 => ∃ I fp wr G n P St H bt, it = .ref I ∧ WalksS prog w A.in1 I fp wr G n P St ∧ St 0 s2 ∧ (∀ b ∈ fp, b < s2.heap.objs.size) ∧ 0 < n ∧
      (∀ b o, H.get? b = some o → b ∉ wr) ∧ (∀ b o, H.get? b = some o → s2.heap.get? b = some o) ∧ CmpIn prog w A.in1 .Gt H P bt ∧ ∀ v s', P (argBest bt (n - 1)) v → Moved wr G s2 s' → Q v s') E
      { s with heap := s.heap.push { cls := .type "tuple", data := .seq #[a, b] } }) :
    wpAny (model prog w) A (call (.builtin "max") [a, b]) Q E s := by
  have hname : (toString "max" ++ toString ".loop" : String) = "max.loop" := by decide
  refine call_function_tree F.kind_max F.plain_max F.entry_max (F.args_max2 _ _) ?_
  show wpAny _ A.in1 (Builtin.Builtins.bindParams "max" ["key", "default"] 0 ⟨[], []⟩ >>= _) _ _ s
  refine wpAny_bind (wpAny_of_eq (show Builtin.Builtins.bindParams "max" ["key", "default"] 0 ⟨[], []⟩ = pure [none, none] from rfl) ?_)
  show wpAny _ A.in1 (newTuple [a, b] >>= _) _ _ s
  refine wpAny_bind (wpAny_newObj_type (wpAny_bind (wpAny_mono h (fun it s2 h2 => ?_) fun _ _ e => e)))
  obtain ⟨I, fp, wr, G, n, P, St, H, bt, rfl, W, hst, hfp, hn, hw, hkeep, hcmp, hQ⟩ := h2
  refine wpAny_bind (wpAny_newObj_type ?_)
  rw [hname]
  exact wpAny_pure ⟨plainId_quiet F.plain_max_loop _, codeAny_max_loop_firstH W H hw bt hcmp s2.heap.objs.size (fun hm => Nat.lt_irrefl _ (hfp _ hm)) (fresh_in hkeep) _ hn (fun b o e => Heap.get?_push_of_some _ (hkeep b o e))
    (W.frame 0 s2 _ s2.toks hst (Nat.le_refl _) fun b _ o e => Heap.get?_push_of_some _ e) (Heap.get?_push_size _ rfl) fun v s' hP hm => hQ v s' hP (Moved.drop_new (tk := s2.toks) hm (Nat.le_refl _))⟩
end
end PySem
namespace G
open PySem L2
def rLtP (K : PySem.W.Frag) : R2 := fun x y H Q => ∃ p q k, Dp K H x p ∧ Dp K H y q ∧ SeqAt.shaped p = true ∧ SeqAt.shaped q = true ∧ pLt p q = some k ∧ Q (.bl k) H
theorem room_sh {A : Around} {p q : PyData} (h : SeqAt.shaped p = true) (hu : A.units + 64 < cLine) : A.units + min p.depth q.depth < cLine := SeqAt.room_of_shaped h hu
theorem op_ltP {X : Cx} (hu : X.A.units + 64 < cLine) : OpR X (compareOp .Lt) (rLtP X.K) := by
  intro pins s σ H x y v u Q I rx ry h
  obtain ⟨p, q, k, hp, hq, sp, sq, e, qq⟩ := h
  obtain ⟨as, r1⟩ := Dp.reads I p x v hp rx
  obtain ⟨bs, r2⟩ := Dp.reads I q y u hq ry
  exact rcLt_p p q X.A s v u as bs k r1 r2 (SeqAt.canLay_of_shaped sp) (SeqAt.canLay_of_shaped sq) (room_sh sp hu) e X.prog X.w X.xe _ ⟨.bl k, H, I, rfl, qq⟩
def dLt (S : Sto) (x y : D) : Option D := match pdv S x, pdv S y with
  | some p, some q => if SeqAt.shaped p = true ∧ SeqAt.shaped q = true then (pLt p q).map .bl else none
  | _, _ => none
theorem op2_lt {B : Bas} : Op2 B (rLtP B.K) dLt := fun m S H x y d1 d2 d s c r1 r2 e Q q => by
  unfold dLt at e
  split at e
  · rename_i p z h1 h2
    split at e
    · rename_i hs
      cases h : pLt p z with
      | none => rw [h] at e; cases e
      | some k => rw [h] at e; cases e; exact ⟨p, z, k, r1.dpv s c h1, r2.dpv s c h2, hs.1, hs.2, h, q_val s c q (rp_bl m)⟩
    · cases e
  · cases e
def rMin2 (K : PySem.W.Frag) : List V → Hp → VK → Prop := fun xs H Q => ∃ x y p q, xs = [x, y] ∧ Dp K H x p ∧ Dp K H y q ∧ SeqAt.shaped p = true ∧ SeqAt.shaped q = true ∧ PySem.W.AlikeAll [p, q] ∧ Q (if PySem.W.dataLt q p = true then y else x) H
def rMax2 (K : PySem.W.Frag) : List V → Hp → VK → Prop := fun xs H Q => ∃ x y p q, xs = [x, y] ∧ Dp K H x p ∧ Dp K H y q ∧ SeqAt.shaped p = true ∧ SeqAt.shaped q = true ∧ PySem.W.AlikeAll [p, q] ∧ Q (if PySem.W.dataLt p q = true then y else x) H
theorem depth2 {p q : PyData} (sp : SeqAt.shaped p = true) (sq : SeqAt.shaped q = true) : PyData.depthAll [p, q] ≤ 64 := by
  have h1 := SeqAt.depth_of_shaped sp
  have h2 := SeqAt.depth_of_shaped sq
  simp only [PyData.depthAll]
  omega
theorem reads_two {h : Heap} {a b : Value} {p q : PyData} {as bs : List Addr} (r1 : Reads h a p as) (r2 : Reads h b q bs) : ∃ cs, ReadsAll h (#[a, b] : Array Value).toList [p, q] cs := ⟨_, .cons r1 (.cons r2 .nil)⟩
theorem call_min2D {X : Cx} (hc : X.calm = true) (hu : X.A.units + 66 < cLine) : CallR X (.builtin "min") (rMin2 X.K) := by
  intro pins s σ H xs us Q I r h
  obtain ⟨x, y, p, q, rfl, hp, hq, sp, sq, al, qq⟩ := h
  obtain ⟨u, w', rfl, ru, rw'⟩ := vals2 r
  obtain ⟨as, r1⟩ := Dp.reads I p x u hp ru
  obtain ⟨bs, r2⟩ := Dp.reads I q y w' hq rw'
  have kp : ∀ b o, s.heap.get? b = some o → (s.heap.push { cls := .type "tuple", data := .seq #[u, w'] }).get? b = some o := fun b o e => Heap.get?_push_of_some _ e
  have r1' := PySem.W.reads_keeps kp r1
  have r2' := PySem.W.reads_keeps kp r2
  obtain ⟨cs, rr⟩ := reads_two r1' r2'
  have hT : (s.heap.push { cls := .type "tuple", data := .seq #[u, w'] }).IsTuple s.heap.objs.size #[u, w'] := ⟨_, Heap.get?_push_size _ rfl, rfl, 0, rfl⟩
  have hd := depth2 sp sq
  refine two_min (PySem.W.iter_tupleW (s := { s with heap := s.heap.push { cls := .type "tuple", data := .seq #[u, w'] } }) (A := X.A.in1) (I.ok.hd hc) hT fun s2 e Wk st hfp hw hk => ?_)
  refine ⟨_, _, _, _, _, _, _, s.heap.push { cls := .type "tuple", data := .seq #[u, w'] }, _, rfl, Wk, st, hfp, by simp, hw, hk,
    PySem.W.cmpIn_lt (s := { s with heap := s.heap.push { cls := .type "tuple", data := .seq #[u, w'] } }) (A := X.A.in1) (vs := #[u, w']) rr al (by show X.A.units + 1 + _ < _; omega), fun v s' hP mv => ?_⟩
  obtain ⟨h', tk, rfl, hk'⟩ := PySem.W.moved_old e rfl mv
  refine ⟨_, H, I.kept (t' := tk) (fun b o e => hk' b o (kp b o e)), ?_, qq⟩
  have hP' : #[u, w'][argBest (fun i j => PySem.W.dataLt ([p, q].getD i .none) ([p, q].getD j .none)) 1]? = some v := hP
  have e0 : argBest (fun i j => PySem.W.dataLt ([p, q].getD i .none) ([p, q].getD j .none)) 1 = (if PySem.W.dataLt q p = true then 1 else 0) := rfl
  rw [e0] at hP'
  by_cases hl : PySem.W.dataLt q p = true
  · rw [if_pos hl] at hP' ⊢
    cases hP'
    exact rw'
  · rw [if_neg hl] at hP' ⊢
    cases hP'
    exact ru
theorem call_max2D {X : Cx} (hc : X.calm = true) (hu : X.A.units + 66 < cLine) : CallR X (.builtin "max") (rMax2 X.K) := by
  intro pins s σ H xs us Q I r h
  obtain ⟨x, y, p, q, rfl, hp, hq, sp, sq, al, qq⟩ := h
  obtain ⟨u, w', rfl, ru, rw'⟩ := vals2 r
  obtain ⟨as, r1⟩ := Dp.reads I p x u hp ru
  obtain ⟨bs, r2⟩ := Dp.reads I q y w' hq rw'
  have kp : ∀ b o, s.heap.get? b = some o → (s.heap.push { cls := .type "tuple", data := .seq #[u, w'] }).get? b = some o := fun b o e => Heap.get?_push_of_some _ e
  have r1' := PySem.W.reads_keeps kp r1
  have r2' := PySem.W.reads_keeps kp r2
  obtain ⟨cs, rr⟩ := reads_two r1' r2'
  have hT : (s.heap.push { cls := .type "tuple", data := .seq #[u, w'] }).IsTuple s.heap.objs.size #[u, w'] := ⟨_, Heap.get?_push_size _ rfl, rfl, 0, rfl⟩
  have hd := depth2 sp sq
  refine two_max (PySem.W.iter_tupleW (s := { s with heap := s.heap.push { cls := .type "tuple", data := .seq #[u, w'] } }) (A := X.A.in1) (I.ok.hd hc) hT fun s2 e Wk st hfp hw hk => ?_)
  refine ⟨_, _, _, _, _, _, _, s.heap.push { cls := .type "tuple", data := .seq #[u, w'] }, _, rfl, Wk, st, hfp, by simp, hw, hk,
    PySem.W.cmpIn_gt (s := { s with heap := s.heap.push { cls := .type "tuple", data := .seq #[u, w'] } }) (A := X.A.in1) (vs := #[u, w']) rr al (by show X.A.units + 1 + _ < _; omega), fun v s' hP mv => ?_⟩
  obtain ⟨h', tk, rfl, hk'⟩ := PySem.W.moved_old e rfl mv
  refine ⟨_, H, I.kept (t' := tk) (fun b o e => hk' b o (kp b o e)), ?_, qq⟩
  have hP' : #[u, w'][argBest (fun i j => PySem.W.dataLt ([p, q].getD j .none) ([p, q].getD i .none)) 1]? = some v := hP
  have e0 : argBest (fun i j => PySem.W.dataLt ([p, q].getD j .none) ([p, q].getD i .none)) 1 = (if PySem.W.dataLt p q = true then 1 else 0) := rfl
  rw [e0] at hP'
  by_cases hl : PySem.W.dataLt p q = true
  · rw [if_pos hl] at hP' ⊢
    cases hP'
    exact rw'
  · rw [if_neg hl] at hP' ⊢
    cases hP'
    exact ru
open Classical in
noncomputable def dMin2 (S : Sto) : List D → Option D
  | [x, y] => match pdv S x, pdv S y with
    | some p, some q => if SeqAt.shaped p = true ∧ SeqAt.shaped q = true ∧ PySem.W.AlikeAll [p, q] then some (if PySem.W.dataLt q p = true then y else x) else none
    | _, _ => none
  | _ => none
open Classical in
noncomputable def dMax2 (S : Sto) : List D → Option D
  | [x, y] => match pdv S x, pdv S y with
    | some p, some q => if SeqAt.shaped p = true ∧ SeqAt.shaped q = true ∧ PySem.W.AlikeAll [p, q] then some (if PySem.W.dataLt p q = true then y else x) else none
    | _, _ => none
  | _ => none
theorem opn_min2 {B : Bas} : OpN B (rMin2 B.K) dMin2 := fun m S H xs ds d s c r e Q q => by
  unfold dMin2 at e
  split at e
  · rename_i x y
    split at e
    · rename_i p z h1 h2
      split at e
      · rename_i hs
        cases e
        simp only [Reps] at r
        obtain ⟨v, _, rfl, rv, w', _, rfl, rw', rfl⟩ := r
        refine ⟨v, w', p, z, rfl, rv.dpv s c h1, rw'.dpv s c h2, hs.1, hs.2.1, hs.2.2, ?_⟩
        split
        · exact q_val s c (by simpa only [*, if_true] using q) rw'
        · exact q_val s c (by simpa only [*, if_false, Bool.false_eq_true] using q) rv
      · cases e
    · cases e
  · cases e
theorem opn_max2 {B : Bas} : OpN B (rMax2 B.K) dMax2 := fun m S H xs ds d s c r e Q q => by
  unfold dMax2 at e
  split at e
  · rename_i x y
    split at e
    · rename_i p z h1 h2
      split at e
      · rename_i hs
        cases e
        simp only [Reps] at r
        obtain ⟨v, _, rfl, rv, w', _, rfl, rw', rfl⟩ := r
        refine ⟨v, w', p, z, rfl, rv.dpv s c h1, rw'.dpv s c h2, hs.1, hs.2.1, hs.2.2, ?_⟩
        split
        · exact q_val s c (by simpa only [*, if_true] using q) rw'
        · exact q_val s c (by simpa only [*, if_false, Bool.false_eq_true] using q) rv
      · cases e
    · cases e
  · cases e
end G
end
section
namespace G
open PySem L2
theorem CallR.or {X : Cx} {f : Value} {r r' : List V → Hp → VK → Prop} (h : CallR X f r) (h' : CallR X f r') : CallR X f (fun xs H Q => r xs H Q ∨ r' xs H Q) := by
  intro pins s σ H xs us Q I rx q
  rcases q with q | q
  · exact h pins s σ H xs us Q I rx q
  · exact h' pins s σ H xs us Q I rx q
section
variable {X : Cx} {B : Bas} {W : WX} {x : Str} {p pos : Pos} {e : Expr} {es : List Expr} {mr : MA} {id T : String} {r : List V → Hp → VK → Prop} {g : Sto → List D → Option D}
theorem de_callB (hc : CallR X (.builtin id) r) (h : OpN B r g) (hm : X.mg x = none) (hv : bootBuiltins x = some (.builtin id)) (ha : PA X (e :: es) (tA B W mr)) (hg : Gl X x := by rfl) (hn : x ≠ "__name__" := by decide) (hdb : (x == ("__debug__" : Str)) = false := by decide)
    (he : starEach (e :: es) X.env = (false, eval e X.env) :: starEach es X.env := by rfl) (hpl : (backTo pos (starEach es X.env)).any (·.1) = false := by rfl) : PE X (.Call (.Name x p) (e :: es) [] pos) (tE B W (mCB g mr)) :=
  PE.cut (pe_callB hc hg hm hv ha hn hdb he hpl) (tCB_of h)
theorem de_callTy (hc : CallR X (.type T) r) (h : OpN B r g) (hm : X.mg x = none) (hv : bootBuiltins x = some (.type T)) (ha : PA X (e :: es) (tA B W mr)) (hg : Gl X x := by rfl) (hn : x ≠ "__name__" := by decide) (hdb : (x == ("__debug__" : Str)) = false := by decide)
    (he : starEach (e :: es) X.env = (false, eval e X.env) :: starEach es X.env := by rfl) (hpl : (backTo pos (starEach es X.env)).any (·.1) = false := by rfl) : PE X (.Call (.Name x p) (e :: es) [] pos) (tE B W (mCB g mr)) :=
  PE.cut (pe_callTy hc hg hm hv ha hn hdb he hpl) (tCB_of h)
end
theorem Reps.one {B : Bas} {m : Mp} {d : D} {vs : List V} (r : Reps B m [d] vs) : ∃ v, vs = [v] ∧ Rep B m d v := by
  simp only [Reps] at r
  obtain ⟨v, _, rfl, rv, rfl⟩ := r
  exact ⟨v, rfl, rv⟩
theorem Reps.two {B : Bas} {m : Mp} {d e : D} {vs : List V} (r : Reps B m [d, e] vs) : ∃ v w, vs = [v, w] ∧ Rep B m d v ∧ Rep B m e w := by
  simp only [Reps] at r
  obtain ⟨v, _, rfl, rv, w, _, rfl, rw', rfl⟩ := r
  exact ⟨v, w, rfl, rv, rw'⟩
def dLen (S : Sto) : List D → Option D
  | [.str z] => if z.length ≤ sizeLine then some (.int z.length) else none
  | [x] => match seqL S x, seqT x, dicOf S x with
    | some ds, _, _ => some (.int ds.length)
    | none, some ds, _ => some (.int ds.length)
    | none, none, some (ks, _) => some (.int ks.length)
    | none, none, none => none
  | _ => none
def rLenU (K : PySem.W.Frag) : List V → Hp → VK → Prop := fun xs H Q => ((∃ p ys, xs = [.ref p] ∧ (SqL K H p ys ∨ SqT K H p ys) ∧ Q (.int ys.length) H) ∨ (∃ z, xs = [.str z] ∧ z.length ≤ sizeLine ∧ Q (.int z.length) H)) ∨ ((∃ a kvs, xs = [V.ref a] ∧ H a = some (.dK kvs) ∧ Q (.int kvs.length) H) ∨ rLenT xs H Q)
theorem call_lenU {X : Cx} : CallR X (.builtin "len") (rLenU X.K) := (call_len_seq.or call_len_str).or (call_lenD.or call_len_dT)
theorem keysD_length : ∀ {ks : List D} {q : List Key}, keysD ks = some q → q.length = ks.length
  | [], q, h => by cases h; rfl
  | k :: r, q, h => by
    simp only [keysD] at h
    split at h
    · rename_i a b h1 h2
      cases h
      simp [keysD_length h2]
    · cases h
theorem tkeysD_length : ∀ {ks : List D} {q : List (List Key)}, tkeysD ks = some q → q.length = ks.length
  | [], q, h => by cases h; rfl
  | k :: r, q, h => by
    simp only [tkeysD] at h
    split at h
    · rename_i a b h1 h2
      cases h
      simp [tkeysD_length h2]
    · cases h
theorem opn_len {B : Bas} : OpN B (rLenU B.K) dLen := fun m S H xs ds d s c r e Q q => by
  unfold dLen at e
  split at e
  · split at e
    · cases e
      obtain ⟨v, rfl, rv⟩ := r.one
      exact .inl (.inr ⟨_, by rw [rv.str_eq], by assumption, q_val s c q (rp_int m)⟩)
    · cases e
  · obtain ⟨v, rfl, rv⟩ := r.one
    split at e
    · rename_i ds _ _ h1
      cases e
      obtain ⟨a, vs, rfl, k, t⟩ := repL s c rv h1
      exact .inl (.inl ⟨a, vs, rfl, .inl k, by rw [← t.length]; exact q_val s c q (rp_int m)⟩)
    · rename_i ds _ _ h1
      cases e
      obtain ⟨a, vs, rfl, k, t⟩ := repT s rv h1
      exact .inl (.inl ⟨a, vs, rfl, .inr k, by rw [← t.length]; exact q_val s c q (rp_int m)⟩)
    · rename_i ks ds _ _ h1
      cases e
      obtain ⟨a, vs, rfl, ⟨k1, k2⟩, t⟩ := repD s c rv h1
      rcases k2 with ⟨z, _, hz, k2⟩ | ⟨z, hz, k2⟩
      · have hl : (z.zip vs).length = ks.length := by rw [List.length_zip, keysD_length hz, ← k1, Nat.min_self]
        exact .inr (.inl ⟨a, _, rfl, k2, by rw [hl]; exact q_val s c q (rp_int m)⟩)
      · have hl : (z.zip vs).length = ks.length := by rw [List.length_zip, tkeysD_length hz, ← k1, Nat.min_self]
        exact .inr (.inr ⟨a, _, rfl, k2, by rw [hl]; exact q_val s c q (rp_int m)⟩)
    · cases e
  · cases e
def dInt (_ : Sto) : List D → Option D
  | [.int i] => some (.int i)
  | [.bl k] => some (.int (if k then 1 else 0))
  | [.str a] => if a.length ≤ 640 then (PySem.intText? a).map .int else none
  | _ => none
def rIntU : List V → Hp → VK → Prop := fun xs H Q => ((∃ i, xs = [.int i] ∧ Q (.int i) H) ∨ ∃ k, xs = [.bl k] ∧ Q (.int (if k then 1 else 0)) H) ∨ ∃ a n, xs = [.str a] ∧ PySem.intText? a = some n ∧ a.length ≤ 640 ∧ Q (.int n) H
theorem call_intU {X : Cx} : CallR X (.type "int") rIntU := call_int1.or call_int_str
theorem opn_int {B : Bas} : OpN B rIntU dInt := fun m S H xs ds d s c r e Q q => by
  unfold dInt at e
  split at e
  · cases e
    obtain ⟨v, rfl, rv⟩ := r.one
    exact .inl (.inl ⟨_, by rw [rv.int_eq], q_val s c q (rp_int m)⟩)
  · cases e
    obtain ⟨v, rfl, rv⟩ := r.one
    exact .inl (.inr ⟨_, by rw [rv.bl_eq], q_val s c q (rp_int m)⟩)
  · split at e
    · rename_i a hl
      obtain ⟨v, rfl, rv⟩ := r.one
      cases h : PySem.intText? a with
      | none => rw [h] at e; cases e
      | some n => rw [h] at e; cases e; exact .inr ⟨a, n, by rw [rv.str_eq], h, hl, q_val s c q (rp_int m)⟩
    · cases e
  · cases e
def dAbs (_ : Sto) : List D → Option D
  | [.int i] => some (.int (if i < 0 then -i else i))
  | _ => none
def rAbsU : List V → Hp → VK → Prop := fun xs H Q => ∃ i, xs = [.int i] ∧ Q (.int (if i < 0 then -i else i)) H
theorem opn_abs {B : Bas} : OpN B rAbsU dAbs := fun m S H xs ds d s c r e Q q => by
  unfold dAbs at e
  split at e
  · cases e
    obtain ⟨v, rfl, rv⟩ := r.one
    exact ⟨_, by rw [rv.int_eq], q_val s c q (rp_int m)⟩
  · cases e
def dStr (_ : Sto) : List D → Option D
  | [.int i] => if i.natAbs.log2 < 1920 then some (.str (toString i)) else none
  | [.str a] => some (.str a)
  | _ => none
def rStrU : List V → Hp → VK → Prop := fun xs H Q => (∃ i, xs = [.int i] ∧ i.natAbs.log2 < 1920 ∧ Q (.str (toString i)) H) ∨ ∃ a, xs = [.str a] ∧ Q (.str a) H
theorem call_strU {X : Cx} : CallR X (.type "str") rStrU := call_str_int.or SkE.call_str_str
theorem opn_str {B : Bas} : OpN B rStrU dStr := fun m S H xs ds d s c r e Q q => by
  unfold dStr at e
  split at e
  · split at e
    · cases e
      obtain ⟨v, rfl, rv⟩ := r.one
      exact .inl ⟨_, by rw [rv.int_eq], by assumption, q_val s c q (rp_str m)⟩
    · cases e
  · cases e
    obtain ⟨v, rfl, rv⟩ := r.one
    exact .inr ⟨_, by rw [rv.str_eq], q_val s c q (rp_str m)⟩
  · cases e
def dTuple (S : Sto) : List D → Option D
  | [x] => match seqL S x with
    | some ds => some (.tup ds)
    | none => match x with
      | .tup ds => some (.tup ds)
      | _ => none
  | _ => none
def rTupU (K : PySem.W.Frag) : List V → Hp → VK → Prop := fun xs H Q => ∃ p ys, xs = [.ref p] ∧ ((SqL K H p ys ∧ ∀ l, H l = none → Q (.ref l) (upd H l (.tup ys))) ∨ (SqT K H p ys ∧ Q (.ref p) H))
theorem opn_tuple {B : Bas} : OpN B (rTupU B.K) dTuple := fun m S H xs ds d s c r e Q q => by
  unfold dTuple at e
  split at e
  · obtain ⟨v, rfl, rv⟩ := r.one
    split at e
    · rename_i ds h1
      cases e
      obtain ⟨a, vs, rfl, k, t⟩ := repL s c rv h1
      exact ⟨a, vs, rfl, .inl ⟨k, q_tup s c q t⟩⟩
    · split at e
      · cases e
        obtain ⟨a, vs, rfl, k, t⟩ := repT s rv rfl
        exact ⟨a, vs, rfl, .inr ⟨k, q_val s c q rv⟩⟩
      · cases e
  · cases e
def dList (S : Sto) : List D → Option D
  | [x] => match seqL S x, seqT x with
    | some ds, _ => some (.lst ds)
    | none, some ds => some (.lst ds)
    | none, none => none
  | _ => none
def bls : List D → Option (List Bool)
  | [] => some []
  | .bl b :: r => (bls r).map (b :: ·)
  | _ => none
theorem bls_reps {B : Bas} {m : Mp} : ∀ {ds : List D} {vs : List V} {bs : List Bool}, Reps B m ds vs → bls ds = some bs → vs = bs.map V.bl
  | [], vs, bs, r, h => by
    simp only [Reps] at r
    cases h
    exact r
  | d :: ds, vs, bs, r, h => by
    cases d with
    | bl b =>
      simp only [bls] at h
      simp only [Reps] at r
      obtain ⟨v, t, rfl, rv, rt⟩ := r
      cases h2 : bls ds with
      | none => rw [h2] at h; cases h
      | some cs =>
        rw [h2] at h
        cases h
        rw [rv.bl_eq, bls_reps rt h2]
        rfl
    | _ => cases h
def dAll (S : Sto) : List D → Option D
  | [x] => ((seqL S x).bind bls).map fun bs => .bl (bs.all id)
  | _ => none
def dAny (S : Sto) : List D → Option D
  | [x] => ((seqL S x).bind bls).map fun bs => .bl (bs.any id)
  | _ => none
theorem opn_all {B : Bas} : OpN B (rAll B.K) dAll := fun m S H xs ds d s c r e Q q => by
  unfold dAll at e
  split at e
  · rename_i x
    obtain ⟨v, rfl, rv⟩ := r.one
    cases h1 : seqL S x with
    | none => rw [h1] at e; cases e
    | some ds =>
      cases h2 : bls ds with
      | none => rw [h1, Option.bind_some, h2] at e; cases e
      | some bs =>
        rw [h1, Option.bind_some, h2] at e
        cases e
        obtain ⟨a, vs, rfl, k, t⟩ := repL s c rv h1
        exact ⟨a, bs, rfl, by rw [← bls_reps t h2]; exact k, q_val s c q (rp_bl m)⟩
  · cases e
def tyN (S : Sto) (d : D) : Option String := match d with
  | .non => some "NoneType"
  | .bl _ => some "bool"
  | .int _ => some "int"
  | .str _ => some "str"
  | .tup _ => some "tuple"
  | .ktp _ => some "tuple"
  | .lst _ => some "list"
  | .dic _ _ => some "dict"
  | .ref i => match S[i]? with
    | some (.lst _) => some "list"
    | some (.dic _ _) => some "dict"
    | _ => none
  | _ => none
theorem tyN_of {B : Bas} {m : Mp} {H : Hp} {S : Sto} {d : D} {v : V} {n : String} (s : Sub m H) (c : Cor B m S) (r : Rep B m d v) (e : tyN S d = some n) : TyX B.K H v (.type n) := by
  have dic : ∀ {a : Addr} {ks : List D} {vs : List V}, DicAt (m.Z a) ks vs → TyX B.K H (.ref a) (.type "dict") := fun {a ks vs} h => by
    rcases h with ⟨_, ⟨q, _, _, z⟩ | ⟨q, _, z⟩⟩
    · exact .base (.dK (s _ _ z))
    · exact .base (.dT (s _ _ z))
  cases d with
  | non => cases e; rw [r.non_eq]; exact .base .non
  | bl b => cases e; rw [r.bl_eq]; exact .base (.bl b)
  | int b => cases e; rw [r.int_eq]; exact .base (.int b)
  | str b => cases e; rw [r.str_eq]; exact .base (.str b)
  | tup ds =>
    cases e
    simp only [Rep] at r
    obtain ⟨a, vs, rfl, t, _⟩ := r
    exact .base (.tup (s _ _ t.1))
  | ktp ds =>
    cases e
    simp only [Rep] at r
    obtain ⟨a, vs, rfl, t, _⟩ := r
    rcases t with (t | ⟨_, t⟩) | ⟨o, its, k, h1, h2, _⟩
    · cases t
    · cases t
    · exact .kTuple h1 h2
  | lst ds =>
    cases e
    simp only [Rep] at r
    obtain ⟨a, vs, rfl, t, _⟩ := r
    exact .base (.lst (s _ _ t.1))
  | dic ks ds =>
    cases e
    simp only [Rep] at r
    obtain ⟨a, vs, rfl, _, t, _⟩ := r
    exact dic t
  | ref i =>
    simp only [Rep] at r
    obtain ⟨_, rfl⟩ := r
    simp only [tyN] at e
    split at e
    · rename_i ds hx
      cases e
      obtain ⟨vs, z, _⟩ := c.ob _ _ hx
      exact .base (.lst (s _ _ z))
    · rename_i ks ds hx
      cases e
      obtain ⟨vs, z, _⟩ := c.ob _ _ hx
      exact dic z
    · cases e
  | _ => cases e
def dIsi (S : Sto) : List D → Option D
  | [x, .ty T] => ((tyN S x).bind fun n => kitB n T).map .bl
  | _ => none
theorem opn_isi {B : Bas} : OpN B (rIsi B.K) dIsi := fun m S H xs ds d s c r e Q q => by
  unfold dIsi at e
  split at e
  · rename_i x T
    obtain ⟨v, w, rfl, rv, rw'⟩ := r.two
    cases h1 : tyN S x with
    | none => rw [h1] at e; cases e
    | some n =>
      cases h2 : kitB n T with
      | none => rw [h1, Option.bind_some, h2] at e; cases e
      | some b =>
        rw [h1, Option.bind_some, h2] at e
        cases e
        have hw : w = .ty T := by simpa only [Rep] using rw'
        subst hw
        exact ⟨v, .ty T, .type n, .type T, b, rfl, .ty T, tyN_of s c rv h1, kit_ty h2, q_val s c q (rp_bl m)⟩
  · cases e
theorem rp_ty {B : Bas} {n : String} (m : Mp) : Rep B m (.ty n) (.ty n) := by simp only [Rep]
theorem de_ty {X : Cx} {B : Bas} {W : WX} {x : Str} {n : String} {pos : Pos} (hm : X.mg x = none) (hv : bootBuiltins x = some (.type n)) (hg : Gl X x := by rfl) (hn : x ≠ "__name__" := by decide) (hd : (x == ("__debug__" : Str)) = false := by decide) : PE X (.Name x pos) (tE B W (mC (.ty n))) :=
  de_c (pe_bltn hg hm hv (v := .ty n) rfl hn hd) rp_ty
end G
end
section
namespace G
open PySem L2
abbrev MO := En → Sto → Res (Option Int)
def RO : Mp → Option Int → Option Int → Prop := fun _ a b => a = b
def tO (B : Bas) (W : WX) (e : MO) : TO := fun σ H Q => ∃ m S en, Sub m H ∧ Cor B m S ∧ EnR B m en σ ∧ Post B RO (at' W σ) m H Q (e en S)
def oNone : MO := fun _ S => .ok none S
def oSome (e : ME) : MO := fun en S => (e en S).bind fun d S1 => match d with
  | .int i => .ok (some i) S1
  | _ => .bad
theorem PO.cut {X : Cx} {e : Option Expr} {t t' : TO} (h : PO X e t) (f : ∀ σ H Q, t' σ H Q → t σ H Q) : PO X e t' := ⟨fun pins s σ H Q I q => h.run pins s σ H Q I (f σ H Q q)⟩
theorem do_none {X : Cx} {B : Bas} {W : WX} : PO X none (tO B W oNone) := PO.cut po_none fun σ H Q ⟨m, S, en, s, c, er, p⟩ => p m H none (Le.refl s) c rfl
theorem do_some {X : Cx} {B : Bas} {W : WX} {e : Expr} {me : ME} (h : PE X e (tE B W me)) : PO X (some e) (tO B W (oSome me)) := PO.cut (po_some h) fun σ H Q ⟨m, S, en, s, c, er, p⟩ => ⟨m, S, en, s, c, er, (Post.bind p).imp (by
  rintro v H1 ⟨d, S1, m1, _, l1, c1, r1, p1⟩
  cases d with
  | int i => exact ⟨i, r1.int_eq, p1 m1 H1 _ (Le.refl l1.sub) c1 rfl⟩
  | _ => exact p1.elim)⟩
def cutD (xs : List D) (lo hi : Option Int) : List D := (xs.drop (HT.sIx xs.length 0 lo)).take (HT.sIx xs.length xs.length hi - HT.sIx xs.length 0 lo)
theorem Reps.cutD {B : Bas} {m : Mp} {ds : List D} {vs : List V} (r : Reps B m ds vs) (lo hi : Option Int) : Reps B m (cutD ds lo hi) (cutV vs lo hi) := by
  unfold G.cutD cutV
  rw [r.length]
  exact (r.drop _).take _
def dSl (S : Sto) (x : D) (lo hi : Option Int) : Option D := match x with
  | .str z => if z.length ≤ sizeLine then some (.str (cutS z lo hi)) else none
  | .tup ds => some (.tup (cutD ds lo hi))
  | .ktp ds => if HT.sIx ds.length 0 lo = 0 ∧ HT.sIx ds.length ds.length hi = ds.length then some (.ktp ds) else some (.tup (cutD ds lo hi))
  | x => (seqL S x).map fun ds => .lst (cutD ds lo hi)
def mSl (a : ME) (l h : MO) : ME := fun en S => (a en S).bind fun x S1 => (l en S1).bind fun lo S2 => (h en S2).bind fun hi S3 => match dSl S3 x lo hi with
  | some d => .ok d S3
  | none => .bad
theorem de_slice {X : Cx} {B : Bas} {W : WX} {e : Expr} {lo hi : Option Expr} {p2 pos : Pos} {me : ME} {ml mh : MO} (hK : B.K = X.K := by rfl) (he : PE X e (tE B W me)) (hl : PO X lo (tO B W ml)) (hu : PO X hi (tO B W mh)) :
    PE X (.Subscript e (.Slice lo hi none p2) pos) (tE B W (mSl me ml mh)) := PE.cut (pe_slice ((sl_list.or sl_tupA).or sl_str) he hl hu) fun σ H Q ⟨m, S, en, s, c, er, p⟩ => ⟨m, S, en, s, c, er, (Post.bind p).imp (by
  rintro v H1 ⟨d, S1, m1, _, l1, c1, r1, p1⟩
  refine ⟨m1, S1, en, l1.sub, c1, er.mono l1, (Post.bind p1).imp ?_⟩
  rintro a H2 ⟨a', S2, m2, _, l2, c2, r2, p2⟩
  cases r2
  refine ⟨m2, S2, en, l2.sub, c2, (er.mono l1).mono l2, (Post.bind p2).imp ?_⟩
  rintro b H3 ⟨b', S3, m3, _, l3, c3, r3, p3⟩
  cases r3
  have rv := (r1.mono l2).mono l3
  rw [← hK]
  cases h : dSl S3 d a b with
  | none => rw [h] at p3; exact p3.elim
  | some x =>
    rw [h] at p3
    unfold dSl at h
    split at h
    · split at h
      · cases h
        exact .inr ⟨_, rv.str_eq, by assumption, q_val l3.sub c3 p3 (rp_str m3)⟩
      · cases h
    · rename_i ds _
      cases h
      have rv' := rv
      simp only [Rep] at rv
      obtain ⟨q, vs, rfl, t, rs⟩ := rv
      refine .inl (.inr ⟨q, vs, rfl, t.sq l3.sub, fun hz => ?_, fun _ => q_tup l3.sub c3 p3 (rs.cutD a b)⟩)
      have e1 : cutD ds a b = ds := by
        unfold G.cutD
        rw [rs.length, hz.1, hz.2]
        simp [← rs.length]
      rw [e1] at p3
      exact q_val l3.sub c3 p3 rv'
    · rename_i ds _
      have rv' := rv
      simp only [Rep] at rv
      obtain ⟨q, vs, rfl, t, rs⟩ := rv
      split at h
      · rename_i hz
        cases h
        exact .inl (.inr ⟨q, vs, rfl, t.sq, fun _ => q_val l3.sub c3 p3 rv', fun n => absurd (by rw [← rs.length]; exact hz) n⟩)
      · rename_i hz
        cases h
        exact .inl (.inr ⟨q, vs, rfl, t.sq, fun z => absurd (by rw [rs.length]; exact z) hz, fun _ => q_tup l3.sub c3 p3 (rs.cutD a b)⟩)
    · cases h1 : seqL S3 d with
      | none => rw [h1] at h; cases h
      | some ds =>
        rw [h1] at h
        cases h
        obtain ⟨q, vs, rfl, t, rs⟩ := repL l3.sub c3 rv h1
        exact .inl (.inl ⟨q, vs, rfl, t, q_lst l3.sub c3 p3 (rs.cutD a b)⟩))⟩
def OpM (B : Bas) (r : V → List V → Hp → VK → Prop) (g : Sto → D → List D → Option D) : Prop := ∀ (m : Mp) (S : Sto) (H : Hp) (x : V) (xs : List V) (d0 d : D) (ds : List D), Sub m H → Cor B m S → Rep B m d0 x → Reps B m ds xs → g S d0 ds = some d →
  ∀ Q : VK, (∀ m' H' v, Le m H m' H' → Cor B m' S → Rep B m' d v → Q v H') → r x xs H Q
def mBMs (g : Sto → D → List D → Option D) (o : ME) (r : MA) : ME := fun en S => (o en S).bind fun x S1 => match x with
  | .str z => (r en S1).bind fun xs S2 => match g S2 (.str z) xs with
    | some d => .ok d S2
    | none => .bad
  | _ => .bad
theorem de_bms {X : Cx} {B : Bas} {W : WX} {o e : Expr} {es : List Expr} {name : Str} {id : String} {apos cpos : Pos} {r : V → List V → Hp → VK → Prop} {g : Sto → D → List D → Option D} {mo : ME} {mr : MA}
    (slot : Slot "str" name id) (hty : typeOf (.builtin id) = pure (.type "method_descriptor")) (hm : MtR X id r) (h : OpM B r g) (ho : PE X o (tE B W mo)) (ha : PA X (e :: es) (tA B W mr))
    (hbase : attributeBase o name X.env (eval o X.env) = eval o X.env := by rfl)
    (hfew : ((backTo cpos (starEach (e :: es) X.env)).all (fun x => !x.1) && (backToKw cpos (keywordEach [] X.env)).all (fun x => x.1.isSome)
      && decide ((e :: es).length + ([] : List Keyword).length + (if ([] : List Keyword).isEmpty then 0 else 1) < 30)) = true := by rfl)
    (hline : (apos.endLine == cpos.line) = true := by rfl) (hs : starEach (e :: es) X.env = (false, eval e X.env) :: starEach es X.env := by rfl) (hplain : (backTo cpos (starEach es X.env)).any (·.1) = false := by rfl) :
    PE X (.Call (.Attribute o name apos) (e :: es) [] cpos) (tE B W (mBMs g mo mr)) :=
  PE.cut (pe_bm PySem.F.plainAttrs_str slot hty hm ho ha hbase hfew hline hs hplain) fun σ H Q ⟨m, S, en, s, c, er, p⟩ => ⟨m, S, en, s, c, er, (Post.bind p).imp (by
    rintro v H1 ⟨d, S1, m1, _, l1, c1, r1, p1⟩
    cases d with
    | str z =>
      have ev := r1.str_eq
      subst ev
      refine ⟨rfl, m1, S1, en, l1.sub, c1, er.mono l1, (Post.bind p1).imp ?_⟩
      rintro xs H2 ⟨ds, S2, m2, _, l2, c2, r2, p2⟩
      cases hg : g S2 (.str z) ds with
      | none => rw [hg] at p2; exact p2.elim
      | some d => rw [hg] at p2; exact h m2 S2 H2 _ xs _ d ds l2.sub c2 (r1.mono l2) r2 hg Q p2
    | _ => exact p1.elim)⟩
theorem Reps.strs {B : Bas} {m : Mp} : ∀ (ys : List Str), Reps B m (ys.map .str) (ys.map V.str)
  | [] => Reps.nil
  | y :: ys => Reps.cons (rp_str m) (Reps.strs ys)
def dSplit (_ : Sto) : D → List D → Option D
  | .str a, [.str b] => if (b.length == 0) = false ∧ a.length + 2 ≤ sizeLine then some (.lst ((Txt.split a b).map .str)) else none
  | _, _ => none
def rSplit : V → List V → Hp → VK → Prop := fun x xs H Q => ∃ a b, x = .str a ∧ xs = [.str b] ∧ (b.length == 0) = false ∧ a.length + 2 ≤ sizeLine ∧ rNewStrs (Txt.split a b) H Q
theorem opm_split {B : Bas} : OpM B rSplit dSplit := fun m S H x xs d0 d ds s c r0 r e Q q => by
  unfold dSplit at e
  split at e
  · split at e
    · rename_i a b hh
      cases e
      obtain ⟨v, rfl, rv⟩ := r.one
      exact ⟨a, b, r0.str_eq, by rw [rv.str_eq], hh.1, hh.2, fun p hp => q_lst s c q (Reps.strs _) p hp⟩
    · cases e
  · cases e
def strsD : List D → Option (List Str)
  | [] => some []
  | .str b :: r => (strsD r).map (b :: ·)
  | _ => none
theorem strs_reps {B : Bas} {m : Mp} : ∀ {ds : List D} {vs : List V} {bs : List Str}, Reps B m ds vs → strsD ds = some bs → vs = bs.map V.str
  | [], vs, bs, r, h => by
    simp only [Reps] at r
    cases h
    exact r
  | d :: ds, vs, bs, r, h => by
    cases d with
    | str b =>
      simp only [strsD] at h
      simp only [Reps] at r
      obtain ⟨v, t, rfl, rv, rt⟩ := r
      cases h2 : strsD ds with
      | none => rw [h2] at h; cases h
      | some cs =>
        rw [h2] at h
        cases h
        rw [rv.str_eq, strs_reps rt h2]
        rfl
    | _ => cases h
def dJoin (S : Sto) : D → List D → Option D
  | .str a, [x] => match (match seqL S x with | some ds => some ds | none => seqT x).bind strsD with
    | some ys => if (ys.map (·.length)).sum + ys.length * a.length ≤ 16777216 then some (.str (Txt.join a ys)) else none
    | none => none
  | _, _ => none
def rJoin (K : PySem.W.Frag) : V → List V → Hp → VK → Prop := fun x xs H Q => ∃ a p, ∃ ys : List Str, x = .str a ∧ xs = [.ref p] ∧ (SqL K H p (ys.map V.str) ∨ SqT K H p (ys.map V.str)) ∧ (ys.map (·.length)).sum + ys.length * a.length ≤ 16777216 ∧ Q (.str (Txt.join a ys)) H
theorem opm_join {B : Bas} : OpM B (rJoin B.K) dJoin := fun m S H x xs d0 d ds s c r0 r e Q q => by
  unfold dJoin at e
  split at e
  · rename_i a y
    obtain ⟨v, rfl, rv⟩ := r.one
    split at e
    · rename_i ys h1
      split at e
      · rename_i hl
        cases e
        cases h2 : seqL S y with
        | some zs =>
          rw [h2] at h1
          obtain ⟨q', vs, rfl, t, rs⟩ := repL s c rv h2
          have := strs_reps rs h1
          subst this
          exact ⟨a, q', ys, r0.str_eq, rfl, .inl t, hl, q_val s c q (rp_str m)⟩
        | none =>
          rw [h2] at h1
          cases h3 : seqT y with
          | none => rw [h3] at h1; cases h1
          | some zs =>
            rw [h3] at h1
            obtain ⟨q', vs, rfl, t, rs⟩ := repT s rv h3
            have := strs_reps rs h1
            subst this
            exact ⟨a, q', ys, r0.str_eq, rfl, .inr t, hl, q_val s c q (rp_str m)⟩
      · cases e
    · cases e
  · cases e
def fsAll : List ME → Str → En → Sto → Res D
  | [], acc, _, S => .ok (.str acc) S
  | m :: ms, acc, en, S => (m en S).bind fun d S1 => match d with
    | .str y => if (acc ++ y).length ≤ sizeLine then fsAll ms (acc ++ y) en S1 else .bad
    | _ => .bad
def mFs (ms : List ME) : ME := fun en S => fsAll ms Str.empty en S
inductive DJ (X : Cx) (B : Bas) (W : WX) : List Expr → List ME → Prop where
  | nil : DJ X B W [] []
  | cons {e : Expr} {m : ME} {es : List Expr} {ms : List ME} (h : PE X e (tE B W m)) (r : DJ X B W es ms) : DJ X B W (e :: es) (m :: ms)
def dRepl (y z : Str) (_ : Sto) : D → Option D
  | .str x => if x.length + (x.length + 1) * z.length ≤ 16777216 then some (.str (Txt.replace x y z)) else none
  | _ => none
section
variable {B : Bas} {m : Mp} {H : Hp} {S : Sto}
theorem Le.write {i : Nat} {o : HO} (c : Cor B m S) (s : Sub m H) (hi : i < m.n) : Le m H (m.put (m.mu i) o) (upd H (m.mu i) o) where
  le := Nat.le_refl _
  mu := fun _ _ => rfl
  keep := fun a u e q => ⟨by show upd m.Z (m.mu i) o a = _; rw [upd_ne (fun z => q i hi z.symm)]; exact e, q⟩
  fr0 := fun a u e q => by
    obtain ⟨w, hw⟩ := c.at hi
    have ne : a ≠ m.mu i := fun z => by rw [z, hw] at e; cases e
    exact ⟨by rw [upd_ne ne]; exact q, .inl <| by show upd m.Z (m.mu i) o a = _; rw [upd_ne ne]; exact e⟩
  sub := fun a u e => by
    by_cases ha : a = m.mu i
    · subst ha
      have e' : upd m.Z (m.mu i) o (m.mu i) = some u := e
      rw [upd_same] at e' ⊢
      exact e'
    · have e' : upd m.Z (m.mu i) o a = some u := e
      rw [upd_ne ha] at e' ⊢
      exact s a u e'
theorem Cor.write {i : Nat} {o : HO} {b : Ob} (c : Cor B m S) (s : Sub m H) (hi : i < m.n) (r : ObR B (m.put (m.mu i) o) (m.mu i) b) : Cor B (m.put (m.mu i) o) (S.set i b) where
  n := by rw [List.length_set]; exact c.n
  ob := fun j x e => by
    by_cases hj : i = j
    · subst hj
      rw [List.getElem?_set_self (by rw [← c.n]; exact hi)] at e
      cases e
      exact r
    · rw [List.getElem?_set_ne hj] at e
      have hm : j < m.n := by rw [c.n]; exact (List.getElem?_eq_some_iff.mp e).1
      refine (c.ob j x e).mono (Le.write (o := o) c s hi) ?_
      show upd m.Z (m.mu i) o (m.mu j) = _
      rw [upd_ne (fun z => hj (c.inj j i hm hi z).symm)]
  inj := c.inj
end
theorem Reps.setR {B : Bas} {m : Mp} {d : D} {v : V} (rv : Rep B m d v) : ∀ {ds : List D} {vs : List V} (i : Nat), Reps B m ds vs → Reps B m (ds.set i d) (vs.set i v)
  | [], vs, i, r => by
    simp only [Reps] at r
    subst r
    exact Reps.nil
  | x :: ds, vs, 0, r => by
    simp only [Reps] at r
    obtain ⟨y, t, rfl, ry, rt⟩ := r
    exact Reps.cons rv rt
  | x :: ds, vs, i + 1, r => by
    simp only [Reps] at r
    obtain ⟨y, t, rfl, ry, rt⟩ := r
    exact Reps.cons ry (Reps.setR rv i rt)
def sIx (o k e : ME) : MS := fun en S => (e en S).bind fun d S1 => (o en S1).bind fun x S2 => (k en S2).bind fun y S3 => match x, y with
  | .ref i, .int n => match S3[i]? with
    | some (.lst ds) => match ixN ds.length n with
      | some j => .ok (.nx en) (S3.set i (.lst (ds.set j d)))
      | none => .bad
    | _ => .bad
  | _, _ => .bad
theorem ds_ix {X : Cx} {B : Bas} {W : WX} {o k e : Expr} {p1 pos : Pos} {mo mk me : ME} (ho : PE X o (tE B W mo)) (hk : PE X k (tE B W mk)) (he : PE X e (tE B W me)) (hg : PG X (.Subscript o k p1) (gSub (tE B W mo) (tE B W mk) rSetL))
    (hs : swapsWithSole [.Subscript o k p1] e pos.line X.env = pure false := by rfl) (hw : swappedStores [.Subscript o k p1] e X.env = pure none := by rfl)
    (h1 : (assignEach [.Subscript o k p1] X.env).map (·.2) = [assign (.Subscript o k p1) X.env] := by rfl) : PS X (.Assign [.Subscript o k p1] e pos) (tS B W (sIx mo mk me)) :=
  PS.cut (ps_asg he hg hs hw h1) fun D σ H ⟨m, S, en, s, c, er, p⟩ => ⟨m, S, en, s, c, er, (Post.bind p).imp (by
    rintro v H1 ⟨d, S1, m1, _, l1, c1, r1, p1⟩
    refine ⟨m1, S1, en, l1.sub, c1, er.mono l1, (Post.bind p1).imp ?_⟩
    rintro u H2 ⟨x, S2, m2, _, l2, c2, r2, p2⟩
    refine ⟨m2, S2, en, l2.sub, c2, (er.mono l1).mono l2, (Post.bind p2).imp ?_⟩
    rintro w H3 ⟨y, S3, m3, _, l3, c3, r3, p3⟩
    split at p3
    · rename_i i n _ _
      split at p3
      · rename_i ds hx
        split at p3
        · rename_i j hj
          have r2' := r2.mono l3
          simp only [Rep] at r2'
          obtain ⟨hi, rfl⟩ := r2'
          obtain ⟨vs, z, rs⟩ := c3.ob _ _ hx
          have l4 := Le.write (o := .lst (vs.set j v)) c3 l3.sub hi
          have rv := ((r1.mono l2).mono l3).mono l4
          refine ⟨m3.mu i, vs, n, j, rfl, r3.int_eq, l3.sub _ _ z, by rw [← rs.length]; exact hj, ?_⟩
          exact p3 _ _ (.nx σ) l4 (Cor.write c3 l3.sub hi ⟨_, upd_same, Reps.setR rv j (rs.mono l4)⟩) (((er.mono l1).mono l2).mono l3 |>.mono l4)
        · exact p3.elim
      · exact p3.elim
    · exact p3.elim)⟩
def sApp (o e : ME) : MS := fun en S => (o en S).bind fun x S1 => match x with
  | .ref i => match S1[i]? with
    | some (.lst _) => (e en S1).bind fun d S2 => match S2[i]? with
      | some (.lst ds) => if ds.length < sizeLine then .ok (.nx en) (S2.set i (.lst (ds ++ [d]))) else .bad
      | _ => .bad
    | _ => .bad
  | _ => .bad
def sExt (o e : ME) : MS := fun en S => (o en S).bind fun x S1 => match x with
  | .ref i => match S1[i]? with
    | some (.lst _) => (e en S1).bind fun d S2 => match S2[i]?, d with
      | some (.lst ds), .lst es => if ds.length + es.length ≤ sizeLine then .ok (.nx en) (S2.set i (.lst (ds ++ es))) else .bad
      | _, _ => .bad
    | _ => .bad
  | _ => .bad
section
variable {X : Cx} {B : Bas} {W : WX} {o e : Expr} {apos cpos pos : Pos} {mo me : ME}
end
end G
end
section
namespace G
open PySem L2
def rRepr (K : PySem.W.Frag) : List V → Hp → VK → Prop := fun xs H Q => ∃ x p, xs = [x] ∧ Dp K H x p ∧ SeqAt.shaped p = true ∧ p.showable = true ∧ p.shown.length ≤ sizeLine ∧ Q (.str p.shown) H
theorem call_reprD {X : Cx} (hg : X.A.guards = some []) (hu : X.A.units + 66 < cLine) : CallR X (.builtin "repr") (rRepr X.K) := by
  intro pins s σ H xs us Q I r h
  obtain ⟨x, p, rfl, hp, sp, sh, hl, q⟩ := h
  obtain ⟨u, rfl, ru⟩ := vals1 r
  obtain ⟨as, rd⟩ := Dp.reads I p x u hp ru
  have hd := SeqAt.depth_of_shaped sp
  cases hp with
  | non =>
    cases (show u = Value.none from ru)
    exact PySem.P.repr_of_none ⟨.str _, H, I.tok _, ⟨_, rfl⟩, by simpa [PyData.shown] using q⟩
  | bl b =>
    cases (show u = Value.bool b from ru)
    exact PySem.P.repr_of_bool ⟨.str _, H, I.tok _, ⟨_, rfl⟩, by cases b <;> simpa [PyData.shown] using q⟩
  | int i =>
    obtain ⟨t, rfl⟩ := ru
    have hi : i.natAbs.log2 < 1920 := by simpa [PyData.showable] using sh
    exact PySem.P.repr_of_int hi ⟨.str _, H, I.tok _, ⟨_, rfl⟩, by simpa [PyData.shown] using q⟩
  | str z =>
    obtain ⟨t, rfl⟩ := ru
    exact PySem.P.repr_of_str ⟨.str _, H, I.tok _, ⟨_, rfl⟩, by simpa [PyData.shown] using q⟩ (by simpa [PyData.shown] using hl)
  | lst hs ha =>
    cases ru
    exact repr_of_reads' rd sh (PyData.noDict_hsm (PyData.hasDict_of_canLay _ (SeqAt.canLay_of_shaped sp))) hg (by omega) (fun _ _ e => e) (fun h' u tk hk => ⟨.str _, H, I.kept hk, ⟨_, rfl⟩, q⟩) hl
  | tup hs ha =>
    cases ru
    exact repr_of_reads' rd sh (PyData.noDict_hsm (PyData.hasDict_of_canLay _ (SeqAt.canLay_of_shaped sp))) hg (by omega) (fun _ _ e => e) (fun h' u tk hk => ⟨.str _, H, I.kept hk, ⟨_, rfl⟩, q⟩) hl
def reprOk (p : PyData) : Prop := SeqAt.shaped p = true ∧ p.showable = true ∧ p.shown.length ≤ sizeLine
instance (p : PyData) : Decidable (reprOk p) := by unfold reprOk; exact inferInstance
def dRepr (S : Sto) : List D → Option D
  | [x] => match pdv S x with
    | some p => if reprOk p then some (.str p.shown) else none
    | none => none
  | _ => none
theorem opn_repr {B : Bas} : OpN B (rRepr B.K) dRepr := fun m S H xs ds d s c r e Q q => by
  unfold dRepr at e
  split at e
  · rename_i x
    obtain ⟨v, rfl, rv⟩ := r.one
    split at e
    · rename_i p hp
      split at e
      · rename_i ok
        cases e
        exact ⟨v, p, rfl, rv.dpv s c hp, ok.1, ok.2.1, ok.2.2, q_val s c q (rp_str m)⟩
      · cases e
    · cases e
  · cases e
structure FnG (P : Program) (w : World) (K : PySem.W.Frag) (mg : Str → Option Value) (base : Heap) (CX : CXT) (k : Nat) (f : Addr) (fd : FuncData) (ps : List Str) (sp : Sp) : Prop where
  len : ∀ vs H Q E, sp vs H Q E → vs.length = ps.length
  run : ∀ (A : Around) (outer : List Env) (s : Shared) (H : Hp) (args : Args) (us : List Value) (vs : List V) (Q : VK) (E : XK), A.guards = some [] → Room k A → Env0 P w K mg base A outer s H → BindsTo s fd args (ps.zip us) → Vals vs us → sp vs H Q E →
    codeAny (model P w) A (.call (.ref f) args) (CR CX outer P w H s Q E) s
theorem fnG_ok {P : Program} {w : World} {K : PySem.W.Frag} {mg : Str → Option Value} {base : Heap} {B : Bas} {x qual : Str} {st : Stmt} {f : Addr} {fd : FuncData} {N ps : List Str} {k n : Nat} {ms : MS} (F : Fun K x qual st f fd) (S : FnScope N ps (defScope st)) (hn : n = ps.length)
    (hbody : ∀ (cdv : Value) (A : Around) (outer : List Env) (s : Shared) (H : Hp) (E : XK), (A.deeper (PyProof.Rows.envOfC qual (defScope st) s.heap.objs.size f cdv)).guards = some [] → Room k (A.deeper (PyProof.Rows.envOfC qual (defScope st) s.heap.objs.size f cdv)) →
      PSs (cxOf (L2.CX P w) P w K mg base N qual (defScope st) f cdv A outer s H E) (defBody st) (tS B (WE0 E) ms)) : FnG P w K mg base (L2.CX P w) (k + 1) f fd ps (spF B (fnB n N.length ms)) := by
  obtain ⟨oc, od, kV, doc, pm, an, cdv, ct, osl, rfl, lk, hcd⟩ := F.ex
  refine ⟨spF_len hn, fun A outer s H args us vs Q E hg hr e0 hb r hsp => ?_⟩
  have KX : K.In s.heap := e0.mod.kin.keeps fun b o e => (e0.bs b o e).1
  have lim : s.heap.NoLimit := e0.mod.nolimit.keeps fun b o e => (e0.bs b o e).1
  have hkind : ∀ y ∈ ps.zip us, (defScope st).names.lookup y.1 = some .local ∨ ((defScope st).names.lookup y.1 = some .cell ∧ ((cellsFrom (s.heap.objs.size + 1) (defScope st).names []).lookup y.1).isSome = true) := fun y hy =>
    (S.par y.1 (List.of_mem_zip (show (y.1, y.2) ∈ ps.zip us from hy)).1).imp id fun q => ⟨q, PySem.W.cellsFrom_some _ _ _ (.inl q)⟩
  refine codeAny_call_function hr.depth (KX _ _ lk) rfl S.co S.gen rfl (PySem.W.codeRec_of KX hcd) (hb _ _ _ _ (wpAny_newFunctionEnv_cells S.kind hkind fun env he s1 x => ?_))
  subst he
  refine ⟨lim.keeps x.toInCall.keep, codeAny_func ?_⟩
  have I := inv_start (CX := L2.CX P w) (N := N) (E := E) S hr.hd e0 (spF_len hn _ _ _ _ hsp) r x
  refine wpAny_mono ((hbody cdv A outer s H E hg (hr.deeper _)).run [] s1 _ H _ I (fn_body hsp)) (fun fl s' hs => ?_) fun e s' hs => hs
  cases fl with
  | ret u =>
    obtain ⟨v, σ', H', J, rv, q⟩ := hs
    exact ⟨v, H', J.os, J.bare, J.base, J.hok, rv, q⟩
  | next =>
    obtain ⟨σ', H', J, q⟩ := hs
    exact ⟨.non, H', J.os, J.bare, J.base, J.hok, rfl, q⟩
  | brk =>
    obtain ⟨_, _, _, q⟩ := hs
    exact q.elim
  | cont =>
    obtain ⟨_, _, _, q⟩ := hs
    exact q.elim
theorem lawG_call {P : Program} {w : World} {K : PySem.W.Frag} {mg mb : Str → Option Value} {CX : CXT} {k : Nat} {fa a : Addr} {fd : FuncData} {x : Str} {sp : Sp} {s1 : Shared} {vs : List Value} {ns : List Int}
    (KX : K.In s1.heap) (hns : s1.heap.Ns mainGlobals mg) (hb : s1.heap.Ns builtinsNs mb) (hbb : ∀ x : Str, x ≠ "__name__" → mb x = bootBuiltins x) (hlim : s1.heap.NoLimit) (hg : s1.gens = #[])
    (ha : s1.heap.get? a = some { cls := .type "list", data := .seq vs.toArray }) (hi : PyProof.Rows.IntsAre vs ns) (hl : ns.length ≤ sizeLine) (hr : Room k callerA)
    (F : ∀ base : Heap, K.In base → base.Ns mainGlobals mg → FnG P w K mg base CX k fa fd [x] sp) (hbind : ∀ (s : Shared) (u : Value), BindsTo s fd ⟨[u], []⟩ [(x, u)])
    (hsp : ∀ H : Hp, L2.Only H → SqL K H a (ns.map V.int) → sp [.ref a] H (fun v _ => v = .bl true) fun _ _ _ => False)
    (hCX : ∀ H e s', CX [] H s1 (fun _ _ _ => False) e s' → False) :
    codeAny (model P w) callerA (.call (.ref fa) ⟨[.ref a], []⟩) (fun r s' => r = .ok (.ret (.bool true)) ∧ OldK s1.heap s'.heap ∧ s'.os = s1.os ∧ PyProof.Rows.AllBare s'.gens) s1 := by
  have rv := vals_ints hi
  have lenV := hi.length
  -- H: nothing, or the script alone
  suffices core : ∀ H : Hp, L2.Only H → SqL K H a (ns.map V.int) → HOk P w H s1.heap → (∀ b u, H b = some u → b = a ∧ K.lookup a = none) →
      codeAny (model P w) callerA (.call (.ref fa) ⟨[.ref a], []⟩) (fun r s' => r = .ok (.ret (.bool true)) ∧ OldK s1.heap s'.heap ∧ s'.os = s1.os ∧ PyProof.Rows.AllBare s'.gens) s1 by
    by_cases hk : ∃ o, K.lookup a = some o
    · obtain ⟨o, hk⟩ := hk
      have e := KX a o hk
      rw [ha] at e
      cases e
      exact core (fun _ => none) (fun _ => .inl rfl) (.inr ⟨_, vs.toArray, _, hk, rfl, rfl, rfl, by rw [List.size_toArray, lenV]; exact hl, by simpa using rv⟩) (fun b u z => nomatch z) (fun b u z => nomatch z)
    · have hkn : K.lookup a = none := by
        cases e : K.lookup a with
        | none => rfl
        | some o => exact absurd ⟨o, e⟩ hk
      have at_a : upd (fun _ => none) a (.frz { cls := .type "list", data := .seq vs.toArray } (.lst (ns.map V.int))) a = some (.frz { cls := .type "list", data := .seq vs.toArray } (.lst (ns.map V.int))) := upd_same
      refine core (upd (fun _ => none) a (.frz { cls := .type "list", data := .seq vs.toArray } (.lst (ns.map V.int)))) (fun b => ?_) (.inl (.inr ⟨_, at_a⟩)) (fun b u z => ?_) fun b u z => ⟨?_, hkn⟩
      · by_cases e : b = a
        · exact .inr ⟨_, _, by rw [e]; exact at_a⟩
        · exact .inl (upd_ne e)
      · by_cases e : b = a
        · subst e
          rw [at_a] at z
          cases z
          exact ⟨ha, by rw [List.length_map]; exact hl, vs, _, rv, ha⟩
        · rw [upd_ne e] at z; cases z
      · by_cases e : b = a
        · exact e
        · rw [upd_ne e] at z; cases z
  intro H hO hS hok hA
  have nodict : ∀ {b : Addr} {o : Obj} {es : Array DictEntry} {ep : Nat}, s1.heap.get? b = some o → o.data = .dict es ep → H b = none := fun {b o es ep} e d => by
    cases q : H b with
    | none => rfl
    | some u =>
      rw [(hA b u q).1, ha] at e
      cases e
      cases d
  have nsK : ∀ {b : Addr} {mm : Str → Option Value}, s1.heap.Ns b mm → (hidT s1.heap H).Ns b mm := fun {b mm} ⟨o, es, ep, e, d, r⟩ => ⟨o, es, ep, hidT_get e (nodict e d), d, r⟩
  have hKb : K.In (hidT s1.heap H) := fun b o e => hidT_get (KX b o e) (by
    cases q : H b with
    | none => rfl
    | some u =>
      obtain ⟨z, zn⟩ := hA b u q
      rw [z, zn] at e
      cases e)
  have e0 : Env0 P w K mg (hidT s1.heap H) callerA [] s1 H :=
    ⟨rfl, ⟨hKb, nsK hns, ⟨mb, nsK hb, hbb⟩, let ⟨mc, h1, h2⟩ := hlim; ⟨mc, nsK h1, h2⟩⟩, fun b o e => of_hidT e, Nat.le_of_eq (hidT_size _ _), trivial, fun b z => absurd (show b ∈ ([] : List Addr) from z) (by simp), hok, .of_eq hg⟩
  refine codeAny_mono ((F _ hKb (nsK hns)).run callerA [] s1 H ⟨[.ref a], []⟩ [.ref a] [.ref a] _ _ rfl hr e0 (hbind s1 (.ref a)) (.cons rfl .nil) (hsp H hO hS)) fun r s' h => ?_
  match r, h with
  | .error e, h => exact (hCX H e s' h).elim
  | .ok (.ret u), h =>
    obtain ⟨v, H', os, bare, un, hok', r', q⟩ := h
    have q' : v = .bl true := q
    subst q'
    obtain rfl : u = Value.bool true := r'
    refine ⟨rfl, OldK.of_keep fun b o e => ?_, os, bare⟩
    cases q : H b with
    | none => exact un.keep b o e q (fun z => absurd (show b ∈ ([] : List Addr) from z) (by simp)) (by simp)
    | some u =>
      rcases hO b with z | ⟨ob, xs, z⟩
      · rw [q] at z; cases z
      · obtain ⟨e1, _⟩ := hok b _ z
        obtain ⟨e2, _⟩ := hok' b _ (un.frzs b ob _ z)
        rw [e] at e1
        cases e1
        exact e2
theorem walkG {l : PySem.W.OpenLaw} {n k : Nat} {q : Program} {loose : List Str} {XP : (Str → Option Value) → Heap → Prop} {YP : World → Heap → Prop} {d : DefRec} {CX : World → CXT} {x : Str}
    (hn : l.most = some n) (hn2 : n ≤ sizeLine) (hdf : d.params.defaults = []) (hr : Room k callerA)
    (F : ∀ (w : World) (mg : Str → Option Value) (fa : Addr) (h : Heap), YP w h → h.Ns mainGlobals mg → mg d.name = some (.ref fa) →
      ∃ (K : PySem.W.Frag) (fd : FuncData) (sp : Sp), K.In h ∧ (∀ (s : Shared) (u : Value), BindsTo s fd ⟨[u], []⟩ [(x, u)]) ∧
        (∀ (H : Hp) (a : Addr) (ns : List Int), ns.length ≤ n → L2.Only H → SqL K H a (ns.map V.int) → sp [.ref a] H (fun v _ => v = .bl true) fun _ _ _ => False) ∧
        ∀ base : Heap, K.In base → base.Ns mainGlobals mg → FnG l.prog w K mg base (CX w) k fa fd [x] sp)
    (hCX : ∀ (w : World) (H : Hp) (s : Shared) (e : Value) (s' : Shared), CX w [] H s (fun _ _ _ => False) e s' → False) :
    PySem.W.WalkO q loose XP YP l.row.toRowW d [] (fun f vs => PySem.call f vs) := by
  refine Att.attach_call hn hdf fun w s0 s1 mg mb fa o pm cd doc a vs ns G Y ho hd hcd hmg hobj hints hlen hg => ?_
  obtain ⟨K, fd, sp, KX, hb, hsp, hF⟩ := F w mg fa _ Y G.T.g hmg
  exact lawG_call KX G.T.g G.T.b G.T.builtins G.T.nolimit hg hobj hints (Nat.le_trans hlen hn2) hr hF hb (fun H hO hS => hsp H a ns hlen hO hS) fun H e s' => hCX w H s1 e s'
theorem law_sp {B : Bas} {F : Fn} {H : Hp} {a : Addr} {ns : List Int} (hn : F.n = 1) (hO : L2.Only H) (hS : SqL B.K H a (ns.map V.int)) (h : ∃ S, F.run [.scr (ns.map .int)] [] = .ok (.bl true) S) : spF B F [.ref a] H (fun v _ => v = .bl true) fun _ _ _ => False := by
  obtain ⟨S, h⟩ := h
  have ri : ∀ (m : Mp) (l : List Int), Reps B m (l.map .int) (l.map V.int) := fun m l => by
    induction l with
    | nil => exact Reps.nil
    | cons i r ih => exact Reps.cons (rp_int m) ih
  refine ⟨⟨fun _ => 0, 0, H⟩, [], [.scr (ns.map .int)], fun _ _ e => e, ⟨rfl, fun i o e => by simp at e, fun i j hi => absurd hi (Nat.not_lt_zero _)⟩, Reps.cons ?_ Reps.nil, hn.symm, ?_⟩
  · simp only [Rep]
    refine ⟨a, ns.map V.int, rfl, ?_, ri _ ns⟩
    rcases hS with hS | hS
    · exact .inl ⟨hS, fun i hi => absurd hi (Nat.not_lt_zero _)⟩
    · exact .inr (.inr hS)
  · rw [h]
    exact fun m' H' v _ _ r => r.bl_eq
end G
end
section
namespace G
open PySem L2
section
variable {B : Bas}
theorem op2_sub : Op2 B (rI0 fun i j => .int (i - j)) dSub := op2_I0
theorem op2_div : Op2 B (rI CDiv fun i j => .int (i / j)) dDiv := op2_I
theorem op2_mod : Op2 B (rI (fun _ j => 0 < j) fun i j => .int (i % j)) dMod := op2_I
theorem op2_pow : Op2 B (rI CPow fun i j => .int (i ^ j.toNat)) dPow := op2_I
theorem op2_gt0 : Op2 B (rI0 fun i j => .bl (decide (j < i))) dGt0 := op2_B0
theorem op2_ge0 : Op2 B (rI0 fun i j => .bl (decide (j ≤ i))) dGe0 := op2_B0
end
theorem hu64 {A : Around} {k : Nat} (hr : Room k A) : A.units + 64 < cLine := by have := hr.un; omega
theorem hu65 {A : Around} {k : Nat} (hr : Room k A) : A.units + 65 < cLine := by have := hr.un; omega
theorem hu66 {A : Around} {k : Nat} (hr : Room k A) : A.units + 66 < cLine := by have := hr.un; omega
def Cal (P : Program) (w : World) (K : PySem.W.Frag) (mg : Str → Option Value) (base : Heap) (B : Bas) (x : Str) (k : Nat) (F : Fn) : Prop :=
  ∃ (f : Addr) (fd : FuncData) (ps : List Str), FnOk P w K mg base (L2.CX P w) k f fd ps (spF B F) ∧ mg x = some (.ref f) ∧ PySem.W.keepIn K (.ref f) = true ∧ Binds K fd ps []
section
variable {X : Cx} {B : Bas} {W : WX} {e : Expr} {es : List Expr} {pos p : Pos} {mr : MA} {x : Str}
theorem de_fn {k j : Nat} {F : Fn} (c : Cal X.prog X.w X.K X.mg X.base B x k F) (hr : Room j X.A) (hk : k ≤ j) (tk : Takes X W) (ha : PA X (e :: es) (tA B W mr)) (hg : Gl X x := by rfl) (hdb : (x == ("__debug__" : Str)) = false := by decide)
    (he : starEach (e :: es) X.env = (false, eval e X.env) :: starEach es X.env := by rfl) (hpl : (backTo pos (starEach es X.env)).any (·.1) = false := by rfl) : PE X (.Call (.Name x p) (e :: es) [] pos) (tE B W (mCall F mr)) := by
  obtain ⟨f, fd, ps, h1, h2, h3, h4⟩ := c
  exact de_call h1 (hr.mono hk) tk h2 h3 h4 ha hg hdb he hpl
theorem de_tup {k : Nat} (ha : PA X es (tA B W mr)) : PE X (.Tuple es k pos) (tE B W (mTup mr)) := PE.cut (pe_tup ha) tTup_of
theorem de_lst (ha : PA X es (tA B W mr)) : PE X (.List es pos) (tE B W (mLst mr)) := PE.cut (pe_lst ha) tLst_of
theorem de_new (ha : PA X es (tA B W mr)) : PE X (.List es pos) (tE B W (mNew mr)) := PE.cut (pe_lst ha) tNew_of
theorem de_gint {i : Int} (h : ∃ t, X.mg x = some (.int i t)) (hg : Gl X x := by rfl) (hd : (x == ("__debug__" : Str)) = false := by decide) : PE X (.Name x pos) (tE B W (mC (.int i))) := by
  obtain ⟨t, h⟩ := h
  exact de_c (pe_glob hg h (v := .int i) ⟨t, rfl⟩ hd) rp_int
theorem de_gstr {z : Str} (h : ∃ t, X.mg x = some (.str z t)) (hg : Gl X x := by rfl) (hd : (x == ("__debug__" : Str)) = false := by decide) : PE X (.Name x pos) (tE B W (mC (.str z))) := by
  obtain ⟨t, h⟩ := h
  exact de_c (pe_glob hg h (v := .str z) ⟨t, rfl⟩ hd) rp_str
end
theorem toFun {K : PySem.W.Frag} {x qual : Str} {st : Stmt} {f : Addr} {fd : FuncData} (F : FunD K x qual (defArgs st) (defBody st) (defScope st) [] [] f fd) : Fun K x qual st f fd := by
  obtain ⟨oc, od, dV, kV, doc, pm, an, cdv, ct, osl, e, lk, hcd, hD, _⟩ := F.ex
  rcases hD with ⟨_, rfl⟩ | ⟨z, _⟩
  · exact ⟨⟨oc, od, kV, doc, pm, an, cdv, ct, osl, e, lk, hcd⟩, F.kp⟩
  · exact absurd rfl z
theorem noCX {P : Program} {w : World} {H : Hp} {s : Shared} {e : Value} {s' : Shared} (h : L2.CX P w [] H s (fun _ _ _ => False) e s') : False := by
  obtain ⟨_, _, _, _, _, _, _, _, _, _, _, _, z⟩ := h
  exact z
end G
end
section
namespace G
open PySem L2
def optR (o : Option D) (S : Sto) : Res D := match o with
  | some d => .ok d S
  | none => .bad
@[simp] theorem optR_some (d : D) (S : Sto) : optR (some d) S = .ok d S := rfl
@[simp] theorem optR_none (S : Sto) : optR none S = .bad := rfl
def varR (o : Option (Option D)) (S : Sto) : Res D := match o with
  | some (some d) => .ok d S
  | _ => .bad
@[simp] theorem varR_some (d : D) (S : Sto) : varR (some (some d)) S = .ok d S := rfl
@[simp] theorem mVar_ap (i : Nat) (en : En) (S : Sto) : mVar i en S = varR en[i]? S := rfl
@[simp] theorem mC_ap (d : D) (en : En) (S : Sto) : mC d en S = .ok d S := rfl
def opK2 (g : Sto → D → D → Option D) (x : D) (y : D) (S : Sto) : Res D := optR (g S x y) S
def opK1 (g : Sto → D → D → Option D) (b : ME) (en : En) (x : D) (S : Sto) : Res D := (b en S).bind (opK2 g x)
theorem mOp_ap (g : Sto → D → D → Option D) (a b : ME) (en : En) (S : Sto) : mOp g a b en S = (a en S).bind (opK1 g b en) := rfl
theorem opK1_ap (g : Sto → D → D → Option D) (b : ME) (en : En) (x : D) (S : Sto) : opK1 g b en x S = (b en S).bind (opK2 g x) := rfl
theorem opK2_ap (g : Sto → D → D → Option D) (x y : D) (S : Sto) : opK2 g x y S = optR (g S x y) S := rfl
def unK (g : Sto → D → Option D) (x : D) (S : Sto) : Res D := optR (g S x) S
theorem mUn_ap (g : Sto → D → Option D) (a : ME) (en : En) (S : Sto) : mUn g a en S = (a en S).bind (unK g) := rfl
theorem unK_ap (g : Sto → D → Option D) (x : D) (S : Sto) : unK g x S = optR (g S x) S := rfl
def testK (x : D) (S : Sto) : Res Bool := match x with
  | .bl k => .ok k S
  | _ => .bad
theorem mTest_ap (a : ME) (en : En) (S : Sto) : mTest a en S = (a en S).bind testK := rfl
theorem testK_bl (k : Bool) (S : Sto) : testK (.bl k) S = .ok k S := rfl
def andK (b : MT) (en : En) (k : Bool) (S : Sto) : Res Bool := match k with
  | true => b en S
  | false => .ok false S
theorem mAnd_ap (a b : MT) (en : En) (S : Sto) : mAnd a b en S = (a en S).bind (andK b en) := rfl
theorem andK_t (b : MT) (en : En) (S : Sto) : andK b en true S = b en S := rfl
theorem andK_f (b : MT) (en : En) (S : Sto) : andK b en false S = .ok false S := rfl
def orK (b : MT) (en : En) (k : Bool) (S : Sto) : Res Bool := match k with
  | true => .ok true S
  | false => b en S
theorem mOr_ap (a b : MT) (en : En) (S : Sto) : mOr a b en S = (a en S).bind (orK b en) := rfl
theorem orK_t (b : MT) (en : En) (S : Sto) : orK b en true S = .ok true S := rfl
theorem orK_f (b : MT) (en : En) (S : Sto) : orK b en false S = b en S := rfl
def notK (k : Bool) (S : Sto) : Res Bool := .ok (!k) S
theorem mNot_ap (a : MT) (en : En) (S : Sto) : mNot a en S = (a en S).bind notK := rfl
theorem notK_ap (k : Bool) (S : Sto) : notK k S = .ok (!k) S := rfl
def ifK (a b : ME) (en : En) (k : Bool) (S : Sto) : Res D := match k with
  | true => a en S
  | false => b en S
theorem mIf_ap (t : MT) (a b : ME) (en : En) (S : Sto) : mIf t a b en S = (t en S).bind (ifK a b en) := rfl
theorem ifK_t (a b : ME) (en : En) (S : Sto) : ifK a b en true S = a en S := rfl
theorem ifK_f (a b : ME) (en : En) (S : Sto) : ifK a b en false S = b en S := rfl
def andVK (b : ME) (en : En) (x : D) (S : Sto) : Res D := match x with
  | .bl true => b en S
  | .bl false => .ok (.bl false) S
  | _ => .bad
theorem mAndV_ap (a b : ME) (en : En) (S : Sto) : mAndV a b en S = (a en S).bind (andVK b en) := rfl
theorem andVK_t (b : ME) (en : En) (S : Sto) : andVK b en (.bl true) S = b en S := rfl
theorem andVK_f (b : ME) (en : En) (S : Sto) : andVK b en (.bl false) S = .ok (.bl false) S := rfl
def orVK (b : ME) (en : En) (x : D) (S : Sto) : Res D := match x with
  | .bl true => .ok (.bl true) S
  | .bl false => b en S
  | _ => .bad
theorem mOrV_ap (a b : ME) (en : En) (S : Sto) : mOrV a b en S = (a en S).bind (orVK b en) := rfl
theorem orVK_t (b : ME) (en : En) (S : Sto) : orVK b en (.bl true) S = .ok (.bl true) S := rfl
theorem orVK_f (b : ME) (en : En) (S : Sto) : orVK b en (.bl false) S = b en S := rfl
def notVK (x : D) (S : Sto) : Res D := match x with
  | .bl k => .ok (.bl (!k)) S
  | _ => .bad
theorem mNotV_ap (a : ME) (en : En) (S : Sto) : mNotV a en S = (a en S).bind notVK := rfl
theorem notVK_bl (k : Bool) (S : Sto) : notVK (.bl k) S = .ok (.bl (!k)) S := rfl
theorem aNil_ap (en : En) (S : Sto) : aNil en S = .ok [] S := rfl
def consK2 (x : D) (xs : List D) (S : Sto) : Res (List D) := .ok (x :: xs) S
def consK1 (r : MA) (en : En) (x : D) (S : Sto) : Res (List D) := (r en S).bind (consK2 x)
theorem aCons_ap (a : ME) (r : MA) (en : En) (S : Sto) : aCons a r en S = (a en S).bind (consK1 r en) := rfl
theorem consK1_ap (r : MA) (en : En) (x : D) (S : Sto) : consK1 r en x S = (r en S).bind (consK2 x) := rfl
theorem consK2_ap (x : D) (xs : List D) (S : Sto) : consK2 x xs S = .ok (x :: xs) S := rfl
theorem sz_small {n : Nat} (h : n ≤ 1000000) : n ≤ sizeLine := Nat.le_trans h (by decide)
def tupK (xs : List D) (S : Sto) : Res D := if xs.length ≤ sizeLine then .ok (.tup xs) S else .bad
def lstK (xs : List D) (S : Sto) : Res D := if xs.length ≤ sizeLine then .ok (.lst xs) S else .bad
def newK (xs : List D) (S : Sto) : Res D := if xs.length ≤ sizeLine then .ok (.ref S.length) (S ++ [.lst xs]) else .bad
theorem mTup_ap (r : MA) (en : En) (S : Sto) : mTup r en S = (r en S).bind tupK := rfl
theorem mLst_ap (r : MA) (en : En) (S : Sto) : mLst r en S = (r en S).bind lstK := rfl
theorem mNew_ap (r : MA) (en : En) (S : Sto) : mNew r en S = (r en S).bind newK := rfl
theorem tupK_ok {xs : List D} {S : Sto} (h : xs.length ≤ 1000000) : tupK xs S = .ok (.tup xs) S := if_pos (sz_small h)
theorem lstK_ok {xs : List D} {S : Sto} (h : xs.length ≤ 1000000) : lstK xs S = .ok (.lst xs) S := if_pos (sz_small h)
theorem newK_ok {xs : List D} {S : Sto} (h : xs.length ≤ 1000000) : newK xs S = .ok (.ref S.length) (S ++ [.lst xs]) := if_pos (sz_small h)
def cbK (g : Sto → List D → Option D) (xs : List D) (S : Sto) : Res D := optR (g S xs) S
theorem mCB_ap (g : Sto → List D → Option D) (r : MA) (en : En) (S : Sto) : mCB g r en S = (r en S).bind (cbK g) := rfl
theorem cbK_ap (g : Sto → List D → Option D) (xs : List D) (S : Sto) : cbK g xs S = optR (g S xs) S := rfl
def callK (F : Fn) (ds : List D) (S : Sto) : Res D := if ds.length = F.n then F.run ds S else .bad
theorem mCall_ap (F : Fn) (r : MA) (en : En) (S : Sto) : mCall F r en S = (r en S).bind (callK F) := rfl
theorem callK_ok {F : Fn} {ds : List D} {S : Sto} (h : ds.length = F.n) : callK F ds S = F.run ds S := if_pos h
theorem sNil_ap (en : En) (S : Sto) : sNil en S = .ok (.nx en) S := rfl
def seqK (b : MS) (f : Fl) (S : Sto) : Res Fl := match f with
  | .nx en1 => b en1 S
  | .rt d => .ok (.rt d) S
  | .bk e => .ok (.bk e) S
  | .ct e => .ok (.ct e) S
theorem sSeq_ap (a b : MS) (en : En) (S : Sto) : sSeq a b en S = (a en S).bind (seqK b) := rfl
theorem seqK_nx (b : MS) (en : En) (S : Sto) : seqK b (.nx en) S = b en S := rfl
theorem seqK_rt (b : MS) (d : D) (S : Sto) : seqK b (.rt d) S = .ok (.rt d) S := rfl
theorem seqK_bk (b : MS) (d : En) (S : Sto) : seqK b (.bk d) S = .ok (.bk d) S := rfl
theorem seqK_ct (b : MS) (d : En) (S : Sto) : seqK b (.ct d) S = .ok (.ct d) S := rfl
def ifSK (a b : MS) (en : En) (k : Bool) (S : Sto) : Res Fl := match k with
  | true => a en S
  | false => b en S
theorem sIf_ap (t : MT) (a b : MS) (en : En) (S : Sto) : sIf t a b en S = (t en S).bind (ifSK a b en) := rfl
theorem ifSK_t (a b : MS) (en : En) (S : Sto) : ifSK a b en true S = a en S := rfl
theorem ifSK_f (a b : MS) (en : En) (S : Sto) : ifSK a b en false S = b en S := rfl
def retK (d : D) (S : Sto) : Res Fl := .ok (.rt d) S
theorem sRet_ap (e : ME) (en : En) (S : Sto) : sRet e en S = (e en S).bind retK := rfl
theorem retK_ap (d : D) (S : Sto) : retK d S = .ok (.rt d) S := rfl
theorem sRetN_ap (en : En) (S : Sto) : sRetN en S = .ok (.rt .non) S := rfl
def dropK (en : En) (_ : D) (S : Sto) : Res Fl := .ok (.nx en) S
theorem sDrop_ap (e : ME) (en : En) (S : Sto) : sDrop e en S = (e en S).bind (dropK en) := rfl
theorem dropK_ap (en : En) (d : D) (S : Sto) : dropK en d S = .ok (.nx en) S := rfl
def enR (o : Option En) (S : Sto) : Res Fl := match o with
  | some en => .ok (.nx en) S
  | none => .bad
theorem enR_some (en : En) (S : Sto) : enR (some en) S = .ok (.nx en) S := rfl
def asgK (g : MG) (en : En) (d : D) (S : Sto) : Res Fl := enR (g d en) S
theorem sAsg_ap (e : ME) (g : MG) (en : En) (S : Sto) : sAsg e g en S = (e en S).bind (asgK g en) := rfl
theorem asgK_ap (g : MG) (en : En) (d : D) (S : Sto) : asgK g en d S = enR (g d en) S := rfl
theorem gN_ap (i : Nat) (d : D) (en : En) : gN i d en = some (en.set i (some d)) := rfl
theorem gsNil_ap (en : En) : gsNil [] en = some en := rfl
theorem gsCons_ap (g : MG) (r : MGs) (d : D) (ds : List D) (en : En) : gsCons g r (d :: ds) en = (g d en).bind (r ds) := rfl
theorem gT_ap (n : Nat) (g : MGs) (ds : List D) (en : En) : gT n g (.tup ds) en = if ds.length = n then g ds en else none := rfl
def parK (i j : Nat) (en : En) (ds : List D) (S : Sto) : Res Fl := match ds with
  | [x, y] => .ok (.nx ((en.set i (some x)).set j (some y))) S
  | _ => .bad
theorem sPar_ap (i j : Nat) (r : MA) (en : En) (S : Sto) : sPar i j r en S = (r en S).bind (parK i j en) := rfl
theorem parK_ap (i j : Nat) (en : En) (x y : D) (S : Sto) : parK i j en [x, y] S = .ok (.nx ((en.set i (some x)).set j (some y))) S := rfl
theorem sBk_ap (en : En) (S : Sto) : sBk en S = .ok (.bk en) S := rfl
theorem sCt_ap (en : En) (S : Sto) : sCt en S = .ok (.ct en) S := rfl
noncomputable def forK (g : MG) (b : MS) (en : En) (its : Its) (S : Sto) : Res Fl := loop g b its.P its.ds en S
theorem sFor_ap (i : MI) (g : MG) (b : MS) (en : En) (S : Sto) : sFor i g b en S = (i en S).bind (forK g b en) := rfl
theorem forK_ap (g : MG) (b : MS) (en : En) (ds : List D) (P : Sto → Prop) (S : Sto) : forK g b en ⟨ds, P⟩ S = loop g b P ds en S := rfl
def seqIK (d : D) (S : Sto) : Res Its := match seqL S d, seqT d with
  | some ds, _ => .ok ⟨ds, fun S => seqL S d = some ds⟩ S
  | none, some ds => .ok ⟨ds, fun _ => True⟩ S
  | none, none => .bad
theorem iSeq_ap (e : ME) (en : En) (S : Sto) : iSeq e en S = (e en S).bind seqIK := rfl
theorem seqIK_lst (ds : List D) (S : Sto) : seqIK (.lst ds) S = .ok ⟨ds, fun _ => True⟩ S := by
  unfold seqIK
  simp only [seqL]
theorem seqIK_tup (ds : List D) (S : Sto) : seqIK (.tup ds) S = .ok ⟨ds, fun _ => True⟩ S := rfl
theorem seqIK_ktp (ds : List D) (S : Sto) : seqIK (.ktp ds) S = .ok ⟨ds, fun _ => True⟩ S := rfl
open Classical in
noncomputable def rg1K (ds : List D) (S : Sto) : Res Its := match ds with
  | [.int j] => if rgOk j then .ok ⟨rangeD 0 j.toNat, fun _ => True⟩ S else .bad
  | _ => .bad
theorem iRg1_ap (r : MA) (en : En) (S : Sto) : iRg1 r en S = (r en S).bind rg1K := rfl
theorem rg1K_ok {j : Int} {S : Sto} (h : -(2 ^ 62) ≤ j ∧ j < 2 ^ 62) : rg1K [.int j] S = .ok ⟨rangeD 0 j.toNat, fun _ => True⟩ S := if_pos h
open Classical in
noncomputable def rg2K (ds : List D) (S : Sto) : Res Its := match ds with
  | [.int i, .int j] => if rgOk i ∧ rgOk j then .ok ⟨rangeD i (j - i).toNat, fun _ => True⟩ S else .bad
  | _ => .bad
theorem iRg2_ap (r : MA) (en : En) (S : Sto) : iRg2 r en S = (r en S).bind rg2K := rfl
noncomputable def turnK (g : MG) (b : MS) (P : Sto → Prop) (ds : List D) (f : Fl) (S : Sto) : Res Fl := match f with
  | .nx en2 => loop g b P ds en2 S
  | .ct en2 => loop g b P ds en2 S
  | .bk en2 => .ok (.nx en2) S
  | .rt d => .ok (.rt d) S
theorem turnK_nx (g : MG) (b : MS) (P : Sto → Prop) (ds : List D) (en : En) (S : Sto) : turnK g b P ds (.nx en) S = loop g b P ds en S := rfl
theorem turnK_ct (g : MG) (b : MS) (P : Sto → Prop) (ds : List D) (en : En) (S : Sto) : turnK g b P ds (.ct en) S = loop g b P ds en S := rfl
theorem turnK_bk (g : MG) (b : MS) (P : Sto → Prop) (ds : List D) (en : En) (S : Sto) : turnK g b P ds (.bk en) S = .ok (.nx en) S := rfl
theorem turnK_rt (g : MG) (b : MS) (P : Sto → Prop) (ds : List D) (d : D) (S : Sto) : turnK g b P ds (.rt d) S = .ok (.rt d) S := rfl
noncomputable def stepR (g : MG) (b : MS) (P : Sto → Prop) (ds : List D) (o : Option En) (S : Sto) : Res Fl := match o with
  | none => .bad
  | some en => (b en S).bind (turnK g b P ds)
theorem stepR_some (g : MG) (b : MS) (P : Sto → Prop) (ds : List D) (en : En) (S : Sto) : stepR g b P ds (some en) S = (b en S).bind (turnK g b P ds) := rfl
theorem loop_nil (g : MG) (b : MS) (en : En) (S : Sto) : loop g b (fun _ => True) [] en S = .ok (.nx en) S := if_pos trivial
theorem loop_cons (g : MG) (b : MS) (d : D) (ds : List D) (en : En) (S : Sto) : loop g b (fun _ => True) (d :: ds) en S = stepR g b (fun _ => True) ds (g d en) S := by
  rw [loop, if_pos trivial]
  rfl
def endK (f : Fl) (S : Sto) : Res D := match f with
  | .nx _ => .ok .non S
  | .rt d => .ok d S
  | _ => .bad
theorem fnB_run (n N : Nat) (b : MS) (ds : List D) (S : Sto) : (fnB n N b).run ds S = (b (startE N ds) S).bind endK := rfl
theorem endK_nx (en : En) (S : Sto) : endK (.nx en) S = .ok .non S := rfl
theorem endK_rt (d : D) (S : Sto) : endK (.rt d) S = .ok d S := rfl
theorem dropF_run (F : Fn) (ds : List D) (S : Sto) : (dropF F).run ds S = (F.run ds S).drop S := rfl
theorem fnB_n (n N : Nat) (b : MS) : (fnB n N b).n = n := rfl
theorem dropF_n (F : Fn) : (dropF F).n = F.n := rfl
def Wp {α : Type} (r : Res α) (Q : α → Sto → Prop) : Prop := match r with
  | .ok a S => Q a S
  | _ => False
theorem Wp_ok {α : Type} (a : α) (S : Sto) (Q : α → Sto → Prop) : Wp (.ok a S) Q = Q a S := rfl
theorem Wp_bind {α β : Type} (r : Res α) (k : α → Sto → Res β) (Q : β → Sto → Prop) : Wp (r.bind k) Q = Wp r (fun a S => Wp (k a S) Q) := by cases r <;> rfl
theorem Wp.mono {α : Type} {r : Res α} {Q Q' : α → Sto → Prop} (h : Wp r Q) (f : ∀ a S, Q a S → Q' a S) : Wp r Q' := by
  cases r with
  | ok a S => exact f a S h
  | ex c ns vs S => exact h.elim
  | bad => exact h.elim
theorem Wp.of {α : Type} {r : Res α} {a : α} {S : Sto} {Q : α → Sto → Prop} (h : r = .ok a S) (q : Q a S) : Wp r Q := by rw [h]; exact q
theorem Wp.ok_of {α : Type} {r : Res α} {Q : α → Sto → Prop} (h : Wp r Q) : ∃ a S, r = .ok a S ∧ Q a S := by
  cases r with
  | ok a S => exact ⟨a, S, rfl, h⟩
  | ex c ns vs S => exact h.elim
  | bad => exact h.elim
open Classical in
theorem Wp_drop {r : Res D} {S : Sto} {Q : D → Sto → Prop} : Wp (r.drop S) Q = Wp r (fun d S' => (Cl S S' ∧ d.bel S.length) ∧ Q d (S'.take S.length)) := by
  cases r with
  | ok d S' =>
    simp only [Res.drop, Wp]
    by_cases h : Cl S S' ∧ d.bel S.length
    · rw [if_pos h]
      simp [h]
    · rw [if_neg h]
      simp only [h, false_and]
  | ex c ns vs S' =>
    simp only [Res.drop, Wp]
    split
    · rename_i h
      split at h <;> cases h
    · rfl
  | bad => rfl
theorem Cl.set {S : Sto} {i : Nat} {b : Ob} (hb : b.bel S.length) : Cl S (S.set i b) := ⟨by simp, fun j hj => by
  by_cases h : i = j
  · subst h
    exact .inr ⟨b, List.getElem?_set_self hj, hb⟩
  · exact .inl (List.getElem?_set_ne h)⟩
theorem Cl.refl (S : Sto) : Cl S S := ⟨Nat.le_refl _, fun _ _ => .inl rfl⟩
theorem sWhile_ap (n : Nat) (t : MT) (b : MS) (en : En) (S : Sto) : sWhile n t b en S = whil t b n en S := rfl
noncomputable def itK (g : MG) (t : MT) (e : ME) (en : En) (its : Its) (S : Sto) : Res (List D) := comp g t e its.P en its.ds [] S
theorem cItems_ap (i : MI) (g : MG) (t : MT) (e : ME) (vs : List Nat) (en : En) (S : Sto) : cItems i g t e vs en S = (i en S).bind (itK g t e (wipeE en vs)) := rfl
theorem itK_ap (g : MG) (t : MT) (e : ME) (en : En) (ds : List D) (P : Sto → Prop) (S : Sto) : itK g t e en ⟨ds, P⟩ S = comp g t e P en ds [] S := rfl
def lcK (ds : List D) (S : Sto) : Res D := .ok (.lst ds) S
def lcNK (ds : List D) (S : Sto) : Res D := .ok (.ref S.length) (S ++ [.lst ds])
theorem mLc_ap (i : MI) (g : MG) (t : MT) (e : ME) (vs : List Nat) (en : En) (S : Sto) : mLc i g t e vs en S = (cItems i g t e vs en S).bind lcK := rfl
theorem mLcN_ap (i : MI) (g : MG) (t : MT) (e : ME) (vs : List Nat) (en : En) (S : Sto) : mLcN i g t e vs en S = (cItems i g t e vs en S).bind lcNK := rfl
theorem lcK_ap (ds : List D) (S : Sto) : lcK ds S = .ok (.lst ds) S := rfl
theorem lcNK_ap (ds : List D) (S : Sto) : lcNK ds S = .ok (.ref S.length) (S ++ [.lst ds]) := rfl
theorem tYesM_ap (en : En) (S : Sto) : tYesM en S = .ok true S := rfl
end G
end
section
namespace G
open PySem L2
theorem dAdd_int (S : Sto) (i j : Int) : dAdd S (.int i) (.int j) = some (.int (i + j)) := rfl
theorem dAdd_str (S : Sto) (x y : Str) : dAdd S (.str x) (.str y) = if x.length + y.length ≤ sizeLine then some (.str (x ++ y)) else none := rfl
theorem dAdd_lst (S : Sto) (x y : List D) : dAdd S (.lst x) (.lst y) = if x.length + y.length ≤ sizeLine then some (.lst (x ++ y)) else none := rfl
theorem dSub_int (S : Sto) (i j : Int) : dSub S (.int i) (.int j) = some (.int (i - j)) := rfl
theorem dMul_l {S : Sto} {i j : Int} (h : -(2 ^ 64) < i ∧ i < 2 ^ 64) : dMul S (.int i) (.int j) = some (.int (i * j)) := if_pos (.inl h)
theorem dMul_r {S : Sto} {i j : Int} (h : -(2 ^ 64) < j ∧ j < 2 ^ 64) : dMul S (.int i) (.int j) = some (.int (i * j)) := if_pos (.inr h)
theorem dDiv_int {S : Sto} {i j : Int} (h : 0 < j ∧ j < 1073741824) : dDiv S (.int i) (.int j) = some (.int (i / j)) := if_pos h
theorem dMod_int {S : Sto} {i j : Int} (h : 0 < j) : dMod S (.int i) (.int j) = some (.int (i % j)) := if_pos h
theorem dPow_int {S : Sto} {i j : Int} (h : CPow i j) : dPow S (.int i) (.int j) = some (.int (i ^ j.toNat)) := if_pos h
theorem dAnd_int (S : Sto) (i j : Int) : dAnd S (.int i) (.int j) = some (.int (Builtin.bitAnd i j)) := rfl
theorem dOr_int (S : Sto) (i j : Int) : dOr S (.int i) (.int j) = some (.int (Builtin.bitOr i j)) := rfl
theorem dLe0_int (S : Sto) (i j : Int) : dLe0 S (.int i) (.int j) = some (.bl (decide (i ≤ j))) := rfl
theorem dGt0_int (S : Sto) (i j : Int) : dGt0 S (.int i) (.int j) = some (.bl (decide (j < i))) := rfl
theorem dGe0_int (S : Sto) (i j : Int) : dGe0 S (.int i) (.int j) = some (.bl (decide (j ≤ i))) := rfl
theorem sh_int (i : Int) : SeqAt.shaped (.int i) = true := by simp [SeqAt.shaped, PyData.canLay0, PyData.depth]
theorem pdv_int (S : Sto) (i : Int) : pdv S (.int i) = some (.int i) := by simp [pdv, seqL, pd]
theorem pdv_tup (S : Sto) (ds : List D) : pdv S (.tup ds) = (pds ds).map .tuple := by simp [pdv, seqL, pd]
theorem dLt_int (S : Sto) (i j : Int) : dLt S (.int i) (.int j) = some (.bl (decide (i < j))) := by
  simp only [dLt, pdv_int, sh_int, and_self, if_true, pLt, Option.map_some]
theorem dEq_int (S : Sto) (i j : Int) : dEq S (.int i) (.int j) = some (.bl (decide (i = j))) := by
  simp only [dEq, dEqB, pdv_int, sh_int, and_self, if_true, PyData.eqv, Option.map_some]
  rfl
theorem dNe_int (S : Sto) (i j : Int) : dNe S (.int i) (.int j) = some (.bl (!decide (i = j))) := by
  simp only [dNe, dEqB, pdv_int, sh_int, and_self, if_true, PyData.eqv, Option.map_some]
  rfl
theorem dEq_str (S : Sto) (i j : Str) : dEq S (.str i) (.str j) = some (.bl (decide (i = j))) := rfl
theorem dNe_str (S : Sto) (i j : Str) : dNe S (.str i) (.str j) = some (.bl (!decide (i = j))) := rfl
theorem dNe_same {S : Sto} {x : Str} : dNe S (.str x) (.str x) = some (.bl false) := by rw [dNe_str]; simp
theorem dIs_non (S : Sto) (x : D) : dIs S x .non = some (.bl (isNon x)) := rfl
theorem dIsNot_non (S : Sto) (x : D) : dIsNot S x .non = some (.bl (!isNon x)) := rfl
theorem dNeg_int (S : Sto) (i : Int) : dNeg S (.int i) = some (.int (-i)) := rfl
theorem dIdx_tup (S : Sto) (ds : List D) (i : Int) : dIdx S (.tup ds) (.int i) = atI ds i := rfl
theorem dIdx_lst (S : Sto) (ds : List D) (i : Int) : dIdx S (.lst ds) (.int i) = atI ds i := rfl
theorem dIdx_scr (S : Sto) (ds : List D) (i : Int) : dIdx S (.scr ds) (.int i) = atI ds i := rfl
def idxO (o : Option Ob) (i : Int) : Option D := match o with
  | some (.lst ds) => atI ds i
  | _ => none
theorem idxO_lst (ds : List D) (i : Int) : idxO (some (.lst ds)) i = atI ds i := rfl
theorem atI_0 {α : Type} (x : α) (xs : List α) : atI (x :: xs) 0 = some x := by
  unfold atI ixN
  rw [if_pos (by omega), if_pos (by simp only [List.length_cons]; omega)]
  rfl
theorem atI_1 {α : Type} (x y : α) (xs : List α) : atI (x :: y :: xs) 1 = some y := by
  unfold atI ixN
  rw [if_pos (by omega), if_pos (by simp only [List.length_cons]; omega)]
  rfl
theorem atI_2 {α : Type} (x y z : α) (xs : List α) : atI (x :: y :: z :: xs) 2 = some z := by
  unfold atI ixN
  rw [if_pos (by omega), if_pos (by simp only [List.length_cons]; omega)]
  rfl
theorem atI_3 {α : Type} (x y z w : α) (xs : List α) : atI (x :: y :: z :: w :: xs) 3 = some w := by
  unfold atI ixN
  rw [if_pos (by omega), if_pos (by simp only [List.length_cons]; omega)]
  rfl
theorem atI_4 {α : Type} (x y z w u : α) (xs : List α) : atI (x :: y :: z :: w :: u :: xs) 4 = some u := by
  unfold atI ixN
  rw [if_pos (by omega), if_pos (by simp only [List.length_cons]; omega)]
  rfl
theorem atI_at {α : Type} {xs : List α} {i : Int} {x : α} (h : 0 ≤ i) (e : xs[i.toNat]? = some x) : atI xs i = some x := by
  have hl := (List.getElem?_eq_some_iff.mp e).1
  unfold atI ixN
  rw [if_pos h, if_pos (by omega)]
  exact e
theorem dLen_str {S : Sto} {z : Str} (h : z.length ≤ sizeLine) : dLen S [.str z] = some (.int z.length) := if_pos h
theorem dLen_lst (S : Sto) (ds : List D) : dLen S [.lst ds] = some (.int ds.length) := rfl
theorem dLen_scr (S : Sto) (ds : List D) : dLen S [.scr ds] = some (.int ds.length) := rfl
theorem dLen_tup (S : Sto) (ds : List D) : dLen S [.tup ds] = some (.int ds.length) := rfl
theorem dInt_int (S : Sto) (i : Int) : dInt S [.int i] = some (.int i) := rfl
theorem dInt_bl (S : Sto) (k : Bool) : dInt S [.bl k] = some (.int (if k then 1 else 0)) := rfl
theorem dAbs_int (S : Sto) (i : Int) : dAbs S [.int i] = some (.int (if i < 0 then -i else i)) := rfl
theorem dStr_int {S : Sto} {i : Int} (h : i.natAbs.log2 < 1920) : dStr S [.int i] = some (.str (toString i)) := if_pos h
theorem dStr_str (S : Sto) (x : Str) : dStr S [.str x] = some (.str x) := rfl
theorem dTuple_lst (S : Sto) (ds : List D) : dTuple S [.lst ds] = some (.tup ds) := rfl
theorem dTuple_tup (S : Sto) (ds : List D) : dTuple S [.tup ds] = some (.tup ds) := rfl
theorem dList_tup (S : Sto) (ds : List D) : dList S [.tup ds] = some (.lst ds) := rfl
theorem dList_lst (S : Sto) (ds : List D) : dList S [.lst ds] = some (.lst ds) := rfl
theorem dAll_lst (S : Sto) (ds : List D) : dAll S [.lst ds] = (bls ds).map fun bs => .bl (bs.all id) := rfl
theorem dAny_lst (S : Sto) (ds : List D) : dAny S [.lst ds] = (bls ds).map fun bs => .bl (bs.any id) := rfl
theorem dSplit_str {S : Sto} {a b : Str} (h : (b.length == 0) = false ∧ a.length + 2 ≤ sizeLine) : dSplit S (.str a) [.str b] = some (.lst ((Txt.split a b).map .str)) := if_pos h
def bmsK1 (g : Sto → D → List D → Option D) (r : MA) (en : En) (x : D) (S : Sto) : Res D := match x with
  | .str z => (r en S).bind fun xs S2 => optR (g S2 (.str z) xs) S2
  | _ => .bad
def bmsK2 (g : Sto → D → List D → Option D) (z : Str) (xs : List D) (S : Sto) : Res D := optR (g S (.str z) xs) S
theorem mBMs_ap (g : Sto → D → List D → Option D) (o : ME) (r : MA) (en : En) (S : Sto) : mBMs g o r en S = (o en S).bind (bmsK1 g r en) := rfl
theorem bmsK1_str (g : Sto → D → List D → Option D) (r : MA) (en : En) (z : Str) (S : Sto) : bmsK1 g r en (.str z) S = (r en S).bind (bmsK2 g z) := rfl
theorem bmsK2_ap (g : Sto → D → List D → Option D) (z : Str) (xs : List D) (S : Sto) : bmsK2 g z xs S = optR (g S (.str z) xs) S := rfl
theorem oNone_ap (en : En) (S : Sto) : oNone en S = .ok none S := rfl
def oSomeK (d : D) (S : Sto) : Res (Option Int) := match d with
  | .int i => .ok (some i) S
  | _ => .bad
theorem oSome_ap (e : ME) (en : En) (S : Sto) : oSome e en S = (e en S).bind oSomeK := rfl
theorem oSomeK_int (i : Int) (S : Sto) : oSomeK (.int i) S = .ok (some i) S := rfl
def slK3 (x : D) (lo hi : Option Int) (S : Sto) : Res D := optR (dSl S x lo hi) S
def slK2 (h : MO) (en : En) (x : D) (lo : Option Int) (S : Sto) : Res D := (h en S).bind (slK3 x lo)
def slK1 (l h : MO) (en : En) (x : D) (S : Sto) : Res D := (l en S).bind (slK2 h en x)
theorem mSl_ap (a : ME) (l h : MO) (en : En) (S : Sto) : mSl a l h en S = (a en S).bind (slK1 l h en) := rfl
theorem slK1_ap (l h : MO) (en : En) (x : D) (S : Sto) : slK1 l h en x S = (l en S).bind (slK2 h en x) := rfl
theorem slK2_ap (h : MO) (en : En) (x : D) (lo : Option Int) (S : Sto) : slK2 h en x lo S = (h en S).bind (slK3 x lo) := rfl
theorem slK3_ap (x : D) (lo hi : Option Int) (S : Sto) : slK3 x lo hi S = optR (dSl S x lo hi) S := rfl
theorem dSl_lst (S : Sto) (ds : List D) (lo hi : Option Int) : dSl S (.lst ds) lo hi = some (.lst (cutD ds lo hi)) := rfl
theorem dSl_scr (S : Sto) (ds : List D) (lo hi : Option Int) : dSl S (.scr ds) lo hi = some (.lst (cutD ds lo hi)) := rfl
theorem dSl_tup (S : Sto) (ds : List D) (lo hi : Option Int) : dSl S (.tup ds) lo hi = some (.tup (cutD ds lo hi)) := rfl
def ixK3 (d : D) (x : D) (en : En) (y : D) (S : Sto) : Res Fl := match x, y with
  | .ref i, .int n => match S[i]? with
    | some (.lst ds) => match ixN ds.length n with
      | some j => .ok (.nx en) (S.set i (.lst (ds.set j d)))
      | none => .bad
    | _ => .bad
  | _, _ => .bad
def ixK2 (k : ME) (en : En) (d : D) (x : D) (S : Sto) : Res Fl := (k en S).bind (ixK3 d x en)
def ixK1 (o k : ME) (en : En) (d : D) (S : Sto) : Res Fl := (o en S).bind (ixK2 k en d)
theorem sIx_ap (o k e : ME) (en : En) (S : Sto) : sIx o k e en S = (e en S).bind (ixK1 o k en) := rfl
theorem ixK1_ap (o k : ME) (en : En) (d : D) (S : Sto) : ixK1 o k en d S = (o en S).bind (ixK2 k en d) := rfl
theorem ixK2_ap (k : ME) (en : En) (d x : D) (S : Sto) : ixK2 k en d x S = (k en S).bind (ixK3 d x en) := rfl
def ixO2 (o : Option Nat) (ds : List D) (d : D) (i : Nat) (en : En) (S : Sto) : Res Fl := match o with
  | some j => .ok (.nx en) (S.set i (.lst (ds.set j d)))
  | none => .bad
def ixO (o : Option Ob) (d : D) (i : Nat) (en : En) (n : Int) (S : Sto) : Res Fl := match o with
  | some (.lst ds) => ixO2 (ixN ds.length n) ds d i en S
  | _ => .bad
theorem ixK3_ref (d : D) (i : Nat) (en : En) (n : Int) (S : Sto) : ixK3 d (.ref i) en (.int n) S = ixO S[i]? d i en n S := by
  simp only [ixK3, ixO]
  cases S[i]? with
  | none => rfl
  | some o => cases o <;> rfl
theorem ixO_lst (ds : List D) (d : D) (i : Nat) (en : En) (n : Int) (S : Sto) : ixO (some (.lst ds)) d i en n S = ixO2 (ixN ds.length n) ds d i en S := rfl
theorem ixO2_some (j : Nat) (ds : List D) (d : D) (i : Nat) (en : En) (S : Sto) : ixO2 (some j) ds d i en S = .ok (.nx en) (S.set i (.lst (ds.set j d))) := rfl
theorem ixN_0 (n : Nat) : ixN (n + 1) 0 = some 0 := by unfold ixN; rw [if_pos (by omega), if_pos (by omega)]; rfl
theorem ixN_1 (n : Nat) : ixN (n + 1 + 1) 1 = some 1 := by unfold ixN; rw [if_pos (by omega), if_pos (by omega)]; rfl
theorem ixN_2 (n : Nat) : ixN (n + 1 + 1 + 1) 2 = some 2 := by unfold ixN; rw [if_pos (by omega), if_pos (by omega)]; rfl
def appK2 (i : Nat) (en : En) (d : D) (S : Sto) : Res Fl := match S[i]? with
  | some (.lst ds) => if ds.length < sizeLine then .ok (.nx en) (S.set i (.lst (ds ++ [d]))) else .bad
  | _ => .bad
def appK1 (e : ME) (en : En) (x : D) (S : Sto) : Res Fl := match x with
  | .ref i => match S[i]? with
    | some (.lst _) => (e en S).bind (appK2 i en)
    | _ => .bad
  | _ => .bad
theorem sApp_ap (o e : ME) (en : En) (S : Sto) : sApp o e en S = (o en S).bind (appK1 e en) := rfl
def appO1 (o : Option Ob) (e : ME) (en : En) (i : Nat) (S : Sto) : Res Fl := match o with
  | some (.lst _) => (e en S).bind (appK2 i en)
  | _ => .bad
theorem appO1_lst (ds : List D) (e : ME) (en : En) (i : Nat) (S : Sto) : appO1 (some (.lst ds)) e en i S = (e en S).bind (appK2 i en) := rfl
def extK2 (i : Nat) (en : En) (d : D) (S : Sto) : Res Fl := match S[i]?, d with
  | some (.lst ds), .lst es => if ds.length + es.length ≤ sizeLine then .ok (.nx en) (S.set i (.lst (ds ++ es))) else .bad
  | _, _ => .bad
def extK1 (e : ME) (en : En) (x : D) (S : Sto) : Res Fl := match x with
  | .ref i => match S[i]? with
    | some (.lst _) => (e en S).bind (extK2 i en)
    | _ => .bad
  | _ => .bad
theorem sExt_ap (o e : ME) (en : En) (S : Sto) : sExt o e en S = (o en S).bind (extK1 e en) := rfl
def extO1 (o : Option Ob) (e : ME) (en : En) (i : Nat) (S : Sto) : Res Fl := match o with
  | some (.lst _) => (e en S).bind (extK2 i en)
  | _ => .bad
theorem extO1_lst (ds : List D) (e : ME) (en : En) (i : Nat) (S : Sto) : extO1 (some (.lst ds)) e en i S = (e en S).bind (extK2 i en) := rfl
def fsK (ms : List ME) (acc : Str) (en : En) (d : D) (S : Sto) : Res D := match d with
  | .str y => if (acc ++ y).length ≤ sizeLine then fsAll ms (acc ++ y) en S else .bad
  | _ => .bad
theorem mFs_ap (ms : List ME) (en : En) (S : Sto) : mFs ms en S = fsAll ms Str.empty en S := rfl
theorem fsAll_nil (acc : Str) (en : En) (S : Sto) : fsAll [] acc en S = .ok (.str acc) S := rfl
theorem fsAll_cons (m : ME) (ms : List ME) (acc : Str) (en : En) (S : Sto) : fsAll (m :: ms) acc en S = (m en S).bind (fsK ms acc en) := rfl
end G
end
section
namespace G
open PySem L2
def tx (l : List Nat) : Str := ⟨l.toArray⟩
theorem tx_len (l : List Nat) : (tx l).length = l.length := by simp [tx, Str.length]
theorem tx_app (a b : List Nat) : tx a ++ tx b = tx (a ++ b) := by
  show Str.append _ _ = _
  simp [tx, Str.append]
theorem tx_inj {a b : List Nat} : (tx a = tx b) = (a = b) := by simp [tx]
theorem tx_cps (l : List Nat) : (tx l).cps.toList = l := by simp [tx]
theorem tx_of (x : Str) : x = tx x.cps.toList := by cases x; simp [tx]
def spl (c : Nat) : List Nat → List (List Nat)
  | [] => [[]]
  | x :: l => if x = c then [] :: spl c l else match spl c l with
    | [] => [[x]]
    | w :: r => (x :: w) :: r
def glu (c : Nat) : List (List Nat) → List Nat
  | [] => []
  | [w] => w
  | w :: r => w ++ c :: glu c r
theorem glu_cons (c : Nat) (w v : List Nat) (r : List (List Nat)) : glu c (w :: v :: r) = w ++ c :: glu c (v :: r) := rfl
theorem spl_ne (c : Nat) (l : List Nat) : spl c l ≠ [] := by
  cases l with
  | nil => simp [spl]
  | cons x l =>
    rw [spl]
    split
    · simp
    · split <;> simp
def hdc (x : Nat) : List (List Nat) → List (List Nat)
  | [] => [[x]]
  | w :: r => (x :: w) :: r
theorem hdc_cons (x : Nat) (w : List Nat) (r : List (List Nat)) : hdc x (w :: r) = (x :: w) :: r := rfl
theorem spl_nil (c : Nat) : spl c [] = [[]] := rfl
theorem spl_cons (c x : Nat) (l : List Nat) : spl c (x :: l) = if x = c then [] :: spl c l else hdc x (spl c l) := by
  rw [spl]
  congr 1
theorem spl_free (c : Nat) (w : List Nat) (h : c ∉ w) : spl c w = [w] := by
  induction w with
  | nil => rfl
  | cons x w ih =>
    rw [spl, if_neg (by intro e; exact h (by simp [e])), ih (by intro e; exact h (by simp [e]))]
theorem spl_app (c : Nat) (w l : List Nat) (h : c ∉ w) : spl c (w ++ c :: l) = w :: spl c l := by
  induction w with
  | nil => simp [spl]
  | cons x w ih =>
    rw [List.cons_append, spl, if_neg (by intro e; exact h (by simp [e])), ih (by intro e; exact h (by simp [e]))]
theorem spl_glu (c : Nat) : ∀ (ws : List (List Nat)), ws ≠ [] → (∀ w ∈ ws, c ∉ w) → spl c (glu c ws) = ws
  | [], h, _ => absurd rfl h
  | [w], _, h => spl_free c w (h w (by simp))
  | w :: v :: r, _, h => by
    rw [glu_cons, spl_app c w _ (h w (by simp)), spl_glu c (v :: r) (by simp) fun u hu => h u (by simp [hu])]
theorem join_tx (z : List Nat) : ∀ ws : List (List Nat), Str.join (tx z) (ws.map tx) = tx ((ws.intersperse z).flatten)
  | [] => rfl
  | [w] => by simp [Str.join]
  | w :: v :: r => by
    show tx w ++ tx z ++ Str.join (tx z) ((v :: r).map tx) = _
    rw [join_tx z (v :: r), tx_app, tx_app]
    simp [List.intersperse]
theorem glu_flat (c : Nat) : ∀ ws : List (List Nat), (ws.intersperse [c]).flatten = glu c ws
  | [] => rfl
  | [w] => by simp [glu]
  | w :: v :: r => by
    rw [glu_cons, ← glu_flat c (v :: r)]
    simp [List.intersperse]
theorem split_tx (l : List Nat) (c : Nat) : Txt.split (tx l) (tx [c]) = (spl c l).map tx := by
  have h1 := StrLaws.join_split (tx l) (tx [c])
  have h2 : ∀ p ∈ Txt.split (tx l) (tx [c]), c ∉ p.cps.toList := StrLaws.split_free (tx l) c
  have hp : 1 ≤ (Txt.split (tx l) (tx [c])).length := PyProof.Rows.split_pos _ _
  generalize Txt.split (tx l) (tx [c]) = ps at h1 h2 hp
  have e : ps = (ps.map fun p => p.cps.toList).map tx := by
    rw [List.map_map]
    conv => lhs; rw [← List.map_id ps]
    exact List.map_congr_left fun p _ => tx_of p
  rw [e, join_tx, glu_flat, tx_inj] at h1
  rw [e, ← h1, spl_glu]
  · intro h
    simp at h
    subst h
    simp at hp
  · intro w hw
    obtain ⟨p, hp1, rfl⟩ := List.mem_map.mp hw
    exact h2 p hp1
theorem tos10 {i : Int} (h0 : 0 ≤ i) (h : i < 10) : Str.ofString (toString i) = tx [48 + i.toNat] := by
  obtain ⟨n, rfl⟩ := Int.eq_ofNat_of_zero_le h0
  match n, h with
  | 0, _ => decide +kernel
  | 1, _ => decide +kernel
  | 2, _ => decide +kernel
  | 3, _ => decide +kernel
  | 4, _ => decide +kernel
  | 5, _ => decide +kernel
  | 6, _ => decide +kernel
  | 7, _ => decide +kernel
  | 8, _ => decide +kernel
  | 9, _ => decide +kernel
  | n + 10, h => exact absurd h (by simp; omega)
theorem log10 {i : Int} (h0 : 0 ≤ i) (h : i < 10) : i.natAbs.log2 < 1920 := by
  have h1 : i.natAbs < 2 ^ 1920 := Nat.lt_of_lt_of_le (by omega : i.natAbs < 10) (Nat.le_trans (by decide : 10 ≤ 2 ^ 4) (Nat.pow_le_pow_right (by decide) (by decide)))
  by_cases h2 : i.natAbs = 0
  · rw [h2]; decide
  · exact (Nat.log2_lt h2).mpr h1
theorem dStr10 {S : Sto} {i : Int} (h0 : 0 ≤ i) (h : i < 10) : dStr S [.int i] = some (.str (tx [48 + i.toNat])) := by
  rw [dStr_int (log10 h0 h), tos10 h0 h]
theorem intText10 {n : Nat} (h : n < 10) : PySem.intText? (tx [48 + n]) = some (n : Int) := by
  match n, h with
  | 0, _ => decide +kernel
  | 1, _ => decide +kernel
  | 2, _ => decide +kernel
  | 3, _ => decide +kernel
  | 4, _ => decide +kernel
  | 5, _ => decide +kernel
  | 6, _ => decide +kernel
  | 7, _ => decide +kernel
  | 8, _ => decide +kernel
  | 9, _ => decide +kernel
  | n + 10, h => exact absurd h (by omega)
theorem dInt10 {S : Sto} {i : Int} (h0 : 0 ≤ i) (h : i < 10) : dInt S [.str (tx [48 + i.toNat])] = some (.int i) := by
  show (if (tx [48 + i.toNat]).length ≤ 640 then (PySem.intText? (tx [48 + i.toNat])).map D.int else none) = _
  rw [if_pos (by simp [tx_len]), intText10 (by omega), Option.map_some]
  congr 2
  omega
theorem dAdd_tx {S : Sto} {x y : List Nat} (h : x.length + y.length ≤ 1000000) : dAdd S (.str (tx x)) (.str (tx y)) = some (.str (tx (x ++ y))) := by
  rw [dAdd_str, tx_len, tx_len, if_pos (Nat.le_trans h (by decide)), tx_app]
theorem dSplit_tx {S : Sto} {x : List Nat} {c : Nat} (h : x.length ≤ 1000000) : dSplit S (.str (tx x)) [.str (tx [c])] = some (.lst ((spl c x).map fun w => .str (tx w))) := by
  rw [dSplit_str ⟨rfl, by rw [tx_len]; exact Nat.le_trans (Nat.add_le_add_right h 2) (by decide)⟩, split_tx, List.map_map]
  rfl
theorem dLen_tx {S : Sto} {x : List Nat} (h : x.length ≤ 1000000) : dLen S [.str (tx x)] = some (.int x.length) := by
  rw [dLen_str (by rw [tx_len]; exact Nat.le_trans h (by decide)), tx_len]
theorem dIn_tx1 {S : Sto} {c : Nat} {z : List Nat} : dIn S (.str (tx [c])) (.str (tx z)) = some (.bl (decide (c ∈ z))) := by
  show (dInB S (.str (tx [c])) (.str (tx z))).map D.bl = _
  have : dInB S (.str (tx [c])) (.str (tx z)) = (sign1 (tx [c])).map fun c => decide (c ∈ (tx z).cps.toList) := rfl
  rw [this, tx_cps]
  rfl
theorem dNe_tx (S : Sto) (a b : List Nat) : dNe S (.str (tx a)) (.str (tx b)) = some (.bl (!decide (a = b))) := by
  rw [dNe_str]
  simp only [tx_inj]
theorem nc0 : ((0 : Nat) : Int) = 0 := Int.le_antisymm (Int.le_refl _) (Int.le_refl _)
theorem nc1 : ((1 : Nat) : Int) = 1 := Int.le_antisymm (Int.le_refl _) (Int.le_refl _)
theorem nc2 : ((2 : Nat) : Int) = 2 := Int.le_antisymm (Int.le_refl _) (Int.le_refl _)
theorem nc3 : ((3 : Nat) : Int) = 3 := Int.le_antisymm (Int.le_refl _) (Int.le_refl _)
theorem nc4 : ((4 : Nat) : Int) = 4 := Int.le_antisymm (Int.le_refl _) (Int.le_refl _)
theorem nc5 : ((5 : Nat) : Int) = 5 := Int.le_antisymm (Int.le_refl _) (Int.le_refl _)
theorem bel_int (n : Nat) (i : Int) : D.bel n (.int i) = True := by simp only [D.bel]
theorem bel_str (n : Nat) (x : Str) : D.bel n (.str x) = True := by simp only [D.bel]
theorem bel_tup (n : Nat) (ds : List D) : D.bel n (.tup ds) = D.bels n ds := by simp only [D.bel]
theorem bel_lst (n : Nat) (ds : List D) : D.bel n (.lst ds) = D.bels n ds := by simp only [D.bel]
theorem bels_nil (n : Nat) : D.bels n [] = True := by simp only [D.bels]
theorem bels_cons (n : Nat) (d : D) (r : List D) : D.bels n (d :: r) = (D.bel n d ∧ D.bels n r) := by simp only [D.bels]
theorem reprOk_of {p : PyData} (h1 : p.canLay0 = true) (h2 : p.depth ≤ 64) (h3 : p.weight ≤ 1000000) (h4 : p.intsShort 13 = true) (h5 : p.showable = true) : reprOk p := by
  refine ⟨?_, h5, ?_⟩
  · simp [SeqAt.shaped, h1, h2]
  · have := PyData.shown_le 13 (by decide) p (PyData.leavesShort_of_canLay0 13 p h1 h4)
    exact Nat.le_trans this (Nat.le_trans (show (13 + 2) * p.weight + 13 ≤ 15 * 1000000 + 13 by omega) (by decide))
mutual
def smD : D → Bool
  | .non => true
  | .bl _ => true
  | .int i => decide (-999999999999 ≤ i) && decide (i ≤ 999999999999)
  | .str x => PyData.strOk x
  | .tup ds => smDs ds
  | .ktp ds => smDs ds
  | .lst ds => smDs ds
  | .scr ds => smDs ds
  | _ => false
def smDs : List D → Bool
  | [] => true
  | d :: r => smD d && smDs r
end
mutual
def wD : D → Nat
  | .int _ => 64
  | .str x => x.length
  | .tup ds => wDs ds
  | .ktp ds => wDs ds
  | .lst ds => wDs ds
  | .scr ds => wDs ds
  | _ => 0
def wDs : List D → Nat
  | [] => 0
  | d :: r => wD d + 1 + wDs r
end
mutual
def dpD : D → Nat
  | .tup ds => dpDs ds + 1
  | .ktp ds => dpDs ds + 1
  | .lst ds => dpDs ds + 1
  | .scr ds => dpDs ds + 1
  | _ => 0
def dpDs : List D → Nat
  | [] => 0
  | d :: r => max (dpD d) (dpDs r)
end
def Smp (d : D) (p : PyData) : Prop := pd d = some p ∧ p.canLay0 = true ∧ p.depth ≤ dpD d ∧ p.weight ≤ wD d ∧ p.intsShort 13 = true ∧ p.showable = true
def Smps (ds : List D) (ps : List PyData) : Prop := pds ds = some ps ∧ PyData.canLayAll0 ps = true ∧ PyData.depthAll ps ≤ dpDs ds ∧ PyData.weightAll ps ≤ wDs ds ∧ PyData.intsShortAll 13 ps = true ∧ PyData.showableAll ps = true
theorem int_log {i : Int} (h1 : -999999999999 ≤ i) (h2 : i ≤ 999999999999) : i.natAbs.log2 < 63 := by
  by_cases h : i.natAbs = 0
  · rw [h]; decide
  · exact (Nat.log2_lt h).mpr (Nat.lt_of_lt_of_le (by omega : i.natAbs < 1000000000000) (by decide))
mutual
theorem smp_of : ∀ d : D, smD d = true → ∃ p, Smp d p
  | .non, _ => ⟨.none, by simp [Smp, pd, PyData.canLay0, PyData.depth, PyData.weight, PyData.intsShort, PyData.showable]⟩
  | .bl b, _ => ⟨.bool b, by simp [Smp, pd, PyData.canLay0, PyData.depth, PyData.weight, PyData.intsShort, PyData.showable]⟩
  | .int i, h => ⟨.int i, by
    simp only [smD, Bool.and_eq_true, decide_eq_true_eq] at h
    have h1 := PySem.PyData.shown_int_le2 h.1 h.2
    have h2 := int_log h.1 h.2
    refine ⟨by simp only [pd], by simp only [PyData.canLay0], by simp only [PyData.depth]; exact Nat.zero_le _, ?_, by simp only [PyData.intsShort]; exact decide_eq_true h1, by simp only [PyData.showable]; exact decide_eq_true (by omega)⟩
    simp only [PyData.weight, wD]
    split <;> omega⟩
  | .str x, h => ⟨.str x, by
    simp only [smD] at h
    exact ⟨by simp only [pd], by simp only [PyData.canLay0]; exact h, by simp only [PyData.depth]; exact Nat.zero_le _, by simp only [PyData.weight, wD]; exact Nat.le_refl _, by simp only [PyData.intsShort], by simp only [PyData.showable]⟩⟩
  | .tup ds, h => by
    simp only [smD] at h
    obtain ⟨ps, a, b, c, d, e, f⟩ := smps_of ds h
    exact ⟨.tuple ps, by simp only [pd, a, Option.map_some], by simp only [PyData.canLay0]; exact b, by simp only [PyData.depth, dpD]; omega, by simp only [PyData.weight, wD]; exact d, by simp only [PyData.intsShort]; exact e, by simp only [PyData.showable]; exact f⟩
  | .ktp ds, h => by
    simp only [smD] at h
    obtain ⟨ps, a, b, c, d, e, f⟩ := smps_of ds h
    exact ⟨.tuple ps, by simp only [pd, a, Option.map_some], by simp only [PyData.canLay0]; exact b, by simp only [PyData.depth, dpD]; omega, by simp only [PyData.weight, wD]; exact d, by simp only [PyData.intsShort]; exact e, by simp only [PyData.showable]; exact f⟩
  | .lst ds, h => by
    simp only [smD] at h
    obtain ⟨ps, a, b, c, d, e, f⟩ := smps_of ds h
    exact ⟨.list ps, by simp only [pd, a, Option.map_some], by simp only [PyData.canLay0]; exact b, by simp only [PyData.depth, dpD]; omega, by simp only [PyData.weight, wD]; exact d, by simp only [PyData.intsShort]; exact e, by simp only [PyData.showable]; exact f⟩
  | .scr ds, h => by
    simp only [smD] at h
    obtain ⟨ps, a, b, c, d, e, f⟩ := smps_of ds h
    exact ⟨.list ps, by simp only [pd, a, Option.map_some], by simp only [PyData.canLay0]; exact b, by simp only [PyData.depth, dpD]; omega, by simp only [PyData.weight, wD]; exact d, by simp only [PyData.intsShort]; exact e, by simp only [PyData.showable]; exact f⟩
  | .dic _ _, h => by simp [smD] at h
  | .ins _ _ _, h => by simp [smD] at h
  | .ref _, h => by simp [smD] at h
  | .fn _, h => by simp [smD] at h
  | .ty _, h => by simp [smD] at h
  | .cl _, h => by simp [smD] at h
  | .lam _ _ _ _ _, h => by simp [smD] at h
theorem smps_of : ∀ ds : List D, smDs ds = true → ∃ ps, Smps ds ps
  | [], _ => ⟨[], by simp [Smps, pds, PyData.canLayAll0, PyData.depthAll, PyData.weightAll, PyData.intsShortAll, PyData.showableAll]⟩
  | d :: r, h => by
    simp only [smDs, Bool.and_eq_true] at h
    obtain ⟨p, a, b, c, d', e, f⟩ := smp_of d h.1
    obtain ⟨ps, a2, b2, c2, d2, e2, f2⟩ := smps_of r h.2
    exact ⟨p :: ps, by simp only [pds, a, a2], by simp only [PyData.canLayAll0, b, b2]; rfl, by simp only [PyData.depthAll, dpDs]; omega, by simp only [PyData.weightAll, wDs]; omega, by simp only [PyData.intsShortAll, e, e2]; rfl, by simp only [PyData.showableAll, f, f2]; rfl⟩
end
theorem pdv_sm {S : Sto} : ∀ {d : D}, smD d = true → pdv S d = pd d
  | .non, _ => by simp [pdv, seqL]
  | .bl b, _ => by simp [pdv, seqL]
  | .int i, _ => by simp [pdv, seqL]
  | .str i, _ => by simp [pdv, seqL]
  | .tup i, _ => by simp [pdv, seqL]
  | .ktp i, _ => by simp [pdv, seqL]
  | .lst i, _ => by simp [pdv, seqL, pd]
  | .scr i, _ => by simp [pdv, seqL, pd]
  | .dic _ _, h => by simp [smD] at h
  | .ins _ _ _, h => by simp [smD] at h
  | .ref _, h => by simp [smD] at h
  | .fn _, h => by simp [smD] at h
  | .ty _, h => by simp [smD] at h
  | .cl _, h => by simp [smD] at h
  | .lam _ _ _ _ _, h => by simp [smD] at h
def plainK : D → Bool := fun _ => true
theorem repr_sm {d : D} (h : smD d = true) (hd : dpD d ≤ 64) (hw : wD d ≤ 1000000) (hp : plainK d = true) : ∃ z, ∀ S, dRepr S [d] = some (.str z) := by
  obtain ⟨p, a, b, c, e, f, g⟩ := smp_of d h
  refine ⟨p.shown, fun S => ?_⟩
  have hr : reprOk p := reprOk_of b (by omega) (by omega) f g
  have hv : pdv S d = some p := (pdv_sm h).trans a
  unfold dRepr
  simp only [hv]
  exact if_pos hr
noncomputable def cK2 (g : MG) (t : MT) (e : ME) (en : En) (ds acc : List D) (x : D) (S : Sto) : Res (List D) := if acc.length < sizeLine then comp g t e (fun _ => True) en ds (acc ++ [x]) S else .bad
noncomputable def cK1 (g : MG) (t : MT) (e : ME) (en en1 : En) (ds acc : List D) (k : Bool) (S : Sto) : Res (List D) := match k with
  | false => comp g t e (fun _ => True) en ds acc S
  | true => (e en1 S).noex.bind (cK2 g t e en ds acc)
noncomputable def cK0 (g : MG) (t : MT) (e : ME) (en : En) (ds acc : List D) (o : Option En) (S : Sto) : Res (List D) := match o with
  | none => .bad
  | some en1 => (t en1 S).noex.bind (cK1 g t e en en1 ds acc)
theorem comp_nil_ap (g : MG) (t : MT) (e : ME) (en : En) (acc : List D) (S : Sto) : comp g t e (fun _ => True) en [] acc S = .ok acc S := by rw [comp, if_pos trivial]
theorem comp_cons_ap (g : MG) (t : MT) (e : ME) (en : En) (d : D) (ds acc : List D) (S : Sto) : comp g t e (fun _ => True) en (d :: ds) acc S = cK0 g t e en ds acc (g d en) S := by
  rw [comp, if_pos trivial]
  rfl
theorem cK0_some (g : MG) (t : MT) (e : ME) (en en1 : En) (ds acc : List D) (S : Sto) : cK0 g t e en ds acc (some en1) S = (t en1 S).noex.bind (cK1 g t e en en1 ds acc) := rfl
theorem cK1_f (g : MG) (t : MT) (e : ME) (en en1 : En) (ds acc : List D) (S : Sto) : cK1 g t e en en1 ds acc false S = comp g t e (fun _ => True) en ds acc S := rfl
theorem cK1_t (g : MG) (t : MT) (e : ME) (en en1 : En) (ds acc : List D) (S : Sto) : cK1 g t e en en1 ds acc true S = (e en1 S).noex.bind (cK2 g t e en ds acc) := rfl
theorem cK2_ap {g : MG} {t : MT} {e : ME} {en : En} {ds acc : List D} {x : D} {S : Sto} (h : acc.length < 1000000) : cK2 g t e en ds acc x S = comp g t e (fun _ => True) en ds (acc ++ [x]) S := if_pos (Nat.lt_of_lt_of_le h (by decide))
theorem noex_ok {α : Type} (a : α) (S : Sto) : (Res.ok a S).noex = .ok a S := rfl
end G
end
section
namespace G
open PySem L2
abbrev t2 (a b : Int) : D := .tup [.int a, .int b]
theorem sh_t2 (a b : Int) : SeqAt.shaped (.tuple [.int a, .int b]) = true := by simp [SeqAt.shaped, PyData.canLay0, PyData.canLayAll0, PyData.depth, PyData.depthAll]
theorem pdv_t2 (S : Sto) (a b : Int) : pdv S (.tup [.int a, .int b]) = some (.tuple [.int a, .int b]) := by simp [pdv_tup, pds, pd]
theorem alike_t2 (a b c d : Int) : PySem.W.AlikeAll [.tuple [.int a, .int b], .tuple [.int c, .int d]] := by
  simp [PySem.W.AlikeAll, PySem.W.alike, PySem.W.alikeAll]
def ltP (a b c d : Int) : Bool := PySem.W.dataLt (.tuple [.int a, .int b]) (.tuple [.int c, .int d])
theorem dMin2_t2 (S : Sto) (a b c d : Int) : dMin2 S [.tup [.int a, .int b], .tup [.int c, .int d]] = some (.tup [.int (if ltP c d a b = true then c else a), .int (if ltP c d a b = true then d else b)]) := by
  unfold dMin2
  simp only [pdv_t2, sh_t2, alike_t2, and_self, if_true, true_and]
  unfold ltP
  split <;> simp
theorem dMax2_t2 (S : Sto) (a b c d : Int) : dMax2 S [.tup [.int a, .int b], .tup [.int c, .int d]] = some (.tup [.int (if ltP a b c d = true then c else a), .int (if ltP a b c d = true then d else b)]) := by
  unfold dMax2
  simp only [pdv_t2, sh_t2, alike_t2, and_self, if_true, true_and]
  unfold ltP
  split <;> simp
theorem ltP_eq (a b c d : Int) : ltP a b c d = decide (a < c ∨ (a = c ∧ b < d)) := by
  have e1 : ∀ x y : Int, PyProof.Rows.itemLt (.inl x) (.inl y) = decide (x < y) := fun _ _ => rfl
  unfold ltP PySem.W.dataLt
  simp only [PySem.W.keyToks, PySem.W.keyToksAll, List.cons_append, List.nil_append, PyProof.Rows.lex_cons, e1]
  simp [PyProof.Rows.lexLt, e1]
  by_cases h1 : a < c
  · simp [h1]
  · by_cases h2 : a = c
    · subst h2
      by_cases h3 : b < d <;> simp [h3]
    · have h4 : c < a := by omega
      simp [h1, h2, h4]
end G
end
section
namespace G
open PySem L2 PyProof.Rows
def MkG (m : Nat) : Prop := m = 7 ∨ m = 31 ∨ m = 127 ∨ m = 511
theorem MkG.cases {m : Nat} (h : MkG m) : MaskOk m ∨ m = 511 := by
  rcases h with e | e | e | e
  · exact .inl (.inl e)
  · exact .inl (.inr (.inl e))
  · exact .inl (.inr (.inr e))
  · exact .inr e
theorem MkG.odd {m : Nat} (h : MkG m) : m % 2 = 1 := by rcases h with e | e | e | e <;> omega
def bmp : List Nat → Nat
  | [] => 0
  | x :: l => bmp l ||| 2 ^ x
theorem bmp_mem : ∀ (l : List Nat) (j : Nat), (bmp l).testBit j = true → j ∈ l
  | [], j, h => by simp [bmp] at h
  | x :: l, j, h => by
    rw [bmp, Nat.testBit_or, Bool.or_eq_true] at h
    rcases h with h | h
    · exact List.mem_cons_of_mem _ (bmp_mem l j h)
    · rw [Nat.testBit_two_pow] at h
      have e : x = j := by simpa using h
      rw [e]
      exact List.mem_cons_self
theorem all511 : bmp ((List.range 512).map (lcgN 511)) = 2 ^ 512 - 1 := by decide +kernel
theorem rnd511 : lcgN 511 512 = 0 := by decide +kernel
theorem again511 : ∀ k, lcgN 511 (512 + k) = lcgN 511 k
  | 0 => rnd511
  | k + 1 => congrArg (fun z => (z * 5 + 1) % 512) (again511 k)
theorem from511 {j : Nat} (h : j ≤ 511) : ∃ b, b ≤ 511 ∧ lcgN 511 b = j := by
  have t : (bmp ((List.range 512).map (lcgN 511))).testBit j = true := by
    rw [all511, Nat.testBit_two_pow_sub_one]
    exact decide_eq_true (by omega)
  obtain ⟨b, hb, e⟩ := List.mem_map.mp (bmp_mem _ _ t)
  exact ⟨b, Nat.le_of_lt_succ (List.mem_range.mp hb), e⟩
theorem MkG.all {m : Nat} (h : MkG m) {i j : Nat} (hi : i ≤ m) (hj : j ≤ m) : ∃ k, k ≤ m ∧ lcgI m i k = j := by
  rcases h.cases with o | rfl
  · exact lcgI_all o hi hj
  obtain ⟨x, hx, rfl⟩ := from511 hi
  obtain ⟨y, hy, rfl⟩ := from511 hj
  by_cases c : x ≤ y
  · exact ⟨y - x, by omega, by rw [lcgN_add]; congr 1; omega⟩
  · exact ⟨512 + y - x, by omega, by rw [lcgN_add, show x + (512 + y - x) = 512 + y by omega, again511]⟩
theorem MkG.run {m : Nat} (hm : MkG m) (h : Int) {j : Nat} (hj : j ≤ m) : ∃ n, n ≤ m + 12 ∧ runI m (SetTable.bits h) n = j := by
  obtain ⟨k, a, b⟩ := hm.all (runI_le m (SetTable.bits h) 12) hj
  exact ⟨12 + k, by omega, (runI_tail (bits_lt h) k).trans b⟩
theorem MkG.met {m : Nat} (hm : MkG m) (h : Int) {j : Nat} (hj : j ≤ m) : ∃ k, k < 10 * SetTable.turns m ∧ way m h k = j := by
  obtain ⟨n, a, b⟩ := hm.run h hj
  obtain ⟨k, c, d⟩ := run_nth m (SetTable.bits h) n
  exact ⟨k, by unfold SetTable.turns; omega, (congrArg SetTable.Probe.j d).trans b⟩
theorem way_in (m : Nat) (h : Int) (k : Nat) : way m h k ≤ m := by
  have lo : SetTable.bits h % (m + 1) ≤ m := by
    exact Nat.le_of_lt_succ (Nat.mod_lt (SetTable.bits h) (Nat.succ_pos m))
  obtain ⟨r1, r2, _⟩ := runEnd_bd lo
  have st : (runAt m (SetTable.bits h % (m + 1)) (SetTable.bits h)).j + (runAt m (SetTable.bits h % (m + 1)) (SetTable.bits h)).more ≤ m := by
    unfold runAt
    dsimp only
    omega
  exact Nat.le_trans (Nat.le_add_right _ _) (nth_in k _ st)
structure TabG (t : SetTable) (hs : List Int) : Prop where
  ris : Ris t.place.toList
  dm : t.dummies = #[]
  sz : t.place.size = hs.length
  mok : MkG t.mask
  bd : ∀ x ∈ t.place.toList, x ≤ t.mask
  reach : ∀ (i : Nat) h j, hs[i]? = some h → t.place.toList[i]? = some j → ∃ k, (∀ c, c < k → way t.mask h c ∈ t.place.toList) ∧ way t.mask h k = j
section
variable {t : SetTable} {hs : List Int}
theorem TabG.first (T : TabG t hs) (few : hs.length ≤ t.mask) (h : Int) :
    ∃ K, K < 10 * SetTable.turns t.mask ∧ way t.mask h K ∉ t.place.toList ∧ ∀ k, k < K → way t.mask h k ∈ t.place.toList := by
  have sh : t.place.toList.length < t.mask + 1 := by
    have := T.sz
    rw [Array.length_toList]
    omega
  obtain ⟨j, j1, j2⟩ := st_missing _ _ sh
  obtain ⟨k, k1, k2⟩ := T.mok.met h (j := j) (by omega)
  have k3 : ¬ way t.mask h k ∈ t.place.toList := by rw [k2]; exact j2
  obtain ⟨K, a, b, c⟩ := st_least (p := fun k => ¬ way t.mask h k ∈ t.place.toList) k k3
  exact ⟨K, by omega, b, fun q hq => Classical.byContradiction fun z => c q hq z⟩
theorem TabG.before (T : TabG t hs) {h : Int} {K i j : Nat} (free : way t.mask h K ∉ t.place.toList) (hi : hs[i]? = some h) (hj : t.place.toList[i]? = some j) : ∃ k, k < K ∧ way t.mask h k = j := by
  obtain ⟨k, a, b⟩ := T.reach i h j hi hj
  refine ⟨k, Classical.byContradiction fun z => ?_, b⟩
  by_cases e : K = k
  · subst e
    rw [b] at free
    exact free (List.mem_of_getElem? hj)
  · exact free (a K (by omega))
theorem TabG.put (T : TabG t hs) {h : Int} {K : Nat} (free : way t.mask h K ∉ t.place.toList) (taken : ∀ k, k < K → way t.mask h k ∈ t.place.toList) :
    (t.put (way t.mask h K)).2 = SetTable.below t.place (way t.mask h K) ∧
    SetTable.below t.place (way t.mask h K) ≤ hs.length ∧
    TabG (t.put (way t.mask h K)).1 (hs.take (SetTable.below t.place (way t.mask h K)) ++ h :: hs.drop (SetTable.below t.place (way t.mask h K))) ∧
    (t.put (way t.mask h K)).1.mask = t.mask ∧
    (t.put (way t.mask h K)).1.led = t.led ∧ (t.put (way t.mask h K)).1.plain = t.plain ∧
    (t.put (way t.mask h K)).1.moves = t.moves ∧ (t.put (way t.mask h K)).1.finger = t.finger ∧
    (t.put (way t.mask h K)).1.fill = hs.length + 1 := by
  have hin := way_in t.mask h K
  generalize hw : way t.mask h K = j at free hin ⊢
  have cut := (below_cut T.ris j).1
  have L1 : t.place.toList.length = hs.length := by rw [Array.length_toList, T.sz]
  have b1 : SetTable.below t.place j ≤ hs.length := by rw [← T.sz]; exact cut
  have b2 : SetTable.below t.place j ≤ t.place.toList.length := by rw [L1]; exact b1
  have P := put_place t j
  have no : t.place[SetTable.below t.place j]? ≠ some j := fun e => by
    rw [← Array.getElem?_toList] at e
    exact free (List.mem_of_getElem? e)
  have sz : (t.put j).1.place.size = hs.length + 1 := by rw [← Array.length_toList, P, len_ins _ b2, L1]
  have stay : ∀ x, x ∈ t.place.toList → x ∈ (t.put j).1.place.toList := fun x hx => by rw [P]; exact mem_ins.2 (.inr hx)
  have old : ∀ {i : Nat} {h' j'}, hs[i]? = some h' → t.place.toList[i]? = some j' → ∃ k, (∀ c, c < k → way t.mask h' c ∈ (t.put j).1.place.toList) ∧ way t.mask h' k = j' := fun p q => by
    obtain ⟨k, a, b⟩ := T.reach _ _ _ p q
    exact ⟨k, fun c hc => stay _ (a c hc), b⟩
  refine ⟨rfl, b1, ⟨ris_insert T.ris no, put_dm T.dm j, ?_, T.mok, ?_, ?_⟩, rfl, rfl, rfl, rfl, rfl, ?_⟩
  · rw [sz, len_ins _ b1]
  · intro x hx
    rw [P] at hx
    rcases mem_ins.1 hx with e | e
    · rw [e]; exact hin
    · exact T.bd x e
  · intro i h' j' p q
    rw [P, tins_get _ b2] at q
    rw [tins_get hs b1] at p
    by_cases c1 : i < SetTable.below t.place j
    · simp only [c1, if_true] at p q
      exact old p q
    · by_cases c2 : i = SetTable.below t.place j
      · simp only [c1, c2, Nat.lt_irrefl, if_false, if_true, Option.some.injEq] at p q
        subst p
        subst q
        exact ⟨K, fun c hc => stay _ (taken c hc), hw⟩
      · simp only [c1, c2, if_false] at p q
        exact old p q
  · unfold SetTable.fill
    rw [sz, put_dm T.dm j]
    rfl
end
theorem MkG.free {m : Nat} (hm : MkG m) (ow : Array (Option Nat)) (h : Int) {j : Nat} (hj : j ≤ m) (hf : oAt ow j = none) :
    ∃ K, SetTable.layClean.free m ow (SetTable.turns m) (SetTable.bits h % (m + 1)) (SetTable.bits h) = some (way m h K) ∧ oAt ow (way m h K) = none ∧ ∀ k, k < K → oAt ow (way m h k) ≠ none := by
  obtain ⟨n, n1, n2⟩ := hm.run h hj
  have at_n : way m h (off m (SetTable.bits h % (m + 1)) (SetTable.bits h) n) = j := by
    have z := nth_off m n (SetTable.bits h % (m + 1)) (SetTable.bits h)
    rw [itL_run] at z
    exact (congrArg SetTable.Probe.j z).trans n2
  have fr : oAt ow (way m h (off m (SetTable.bits h % (m + 1)) (SetTable.bits h) n)) = none := by rw [at_n]; exact hf
  obtain ⟨K, a, b, c⟩ := st_least (p := fun k => oAt ow (way m h k) = none) _ fr
  refine ⟨K, free_spec m ow _ n _ _ K (by unfold SetTable.turns; omega) a (fun k hk => ?_) (by show (oAt ow (way m h K)).isNone = true; rw [b]; rfl), b, c⟩
  show (oAt ow (way m h k)).isNone = false
  cases z : oAt ow (way m h k)
  · exact absurd z (c k hk)
  · rfl
end G
end
section
namespace G
open PySem L2 PyProof.Rows
def KeyAt (h : Heap) (k : NK) (a : Addr) : Prop := NestedIs h k (.ref a) ∧ k.depth ≤ 8
section
variable {P : Program} {w : World} {E : Value → Shared → Prop}
theorem KeyAt.inj {h : Heap} {k l : NK} {a : Addr} (x : KeyAt h k a) (y : KeyAt h l a) : k = l := NestedIs.inj _ _ _ x.1 y.1
theorem KeyAt.move {h h' : Heap} {k : NK} {a : Addr} (f : ∀ b o vs n, h.get? b = some o → o.data = .seq vs n → h'.get? b = some o) (x : KeyAt h k a) : KeyAt h' k a := ⟨NestedIs.at f k _ x.1, x.2⟩
theorem KeyAt.keep {h h' : Heap} {k : NK} {a : Addr} (x : KeyAt h k a) (f : ∀ b o, h.get? b = some o → h'.get? b = some o) : KeyAt h' k a := x.move fun b o _ _ e _ => f b o e
end
end G
end
section
namespace G
open PySem L2 PyProof.Rows
section
variable {P : Program} {w : World} {A : Around} {E : Value → Shared → Prop} {s : Shared}
abbrev Ks := List (Addr × NK)
def ents (w : World) (L : Ks) : List (Int × Value) := L.map fun p => (p.2.hash w, Value.ref p.1)
abbrev hsh (w : World) (L : Ks) : List Int := L.map fun p => p.2.hash w
structure SetK (w : World) (h : Heap) (a : Addr) (L : Ks) (es : Array (Int × Value)) (ep : Nat) (t : SetTable) : Prop where
  at_ : ∃ o, h.get? a = some o ∧ o.ExactSet ∧ o.data = .set es ep t
  ent : es.toList = ents w L
  tab : TabG t (hsh w L)
  once : (L.map (·.2)).Nodup
  keys : ∀ p ∈ L, KeyAt h p.2 p.1
  led : w.params.followText "set-order" = true ∨ t.led = true
  room : L.length * 5 < t.mask * 3
variable {a : Addr} {L : Ks} {es : Array (Int × Value)} {ep : Nat} {t : SetTable}
end
end G
end
section
namespace G
open PySem L2 PyProof.Rows
section
variable {P : Program} {w : World} {A : Around} {E : Value → Shared → Prop} {s : Shared}
variable {a : Addr} {L : Ks} {es : Array (Int × Value)} {ep : Nat} {t : SetTable}
end
end G
end
section
namespace G
open PySem L2 PyProof.Rows
structure SetIs (ks L : Ks) : Prop where
  sub : ∀ p ∈ L, p ∈ ks
  all : ∀ p ∈ ks, p.2 ∈ L.map (·.2)
theorem SetIs.nil : SetIs [] [] := ⟨fun _ h => h, fun _ h => absurd h List.not_mem_nil⟩
theorem nodup_len {α : Type} [DecidableEq α] : ∀ (l m : List α), l.Nodup → (∀ x ∈ l, x ∈ m) → l.length ≤ m.length
  | [], m, _, _ => Nat.zero_le _
  | x :: l, m, h, f => by
    have h1 := List.nodup_cons.mp h
    have hx : x ∈ m := f x List.mem_cons_self
    have := nodup_len l (m.erase x) h1.2 fun y hy => by
      have ne : y ≠ x := fun e => h1.1 (by rw [← e]; exact hy)
      exact (List.mem_erase_of_ne ne).mpr (f y (List.mem_cons_of_mem _ hy))
    rw [List.length_erase_of_mem hx] at this
    have := List.length_pos_of_mem hx
    simp only [List.length_cons]
    omega
theorem SetIs.few {ks L : Ks} (g : SetIs ks L) (once : (L.map (·.2)).Nodup) : L.length ≤ ks.length := by
  have := nodup_len (L.map (·.2)) (ks.map (·.2)) once fun x hx => by
    obtain ⟨p, hp, rfl⟩ := List.mem_map.mp hx
    exact List.mem_map.mpr ⟨p, g.sub p hp, rfl⟩
  simpa using this
section
variable {P : Program} {w : World} {A : Around} {E : Value → Shared → Prop} {s : Shared}
theorem SetK.keep {h h' : Heap} {a : Addr} {L : Ks} {es : Array (Int × Value)} {ep : Nat} {t : SetTable} (R : SetK w h a L es ep t) (ha : ∀ o, h.get? a = some o → h'.get? a = some o) (hk : ∀ p ∈ L, KeyAt h' p.2 p.1) : SetK w h' a L es ep t := by
  obtain ⟨o, ho, r⟩ := R.at_
  exact ⟨⟨o, ha o ho, r⟩, R.ent, R.tab, R.once, hk, R.led, R.room⟩
end
end G
end
section
namespace G
open PySem L2 PyProof.Rows
section
variable {P : Program} {w : World} {A : Around} {E : Value → Shared → Prop} {s : Shared}
end
end G
end
section
namespace G
open PySem L2 PyProof.Rows PySem.W
mutual
theorem toks_eq : ∀ (p q : PyData), PyData.eqv p q = true → keyToks p = keyToks q
  | .none, q, h => by cases q <;> simp [PyData.eqv] at h <;> rfl
  | .bool a, q, h => by
    cases q <;> simp [PyData.eqv] at h
    · subst h; rfl
    · simp only [keyToks, ← h]
  | .int i, q, h => by
    cases q <;> simp [PyData.eqv] at h
    · simp only [keyToks, h]
    · subst h; rfl
  | .str x, q, h => by
    cases q <;> simp [PyData.eqv] at h
    subst h; rfl
  | .list xs, q, h => by
    cases q <;> simp only [PyData.eqv, Bool.false_eq_true] at h
    simp only [keyToks]
    exact toks_eqs _ _ h
  | .tuple xs, q, h => by
    cases q <;> simp only [PyData.eqv, Bool.false_eq_true] at h
    simp only [keyToks]
    exact toks_eqs _ _ h
  | .dict _, q, h => by cases q <;> simp [PyData.eqv] at h
theorem toks_eqs : ∀ (xs ys : List PyData), PyData.eqvAll xs ys = true → keyToksAll xs = keyToksAll ys
  | [], [], _ => rfl
  | [], _ :: _, h => by simp [PyData.eqvAll] at h
  | _ :: _, [], h => by simp [PyData.eqvAll] at h
  | x :: xs, y :: ys, h => by
    simp only [PyData.eqvAll, Bool.and_eq_true] at h
    simp only [keyToksAll, toks_eq x y h.1, toks_eqs xs ys h.2]
end
abbrev lx := PyProof.Rows.lexLt itemOrd
mutual
theorem pLt_lex : ∀ (p q : PyData) (b : Bool), pLt p q = some b → PyData.eqv p q = false → ∀ l m, lx (keyToks p ++ l) (keyToks q ++ m) = b
  | .int i, q, b, h, e, l, m => by
    cases q with
    | int j =>
      simp only [pLt, Option.some.injEq] at h
      subst h
      have ne : (Sum.inl i : Int ⊕ List Nat) ≠ Sum.inl j := fun z => by
        injection z with z
        simp [PyData.eqv, z] at e
      exact lex_diff (O := itemOrd) ne
    | _ => simp [pLt] at h
  | .str x, q, b, h, e, l, m => by
    cases q with
    | str y =>
      simp only [pLt, Option.some.injEq] at h
      subst h
      have ne : (Sum.inr x.cps.toList : Int ⊕ List Nat) ≠ Sum.inr y.cps.toList := fun z => by
        injection z with z
        simp [PyData.eqv, PySem.W.str_of_cps z] at e
      exact lex_diff (O := itemOrd) ne
    | _ => simp [pLt] at h
  | .tuple xs, q, b, h, e, l, m => by
    cases q with
    | tuple ys =>
      simp only [pLt] at h
      simp only [PyData.eqv] at e
      simp only [keyToks]
      exact pLts_lex xs ys b h e l m
    | _ => simp [pLt] at h
  | .none, q, b, h, e, l, m => by cases q <;> simp [pLt] at h
  | .bool _, q, b, h, e, l, m => by cases q <;> simp [pLt] at h
  | .list _, q, b, h, e, l, m => by cases q <;> simp [pLt] at h
  | .dict _, q, b, h, e, l, m => by cases q <;> simp [pLt] at h
theorem pLts_lex : ∀ (xs ys : List PyData) (b : Bool), pLts xs ys = some b → PyData.eqvAll xs ys = false → ∀ l m, lx (keyToksAll xs ++ l) (keyToksAll ys ++ m) = b
  | [], [], b, h, e, l, m => by simp [PyData.eqvAll] at e
  | [], y :: ys, b, h, e, l, m => by
    simp only [pLts, Option.some.injEq] at h
    subst h
    exact lex_diff (O := itemOrd) (x := .inl 0) (y := .inl 1) (by simp)
  | x :: xs, [], b, h, e, l, m => by
    simp only [pLts, Option.some.injEq] at h
    subst h
    exact lex_diff (O := itemOrd) (x := .inl 1) (y := .inl 0) (by simp)
  | x :: xs, y :: ys, b, h, e, l, m => by
    simp only [pLts] at h
    simp only [keyToksAll, List.cons_append, List.append_assoc]
    refine (lex_self (O := itemOrd) (Sum.inl 1) _ _).trans ?_
    cases hx : PyData.eqv x y with
    | true =>
      rw [if_pos hx] at h
      simp only [PyData.eqvAll, hx, Bool.true_and] at e
      rw [toks_eq x y hx]
      refine (lex_pre _ _ _).trans ?_
      exact pLts_lex xs ys b h e l m
    | false =>
      rw [hx] at h
      simp only [Bool.false_eq_true, if_false] at h
      exact pLt_lex x y b h hx _ _
end
theorem pLt_data {p q : PyData} {b : Bool} (h : pLt p q = some b) (hn : PyData.eqv p q = false) : dataLt p q = b := by
  unfold dataLt
  simpa using pLt_lex p q b h hn [] []
section
variable {P : Program} {w : World} {A : Around} {s : Shared}
end
end G
end
section
namespace G
open PySem L2 PyProof.Rows PySem.W
mutual
theorem eqv_key : ∀ (k j : NK), PyData.eqv k.data j.data = NestedKey.beq k j
  | .none, .none => by simp [NestedKey.data, PyData.eqv, NestedKey.beq]
  | .none, .num _ => by simp [NestedKey.data, PyData.eqv, NestedKey.beq]
  | .none, .text _ => by simp [NestedKey.data, PyData.eqv, NestedKey.beq]
  | .none, .tup _ => by simp [NestedKey.data, PyData.eqv, NestedKey.beq]
  | .num a, .none => by simp [NestedKey.data, PyData.eqv, NestedKey.beq]
  | .num a, .num b => by simp [NestedKey.data, PyData.eqv, NestedKey.beq]; rfl
  | .num a, .text _ => by simp [NestedKey.data, PyData.eqv, NestedKey.beq]
  | .num a, .tup _ => by simp [NestedKey.data, PyData.eqv, NestedKey.beq]
  | .text a, .none => by simp [NestedKey.data, PyData.eqv, NestedKey.beq]
  | .text a, .num _ => by simp [NestedKey.data, PyData.eqv, NestedKey.beq]
  | .text a, .text b => by simp [NestedKey.data, PyData.eqv, NestedKey.beq]; rfl
  | .text a, .tup _ => by simp [NestedKey.data, PyData.eqv, NestedKey.beq]
  | .tup a, .none => by simp [NestedKey.data, PyData.eqv, NestedKey.beq]
  | .tup a, .num _ => by simp [NestedKey.data, PyData.eqv, NestedKey.beq]
  | .tup a, .text _ => by simp [NestedKey.data, PyData.eqv, NestedKey.beq]
  | .tup a, .tup b => by
    simp only [NestedKey.data, PyData.eqv, NestedKey.beq]
    exact eqv_keys a b
theorem eqv_keys : ∀ (a b : List NK), PyData.eqvAll (NestedKey.datas a) (NestedKey.datas b) = NestedKey.beqAll a b
  | [], [] => by simp [NestedKey.datas, PyData.eqvAll, NestedKey.beqAll]
  | [], _ :: _ => by simp [NestedKey.datas, PyData.eqvAll, NestedKey.beqAll]
  | _ :: _, [] => by simp [NestedKey.datas, PyData.eqvAll, NestedKey.beqAll]
  | x :: a, y :: b => by simp only [NestedKey.datas, PyData.eqvAll, NestedKey.beqAll, eqv_key x y, eqv_keys a b]
end
theorem eqv_ne {k j : NK} (h : k ≠ j) : PyData.eqv k.data j.data = false := by
  rw [eqv_key]
  cases e : NestedKey.beq k j with
  | false => rfl
  | true => exact absurd (NestedKey.eq_of_beq k j e) h
mutual
theorem eqv_flip : ∀ (p q : PyData), PyData.eqv p q = PyData.eqv q p
  | p, q => by
    cases p with
    | none => cases q <;> simp [PyData.eqv]
    | bool a => cases q <;> simp [PyData.eqv] <;> exact Bool.eq_iff_iff.mpr ⟨fun h => by simpa using (by simpa using h : _ = _).symm, fun h => by simpa using (by simpa using h : _ = _).symm⟩
    | int i => cases q <;> simp [PyData.eqv] <;> exact Bool.eq_iff_iff.mpr ⟨fun h => by simpa using (by simpa using h : _ = _).symm, fun h => by simpa using (by simpa using h : _ = _).symm⟩
    | str x => cases q <;> simp [PyData.eqv] <;> exact Bool.eq_iff_iff.mpr ⟨fun h => by simpa using (by simpa using h : _ = _).symm, fun h => by simpa using (by simpa using h : _ = _).symm⟩
    | list xs => cases q <;> simp only [PyData.eqv]; exact eqvs_flip _ _
    | tuple xs => cases q <;> simp only [PyData.eqv]; exact eqvs_flip _ _
    | dict _ => cases q <;> simp [PyData.eqv]
theorem eqvs_flip : ∀ (xs ys : List PyData), PyData.eqvAll xs ys = PyData.eqvAll ys xs
  | [], [] => rfl
  | [], _ :: _ => by simp [PyData.eqvAll]
  | _ :: _, [] => by simp [PyData.eqvAll]
  | x :: xs, y :: ys => by simp only [PyData.eqvAll, eqv_flip x y, eqvs_flip xs ys]
end
theorem cps_flip (x y : List Nat) (h : x ≠ y) : decide (y < x) = !decide (x < y) := by
  by_cases h1 : x < y
  · have : ¬ y < x := List.lt_asymm h1
    simp [h1, this]
  · have h2 : y ≤ x := List.not_lt.mp h1
    by_cases h3 : y < x
    · simp [h1, h3]
    · exact absurd (List.le_antisymm (List.not_lt.mp h3) h2) h
mutual
theorem pLt_flip : ∀ (p q : PyData) (b : Bool), pLt p q = some b → PyData.eqv p q = false → pLt q p = some (!b)
  | .int i, q, b, h, e => by
    cases q with
    | int j =>
      simp only [pLt, Option.some.injEq] at h ⊢
      subst h
      have : i ≠ j := fun z => by simp [PyData.eqv, z] at e
      by_cases h1 : i < j
      · simp [h1]; omega
      · simp [h1]; omega
    | _ => simp [pLt] at h
  | .str x, q, b, h, e => by
    cases q with
    | str y =>
      simp only [pLt, Option.some.injEq] at h ⊢
      subst h
      exact cps_flip _ _ fun z => by simp [PyData.eqv, PySem.W.str_of_cps z] at e
    | _ => simp [pLt] at h
  | .tuple xs, q, b, h, e => by
    cases q with
    | tuple ys =>
      simp only [pLt, PyData.eqv] at h e ⊢
      exact pLts_flip xs ys b h e
    | _ => simp [pLt] at h
  | .none, q, b, h, e => by cases q <;> simp [pLt] at h
  | .bool _, q, b, h, e => by cases q <;> simp [pLt] at h
  | .list _, q, b, h, e => by cases q <;> simp [pLt] at h
  | .dict _, q, b, h, e => by cases q <;> simp [pLt] at h
theorem pLts_flip : ∀ (xs ys : List PyData) (b : Bool), pLts xs ys = some b → PyData.eqvAll xs ys = false → pLts ys xs = some (!b)
  | [], [], b, h, e => by simp [PyData.eqvAll] at e
  | [], y :: ys, b, h, e => by
    simp only [pLts, Option.some.injEq] at h ⊢
    rw [← h]
    rfl
  | x :: xs, [], b, h, e => by
    simp only [pLts, Option.some.injEq] at h ⊢
    rw [← h]
    rfl
  | x :: xs, y :: ys, b, h, e => by
    simp only [pLts] at h ⊢
    rw [eqv_flip y x]
    cases hx : PyData.eqv x y with
    | true =>
      rw [if_pos hx] at h
      simp only [PyData.eqvAll, hx, Bool.true_and] at e
      rw [if_pos rfl]
      exact pLts_flip xs ys b h e
    | false =>
      rw [hx] at h
      simp only [Bool.false_eq_true, if_false] at h ⊢
      exact pLt_flip x y b h hx
end
mutual
theorem reads_keep {h h' : Heap} (f : ∀ b o, h.get? b = some o → o.cls = .type "tuple" → h'.get? b = some o) : ∀ (k : NK) (v : Value) (as : List Addr), Reads h v k.data as → Reads h' v k.data as
  | .none, _, _, r => by simp only [NestedKey.data] at r ⊢; cases r; exact .none
  | .num i, _, _, r => by simp only [NestedKey.data] at r ⊢; cases r; exact .int _ _
  | .text x, _, _, r => by simp only [NestedKey.data] at r ⊢; cases r; exact .str _ _
  | .tup ks, _, _, r => by
    simp only [NestedKey.data] at r ⊢
    cases r with
    | tuple h1 h2 h3 h4 => exact .tuple (f _ _ h1 h2) h2 h3 (reads_keeps f ks _ _ h4)
theorem reads_keeps {h h' : Heap} (f : ∀ b o, h.get? b = some o → o.cls = .type "tuple" → h'.get? b = some o) : ∀ (ks : List NK) (vs : List Value) (as : List Addr), ReadsAll h vs (NestedKey.datas ks) as → ReadsAll h' vs (NestedKey.datas ks) as
  | [], _, _, r => by simp only [NestedKey.datas] at r ⊢; cases r; exact .nil
  | k :: ks, _, _, r => by
    simp only [NestedKey.datas] at r ⊢
    cases r with
    | cons r1 r2 => exact .cons (reads_keep f k _ _ r1) (reads_keeps f ks _ _ r2)
end
mutual
theorem nested_reads {h : Heap} : ∀ (k : NK) (v : Value) (as : List Addr), Reads h v k.data as → NestedIs h k v
  | .none, _, _, r => by simp only [NestedKey.data] at r; cases r; exact .none
  | .num i, _, _, r => by simp only [NestedKey.data] at r; cases r; exact .int _ _
  | .text x, _, _, r => by simp only [NestedKey.data] at r; cases r; exact .text _ _
  | .tup ks, _, _, r => by
    simp only [NestedKey.data] at r
    cases r with
    | tuple h1 h2 h3 h4 => exact .tup h1 h2 h3 (nested_readss ks _ _ h4)
theorem nested_readss {h : Heap} : ∀ (ks : List NK) (vs : List Value) (as : List Addr), ReadsAll h vs (NestedKey.datas ks) as → NestedAll h ks vs
  | [], _, _, r => by simp only [NestedKey.datas] at r; cases r; exact .nil
  | k :: ks, _, _, r => by
    simp only [NestedKey.datas] at r
    cases r with
    | cons r1 r2 => exact .cons (nested_reads k _ _ r1) (nested_readss ks _ _ r2)
end
end G
end
section
namespace G
open PySem L2 PyProof.Rows PySem.W
def Formed (L : Ks) : Prop := (∀ p ∈ L, ∃ x r, p.2 = .tup (.tup x :: r)) ∨ ∀ p ∈ L, ∃ i r, p.2 = .tup (.num i :: r)
structure Sortd (h : Heap) (L : Ks) : Prop where
  form : Formed L
  rd : ∀ p ∈ L, ∃ as, Reads h (.ref p.1) p.2.data as
  ok : ∀ p ∈ L, p.2.data.canLay0 = true
  dp : ∀ p ∈ L, p.2.data.depth ≤ 8
  cmp : ∀ p ∈ L, ∀ q ∈ L, ∃ b, pLt p.2.data q.2.data = some b
theorem Sortd.keep {h h' : Heap} {L : Ks} (x : Sortd h L) (f : ∀ b o, h.get? b = some o → o.cls = .type "tuple" → h'.get? b = some o) : Sortd h' L :=
  ⟨x.form, fun p hp => (x.rd p hp).imp fun as r => reads_keep f p.2 _ as r, x.ok, x.dp, x.cmp⟩
section
variable {P : Program} {w : World} {A : Around} {E : Value → Shared → Prop} {s : Shared}
end
end G
end
section
namespace G
open PySem L2 PyProof.Rows PySem.W
def SetK0 (w : World) (h : Heap) (a : Addr) (L : Ks) : Prop := ∃ es ep t, (∃ o, h.get? a = some o ∧ o.ExactSet ∧ o.data = .set es ep t) ∧ es.toList = ents w L ∧ TabG t (hsh w L) ∧ (L.map (·.2)).Nodup ∧ (w.params.followText "set-order" = true ∨ t.led = true) ∧ L.length * 5 < t.mask * 3
def SetKO (w : World) (a : Addr) (L : Ks) : HO := .ext fun h => SetK0 w h a L
theorem SetK.k0 {w : World} {h : Heap} {a : Addr} {L : Ks} {es : Array (Int × Value)} {ep : Nat} {t : SetTable} (R : SetK w h a L es ep t) : SetK0 w h a L := ⟨es, ep, t, R.at_, R.ent, R.tab, R.once, R.led, R.room⟩
section
variable {X : Cx}
end
mutual
def dOf : NK → D
  | .none => .non
  | .num i => .int i
  | .text x => .str x
  | .tup ks => .tup (dOfs ks)
def dOfs : List NK → List D
  | [] => []
  | k :: r => dOf k :: dOfs r
end
mutual
theorem nkD_dOf : ∀ (d : D) (k : NK), nkD d = some k → d = dOf k ∧ pd d = some k.data
  | .int i, k, h => by
    simp only [nkD] at h
    cases h
    exact ⟨by simp only [dOf], by simp only [pd, NestedKey.data]⟩
  | .str i, k, h => by
    simp only [nkD] at h
    cases h
    exact ⟨by simp only [dOf], by simp only [pd, NestedKey.data]⟩
  | .tup ds, k, h => by
    simp only [nkD] at h
    obtain ⟨ks, h1, rfl⟩ := Option.map_eq_some_iff.mp h
    obtain ⟨e1, e2⟩ := nkDs_dOfs ds ks h1
    exact ⟨by simp only [dOf, e1], by simp only [pd, NestedKey.data, e2, Option.map_some]⟩
  | .non, k, h => by simp [nkD] at h
  | .bl _, k, h => by simp [nkD] at h
  | .lst _, k, h => by simp [nkD] at h
  | .dic _ _, k, h => by simp [nkD] at h
  | .ins _ _ _, k, h => by simp [nkD] at h
  | .ref _, k, h => by simp [nkD] at h
  | .fn _, k, h => by simp [nkD] at h
  | .scr _, k, h => by simp [nkD] at h
  | .ktp _, k, h => by simp [nkD] at h
  | .ty _, k, h => by simp [nkD] at h
  | .cl _, k, h => by simp [nkD] at h
  | .lam _ _ _ _ _, k, h => by simp [nkD] at h
theorem nkDs_dOfs : ∀ (ds : List D) (ks : List NK), nkDs ds = some ks → ds = dOfs ks ∧ pds ds = some (NestedKey.datas ks)
  | [], ks, h => by
    simp only [nkDs] at h
    cases h
    exact ⟨by simp only [dOfs], by simp only [pds, NestedKey.datas]⟩
  | d :: r, ks, h => by
    simp only [nkDs] at h
    cases h1 : nkD d with
    | none => rw [h1] at h; cases h
    | some k =>
      cases h2 : nkDs r with
      | none => rw [h1, h2] at h; cases h
      | some ks' =>
        rw [h1, h2] at h
        cases h
        obtain ⟨e1, e2⟩ := nkD_dOf d k h1
        obtain ⟨e3, e4⟩ := nkDs_dOfs r ks' h2
        exact ⟨by simp only [dOfs, ← e1, ← e3], by simp only [pds, e2, e4, NestedKey.datas]⟩
end
theorem dOfs_map : ∀ ks : List NK, dOfs ks = ks.map dOf
  | [] => by simp only [dOfs, List.map_nil]
  | k :: r => by simp only [dOfs, List.map_cons, dOfs_map r]
def ltK (k j : NK) : Bool := dataLt k.data j.data
def insK (k : NK) : List NK → List NK
  | [] => [k]
  | x :: l => if k = x then x :: l else if ltK k x = true then k :: x :: l else x :: insK k l
def sortK : List NK → List NK
  | [] => []
  | k :: r => insK k (sortK r)
theorem mem_insK (k j : NK) : ∀ l : List NK, j ∈ insK k l ↔ j = k ∨ j ∈ l
  | [] => by simp [insK]
  | x :: l => by
    unfold insK
    split
    · rename_i e
      subst e
      simp
    · split
      · simp
      · simp only [List.mem_cons, mem_insK k j l]
        constructor
        · rintro (h | h | h)
          · exact .inr (.inl h)
          · exact .inl h
          · exact .inr (.inr h)
        · rintro (h | h | h)
          · exact .inr (.inl h)
          · exact .inl h
          · exact .inr (.inr h)
theorem mem_sortK (j : NK) : ∀ l : List NK, j ∈ sortK l ↔ j ∈ l
  | [] => by simp [sortK]
  | k :: r => by simp only [sortK, mem_insK, mem_sortK j r, List.mem_cons]
theorem ltK_irr (k : NK) : ltK k k = false := lex_irrefl (O := itemOrd) _
theorem ltK_trans {a b c : NK} (h1 : ltK a b = true) (h2 : ltK b c = true) : ltK a c = true := lex_trans (O := itemOrd) _ _ _ h1 h2
theorem ltK_asym {a b : NK} (h : ltK a b = true) : ltK b a = false := by
  cases e : ltK b a with
  | false => rfl
  | true =>
    have := ltK_trans h e
    rw [ltK_irr] at this
    cases this
def CmpK (ks : List NK) : Prop := ∀ a ∈ ks, ∀ b ∈ ks, ∃ c, pLt a.data b.data = some c
theorem ltK_total {ks : List NK} (h : CmpK ks) {a b : NK} (ha : a ∈ ks) (hb : b ∈ ks) (ne : a ≠ b) : ltK a b = true ∨ ltK b a = true := by
  obtain ⟨c, e⟩ := h a ha b hb
  have n1 := eqv_ne ne
  have e2 := pLt_flip _ _ c e n1
  cases c with
  | true => exact .inl (pLt_data e n1)
  | false => exact .inr (pLt_data e2 (by rw [eqv_flip]; exact n1))
theorem insK_asc {ks : List NK} (hc : CmpK ks) {k : NK} (hk : k ∈ ks) : ∀ l : List NK, (∀ x ∈ l, x ∈ ks) → l.Pairwise (fun a b => ltK a b = true) → (insK k l).Pairwise fun a b => ltK a b = true
  | [], _, _ => by simp [insK]
  | x :: l, hl, hp => by
    obtain ⟨h1, h2⟩ := List.pairwise_cons.mp hp
    unfold insK
    split
    · exact hp
    · rename_i ne
      split
      · rename_i lt
        refine List.pairwise_cons.mpr ⟨fun y hy => ?_, hp⟩
        rcases List.mem_cons.mp hy with z | z
        · rw [z]; exact lt
        · exact ltK_trans lt (h1 y z)
      · rename_i nlt
        refine List.pairwise_cons.mpr ⟨fun y hy => ?_, insK_asc hc hk l (fun y hy => hl y (List.mem_cons_of_mem _ hy)) h2⟩
        rcases (mem_insK k y l).mp hy with z | z
        · rw [z]
          rcases ltK_total hc hk (hl x List.mem_cons_self) ne with t | t
          · exact absurd t nlt
          · exact t
        · exact h1 y z
theorem sortK_asc' {ks : List NK} (hc : CmpK ks) : ∀ l : List NK, (∀ x ∈ l, x ∈ ks) → (sortK l).Pairwise fun a b => ltK a b = true
  | [], _ => List.Pairwise.nil
  | k :: r, h => insK_asc hc (h k List.mem_cons_self) _ (fun x hx => h x (List.mem_cons_of_mem _ ((mem_sortK x r).mp hx))) (sortK_asc' hc r fun x hx => h x (List.mem_cons_of_mem _ hx))
theorem sortK_asc {ks : List NK} (hc : CmpK ks) : (sortK ks).Pairwise fun a b => ltK a b = true := sortK_asc' hc ks fun _ h => h
def FormK (ks : List NK) : Prop := (∀ k ∈ ks, ∃ x r, k = .tup (.tup x :: r)) ∨ ∀ k ∈ ks, ∃ i r, k = .tup (.num i :: r)
structure SortOk (ks : List NK) : Prop where
  few : ks.length < 306
  form : FormK ks
  ok : ∀ k ∈ ks, k.data.canLay0 = true
  dp : ∀ k ∈ ks, k.data.depth ≤ 8 ∧ k.depth ≤ 8
  cmp : CmpK ks
def seqA (S : Sto) (x : D) : Option (List D) := match seqL S x with
  | some ds => some ds
  | none => seqT x
open Classical in
noncomputable def dSortSet (S : Sto) : List D → Option D
  | [x] => match seqA S x with
    | some ds => match nkDs ds with
      | some ks => if SortOk ks then some (.lst (dOfs (sortK ks))) else none
      | none => none
    | none => none
  | _ => none
end G
end
section
namespace G
open PySem L2 PyProof.Rows PySem.W
section
variable {P : Program} {w : World} {A : Around} {E : Value → Shared → Prop} {s : Shared}
end
end G
end
section
namespace G
open PySem L2
structure CutOf (m : Mp) (n : Nat) (m' : Mp) : Prop where
  mu : m'.mu = m.mu
  n' : m'.n = n
  le : n ≤ m.n
  keep : ∀ a, m.out a → m'.Z a = m.Z a
section
variable {B : Bas} {m m' : Mp} {n : Nat}
theorem CutOf.out (C : CutOf m n m') {a : Addr} (h : m.out a) : m'.out a := fun i hi => by
  rw [C.mu]
  exact h i (Nat.lt_of_lt_of_le (C.n' ▸ hi) C.le)
mutual
theorem Rep.cutG (C : CutOf m n m') : ∀ {d : D} {v : V}, Rep B m d v → d.bel n → Rep B m' d v
  | .non, _, h, _ => by simpa only [Rep] using h
  | .bl _, _, h, _ => by simpa only [Rep] using h
  | .int _, _, h, _ => by simpa only [Rep] using h
  | .str _, _, h, _ => by simpa only [Rep] using h
  | .fn _, _, h, _ => by simpa only [Rep] using h
  | .ty _, _, h, _ => by simpa only [Rep] using h
  | .cl _, _, h, _ => by simpa only [Rep] using h
  | .lam f c q ds us, v, h, b => by
    simp only [Rep] at h ⊢
    simp only [D.bel] at b
    obtain ⟨e, t, o, r⟩ := h
    exact ⟨e, (C.keep c o).trans t, C.out o, Reps.cutG C r b⟩
  | .ref i, v, h, b => by
    simp only [Rep] at h ⊢
    simp only [D.bel] at b
    exact ⟨by rw [C.n']; exact b, by rw [C.mu]; exact h.2⟩
  | .tup ds, v, h, b => by
    simp only [Rep] at h ⊢
    simp only [D.bel] at b
    obtain ⟨a, vs, e, t, r⟩ := h
    exact ⟨a, vs, e, ⟨(C.keep a t.2).trans t.1, C.out t.2⟩, Reps.cutG C r b⟩
  | .lst ds, v, h, b => by
    simp only [Rep] at h ⊢
    simp only [D.bel] at b
    obtain ⟨a, vs, e, t, r⟩ := h
    exact ⟨a, vs, e, ⟨(C.keep a t.2).trans t.1, C.out t.2⟩, Reps.cutG C r b⟩
  | .scr ds, v, h, b => by
    simp only [Rep] at h ⊢
    simp only [D.bel] at b
    obtain ⟨a, vs, e, t, r⟩ := h
    refine ⟨a, vs, e, ?_, Reps.cutG C r b⟩
    rcases t with ⟨t, o⟩ | t
    · refine .inl ⟨?_, C.out o⟩
      rcases t with t | ⟨x, t⟩
      · exact .inl ((C.keep a o).trans t)
      · exact .inr ⟨x, (C.keep a o).trans t⟩
    · exact .inr t
  | .ktp ds, v, h, b => by
    simp only [Rep] at h ⊢
    simp only [D.bel] at b
    obtain ⟨a, vs, e, t, r⟩ := h
    exact ⟨a, vs, e, t, Reps.cutG C r b⟩
  | .dic ks ds, v, h, b => by
    simp only [Rep] at h ⊢
    simp only [D.bel] at b
    obtain ⟨a, vs, e, o, t, r⟩ := h
    exact ⟨a, vs, e, C.out o, by rw [C.keep a o]; exact t, Reps.cutG C r b⟩
  | .ins c ns ds, v, h, b => by
    simp only [Rep] at h ⊢
    simp only [D.bel] at b
    obtain ⟨a, dx, vs, e, o, t, k, r⟩ := h
    exact ⟨a, dx, vs, e, C.out o, (C.keep a o).trans t, k, Reps.cutG C r b⟩
theorem Reps.cutG (C : CutOf m n m') : ∀ {ds : List D} {vs : List V}, Reps B m ds vs → D.bels n ds → Reps B m' ds vs
  | [], _, h, _ => by simpa only [Reps] using h
  | d :: ds, _, h, b => by
    simp only [Reps] at h ⊢
    simp only [D.bels] at b
    obtain ⟨v, r, e, p, q⟩ := h
    exact ⟨v, r, e, Rep.cutG C p b.1, Reps.cutG C q b.2⟩
end
end
open Classical in
noncomputable def Mp.frz (m : Mp) (n i : Nat) : Mp := { mu := m.mu, n := n, Z := fun a => if ∃ j, n ≤ j ∧ j < m.n ∧ j ≠ i ∧ m.mu j = a then none else m.Z a }
open Classical in
theorem Mp.frz_cut {m : Mp} {n i : Nat} (h : n ≤ m.n) : CutOf m n (m.frz n i) := ⟨rfl, rfl, h, fun a ho => by
  show (if ∃ j, n ≤ j ∧ j < m.n ∧ j ≠ i ∧ m.mu j = a then none else m.Z a) = _
  rw [if_neg]
  rintro ⟨j, _, h2, _, h3⟩
  exact ho j h2 h3⟩
open Classical in
theorem frz_all {B : Bas} {m m1 : Mp} {H H1 : Hp} {S S1 : Sto} {i0 : Nat} (c : Cor B m S) (l : Le m H m1 H1) (c1 : Cor B m1 S1) (cl : Cl S S1) : Le m H (m1.frz S.length i0) H1 ∧ Cor B (m1.frz S.length i0) (S1.take S.length) := by
  have hn : S.length ≤ m1.n := by rw [c1.n]; exact cl.1
  have C := Mp.frz_cut (m := m1) (i := i0) hn
  refine ⟨⟨⟨by rw [c.n]; exact Nat.le_refl _, fun i hi => l.mu i hi, fun a o h1 h2 => ?_⟩, fun a o h1 h2 => ?_, fun a o h => ?_⟩, ⟨?_, fun i o e => ?_, fun i j hi hj e => ?_⟩⟩
  · obtain ⟨k1, k2⟩ := l.keep a o h1 h2
    exact ⟨(C.keep a k2).trans k1, C.out k2⟩
  · obtain ⟨k1, k2 | ⟨k2, k3, k4⟩⟩ := l.fr0 a o h1 h2
    · refine ⟨k1, .inl ?_⟩
      show (if _ then none else m1.Z a) = none
      split
      · rfl
      · exact k2
    · exact ⟨k1, .inr ⟨(C.keep a k3).trans k2, C.out k3, k4⟩⟩
  · have h' : (if ∃ j, S.length ≤ j ∧ j < m1.n ∧ j ≠ i0 ∧ m1.mu j = a then none else m1.Z a) = some o := h
    split at h'
    · cases h'
    · exact l.sub a o h'
  · show S.length = _
    rw [List.length_take, Nat.min_eq_left cl.1]
  · have hi : i < S.length := by
      have := (List.getElem?_eq_some_iff.mp e).1
      rw [List.length_take] at this
      omega
    rw [List.getElem?_take_of_lt hi] at e
    have ob := c1.ob i o e
    have hz : (m1.frz S.length i0).Z (m1.mu i) = m1.Z (m1.mu i) := by
      show (if ∃ j, S.length ≤ j ∧ j < m1.n ∧ j ≠ i0 ∧ m1.mu j = m1.mu i then none else m1.Z (m1.mu i)) = m1.Z (m1.mu i)
      rw [if_neg]
      rintro ⟨j, h1, h2, _, h3⟩
      have := c1.inj j i h2 (Nat.lt_of_lt_of_le hi hn) h3
      omega
    have hb : o.bel S.length := by
      rcases cl.2 i hi with q | ⟨o', q, b⟩
      · rw [q] at e
        have := (c.ob i o e).bel
        rw [c.n] at this
        exact this
      · rw [q] at e
        cases e
        exact b
    cases o with
    | tbl i q =>
      obtain ⟨ea, ps, e, t, f⟩ := ob
      refine ⟨ea, ps, hz.trans e, t, fun pos cv hc => ?_⟩
      obtain ⟨c, e1, e2, e3⟩ := f pos cv hc
      exact ⟨c, e1, (C.keep c e3).trans e2, C.out e3⟩
    | ndc ks ds => obtain ⟨qs, vs, e, k, r1, r2⟩ := ob; exact ⟨qs, vs, by rw [show (m1.frz S.length i0).mu i = m1.mu i from rfl, hz]; exact e, k, Reps.cutG C r1 (nks_bel _ k), Reps.cutG C r2 hb⟩
    | lst ds => obtain ⟨vs, e, r⟩ := ob; exact ⟨vs, hz.trans e, Reps.cutG C r hb⟩
    | dic ks ds => obtain ⟨vs, e, r⟩ := ob; exact ⟨vs, by rw [show (m1.frz S.length i0).mu i = m1.mu i from rfl, hz]; exact e, Reps.cutG C r hb⟩
    | fdc o u ks ds => obtain ⟨e, vs, q, r⟩ := ob; exact ⟨hz.trans e, vs, q, Reps.cutG C r hb⟩
    | ins c ns ds => obtain ⟨dx, vs, e, k, r⟩ := ob; exact ⟨dx, vs, hz.trans e, k, Reps.cutG C r hb⟩
  · exact c1.inj i j (Nat.lt_of_lt_of_le hi hn) (Nat.lt_of_lt_of_le hj hn) e
def Ob.d : Ob → D
  | .lst ds => .lst ds
  | .dic ks ds => .dic ks ds
  | .ins c ns ds => .ins c ns ds
  | _ => .non
def Ob.pl : Ob → Bool
  | .tbl _ _ => false
  | .ndc _ _ => false
  | .fdc _ _ _ _ => false
  | _ => true
open Classical in
noncomputable def Res.frz (S : Sto) : Res D → Res D
  | .ok (.ref i) S' => if i < S.length then (Res.ok (.ref i) S').drop S else match S'[i]? with
    | some o => if (Cl S S' ∧ o.bel S.length) ∧ o.pl = true then .ok o.d (S'.take S.length) else .bad
    | none => .bad
  | r => r.drop S
noncomputable def frzF (F : Fn) : Fn := ⟨F.n, fun ds S => (F.run ds S).frz S⟩
open Classical in
theorem frz_rep {B : Bas} {m : Mp} {S : Sto} {n i : Nat} {o : Ob} (c : Cor B m S) (hn : n ≤ i) (hi : i < m.n) (e : S[i]? = some o) (b : o.bel n) (pl : o.pl = true) : Rep B (m.frz n i) o.d (.ref (m.mu i)) := by
  have le : n ≤ m.n := Nat.le_trans hn (Nat.le_of_lt hi)
  have C := Mp.frz_cut (m := m) (i := i) le
  have out : (m.frz n i).out (m.mu i) := fun j hj e' => by
    have := c.inj j i (Nat.lt_of_lt_of_le hj le) hi e'
    have hj' : j < n := hj
    omega
  have hz : (m.frz n i).Z (m.mu i) = m.Z (m.mu i) := by
    show (if ∃ j, n ≤ j ∧ j < m.n ∧ j ≠ i ∧ m.mu j = m.mu i then none else m.Z (m.mu i)) = m.Z (m.mu i)
    rw [if_neg]
    rintro ⟨j, _, h2, h3, h4⟩
    exact h3 (c.inj j i h2 hi h4)
  have ob := c.ob i o e
  cases o with
  | tbl i q => cases pl
  | ndc ks ds => cases pl
  | fdc o u ks ds => cases pl
  | lst ds =>
    obtain ⟨vs, e, r⟩ := ob
    simp only [Ob.d, Rep]
    exact ⟨_, vs, rfl, ⟨hz.trans e, out⟩, Reps.cutG C r b⟩
  | dic ks ds =>
    obtain ⟨vs, e, r⟩ := ob
    simp only [Ob.d, Rep]
    exact ⟨_, vs, rfl, out, by rw [hz]; exact e, Reps.cutG C r b⟩
  | ins c ns ds =>
    obtain ⟨dx, vs, e, k, r⟩ := ob
    simp only [Ob.d, Rep]
    exact ⟨_, dx, vs, rfl, out, hz.trans e, k, Reps.cutG C r b⟩
theorem Post.frz {B : Bas} {E : XK} {m : Mp} {H : Hp} {Q : VK} {r : Res D} {S : Sto} (c : Cor B m S) (h : Post B (Rep B) E m H Q (r.frz S)) : Post B (Rep B) E m H Q r := by
  unfold Res.frz at h
  split at h
  · rename_i i S'
    split at h
    · exact Post.drop c h
    · rename_i hi
      cases e : S'[i]? with
      | none => rw [e] at h; exact h.elim
      | some o =>
        simp only [e] at h
        split at h
        · rename_i hc
          intro m1 H1 v l c1 rv
          simp only [Rep] at rv
          obtain ⟨h1, rfl⟩ := rv
          obtain ⟨l2, c2⟩ := frz_all (i0 := i) c l c1 hc.1.1
          exact h _ _ _ l2 c2 (frz_rep c1 (by omega) h1 e hc.1.2 hc.2)
        · exact h.elim
  · exact Post.drop c h
end G
end
section
namespace G
open PySem L2
section
variable {X : Cx} {CX : CXT} {k : Nat} {f C : Addr} {fd : FuncData} {ps : List Str} {sp : Sp} {E : St → XK} {x m : Str} {p pos apos : Pos} {e o : Expr} {es : List Expr} {ta : TE} {t : TA}
end
def mProp (c : Nat) (F : Fn) (e : ME) : ME := fun en S => (e en S).bind fun d S1 => match insOf S1 d with
  | some (c', _, _) => if c' = c ∧ F.n = 1 then (F.run [d] S1).noex else .bad
  | none => .bad
def mMeth (c : Nat) (x : Str) (F : Fn) (e : ME) (r : MA) : ME := fun en S => (e en S).bind fun d S1 => match insOf S1 d with
  | some (c', ns, _) => if c' = c ∧ x ∉ ns then (r en S1).bind fun ds S2 => if ds.length + 1 = F.n then F.run (d :: ds) S2 else .bad else .bad
  | none => .bad
section
variable {X : Cx} {B : Bas} {W : WX} {o e : Expr} {es : List Expr} {x : Str} {p pos apos : Pos} {me : ME} {mr : MA} {c k j : Nat} {F : Fn}
end
end G
end
section
namespace G
open PySem L2
noncomputable def mkR (c : Nat) (F : Fn) (ds : List D) (S : Sto) : Res D := if ds.length + 1 = F.n then (F.run (.ref S.length :: ds) (S ++ [.ins c [] []])).bind fun v S2 => match v with
  | .non => .ok (.ref S.length) S2
  | _ => .bad else .bad
noncomputable def mMake (c : Nat) (F : Fn) (r : MA) : ME := fun en S => (r en S).bind fun ds S1 => (mkR c F ds S1).frz S1
theorem Le.frame {m : Mp} {H : Hp} {a : Addr} {o : HO} (s : Sub m H) (h : H a = none) : Le m H m (upd H a o) := ⟨Kp.refl m, fun b u z hu => ⟨by
  rw [upd_ne (fun e => by rw [e, h] at hu; cases hu)]
  exact hu, .inl z⟩, fun b u hb => by
  have := s b u hb
  rw [upd_ne (fun e => by rw [e, h] at this; cases this)]
  exact this⟩
section
variable {X : Cx} {B : Bas} {W : WX} {e : Expr} {es : List Expr} {x : Str} {p pos : Pos} {mr : MA} {c k j : Nat} {F : Fn}
end
def putN (f : Str) : List Str → List Str
  | [] => [f]
  | n :: ns => if n = f then n :: ns else n :: putN f ns
def putD (f : Str) (d : D) : List Str → List D → List D
  | n :: ns, x :: ds => if n = f then d :: ds else x :: putD f d ns ds
  | _, _ => [d]
def sFldS (cs : List Nat) (f : Str) (o e : ME) : MS := fun en S => (e en S).bind fun d S1 => (o en S1).bind fun x S2 => match x with
  | .ref i => match S2[i]? with
    | some (.ins c ns ds) => if c ∈ cs ∧ ns.length < 1000 then .ok (.nx en) (S2.set i (.ins c (putN f ns) (putD f d ns ds))) else .bad
    | _ => .bad
  | _ => .bad
end G
end
section
namespace G
open PySem L2
def lookT : List (List Key) → List D → List Key → Option D
  | q :: qs, d :: ds, k => if q = k then some d else lookT qs ds k
  | _, _, _ => none
theorem lookT_of {B : Bas} {m : Mp} {k : List Key} : ∀ {qs : List (List Key)} {ds : List D} {vs : List V}, Reps B m ds vs → (lookT qs ds k = none → valV (qs.zip vs) k = none) ∧ ∀ d, lookT qs ds k = some d → ∃ v, valV (qs.zip vs) k = some v ∧ Rep B m d v
  | [], ds, vs, r => ⟨fun _ => rfl, fun d h => by cases ds <;> simp [lookT] at h⟩
  | q :: qs, [], vs, r => by
    simp only [Reps] at r
    subst r
    exact ⟨fun _ => rfl, fun d h => by simp [lookT] at h⟩
  | q :: qs, x :: ds, vs, r => by
    simp only [Reps] at r
    obtain ⟨u, us, rfl, ru, rs⟩ := r
    obtain ⟨h1, h2⟩ := lookT_of (qs := qs) (k := k) rs
    rw [List.zip_cons_cons]
    by_cases e : q = k
    · refine ⟨fun h => ?_, fun d h => ?_⟩
      · simp [lookT, e] at h
      · simp only [lookT, if_pos e] at h
        cases h
        exact ⟨u, valV_pos e, ru⟩
    · have hv : valV ((q, u) :: qs.zip us) k = valV (qs.zip us) k := by simp [valV, List.find?_cons, e]
      rw [hv]
      simp only [lookT, if_neg e]
      exact ⟨h1, h2⟩
def dGetO (S : Sto) (x y : D) : Option (Option D) := match dicOf S x, tkeyD y with
  | some (ks, ds), some k => match tkeysD ks with
    | some qs => some (lookT qs ds k)
    | none => none
  | _, _ => none
theorem keysD_vals {B : Bas} {m : Mp} : ∀ {ds : List D} {vs : List V} {k : List Key}, Reps B m ds vs → keysD ds = some k → vs = k.map kV
  | [], vs, k, r, h => by
    simp only [Reps] at r
    cases h
    exact r
  | d :: ds, vs, k, r, h => by
    simp only [Reps] at r
    obtain ⟨v, us, rfl, rv, rs⟩ := r
    simp only [keysD] at h
    cases h1 : keyD d with
    | none => rw [h1] at h; cases h
    | some a =>
      cases h2 : keysD ds with
      | none => rw [h1, h2] at h; cases h
      | some b =>
        rw [h1, h2] at h
        cases h
        rw [keysD_vals rs h2, List.map_cons]
        congr 1
        cases d <;> simp [keyD] at h1
        · subst h1; exact rv.int_eq
        · subst h1; exact rv.str_eq
theorem tkey_at {B : Bas} {m : Mp} {H : Hp} {y : D} {k : List Key} {v : V} (s : Sub m H) (r : Rep B m y v) (h : tkeyD y = some k) : ∃ b, v = .ref b ∧ H b = some (.tup (k.map kV)) := by
  cases y <;> simp only [tkeyD] at h <;> try (cases h)
  simp only [Rep] at r
  obtain ⟨a, vs, rfl, t, rs⟩ := r
  exact ⟨a, rfl, by rw [← keysD_vals rs h]; exact s _ _ t.1⟩
theorem dic_dT {o : Option HO} {ks : List D} {vs : List V} {qs : List (List Key)} (h : DicAt o ks vs) (e : tkeysD ks = some qs) : o = some (.dT (qs.zip vs)) := by
  rcases h with ⟨_, ⟨q, ne, hq, _⟩ | ⟨q, hq, z⟩⟩
  · cases ks with
    | nil => exact absurd rfl ne
    | cons k r =>
      simp only [keysD] at hq
      simp only [tkeysD] at e
      cases k <;> simp [keyD, tkeyD] at hq e
  · rw [e] at hq
    cases hq
    exact z
theorem dGet_of {B : Bas} {m : Mp} {H : Hp} {S : Sto} {x y : D} {v u : V} {o : Option D} (s : Sub m H) (c : Cor B m S) (rx : Rep B m x v) (ry : Rep B m y u) (h : dGetO S x y = some o) :
    ∃ a r, v = .ref a ∧ IsD H a ∧ DGet H a u r ∧ (o = none → r = none) ∧ ∀ d, o = some d → ∃ z, r = some z ∧ Rep B m d z := by
  unfold dGetO at h
  split at h
  · rename_i ks ds k hd hk
    split at h
    · rename_i qs hq
      cases h
      obtain ⟨a, vs, rfl, z, rs⟩ := repD s c rx hd
      obtain ⟨b, rfl, hb⟩ := tkey_at s ry hk
      have hz := dic_dT z hq
      obtain ⟨h1, h2⟩ := lookT_of (qs := qs) (k := k) rs
      exact ⟨a, _, rfl, .inr ⟨_, .inl hz⟩, DGet.t hz hb, h1, h2⟩
    · cases h
  · cases h
def mDGet2 (a b z : ME) : ME := fun en S => (a en S).bind fun x S1 => match dicOf S1 x with
  | some (ks, _) => match tkeysD ks with
    | some _ => (b en S1).bind fun y S2 => (z en S2).bind fun w S3 => match dGetO S3 x y with
      | some (some d) => .ok d S3
      | some none => .ok w S3
      | none => .bad
    | none => .bad
  | none => .bad
def mDNew : ME := fun _ S => .ok (.ref S.length) (S ++ [.dic [] []])
def mDEmp : ME := fun _ S => .ok (.dic [] []) S
theorem de_demp {X : Cx} {B : Bas} {W : WX} {pos : Pos} : PE X (.Dict [] [] pos) (tE B W mDEmp) := PE.cut pe_dnewT fun σ H Q ⟨m, S, en, s, c, er, p⟩ => fun q hq => by
  have ob : ObR B (m.add q (.dT [])) q (.dic [] []) := ⟨[], ⟨rfl, .inr ⟨[], rfl, upd_same⟩⟩, Reps.nil⟩
  have h : Post B (Rep B) (at' W σ) m H Q (.ok (.ref S.length) (S ++ [.dic [] []])) := by
    refine Post.frz c ?_
    simp only [Res.frz, Nat.lt_irrefl, if_false, List.getElem?_append_right (Nat.le_refl _), Nat.sub_self, List.getElem?_cons_zero]
    rw [if_pos ⟨⟨Cl.app _ _, by simp [Ob.bel, D.bels]⟩, rfl⟩, List.take_left']
    · exact p
    · rfl
  exact h _ _ _ (Le.add c s hq) (Cor.add c s hq ob) (rp_ref c)
end G
end
section
namespace G
open PySem L2
def replT (k : List Key) (d : D) : List (List Key) → List D → List D
  | q :: qs, x :: ds => (if q = k then d else x) :: replT k d qs ds
  | _, _ => []
def hasK (k : List Key) (qs : List (List Key)) : Bool := qs.any fun q => decide (q = k)
def putT (ks : List D) (qs : List (List Key)) (ds : List D) (y : D) (k : List Key) (d : D) : Ob := if hasK k qs = true then .dic ks (replT k d qs ds) else .dic (ks ++ [y]) (ds ++ [d])
def sDPutS (o k e : ME) : MS := fun en S => (e en S).bind fun d S1 => (o en S1).bind fun x S2 => (k en S2).bind fun y S3 => match x, tkeyD y with
  | .ref i, some k => match S3[i]? with
    | some (.dic ks ds) => match tkeysD ks with
      | some qs => if ks.length < sizeLine then .ok (.nx en) (S3.set i (putT ks qs ds y k d)) else .bad
      | none => .bad
    | _ => .bad
  | _, _ => .bad
end G
end
section
namespace G
open PySem L2 PyProof.Rows
section
variable {P : Program} {w : World} {K : Type} [DecidableEq K] {knd : HeapKind P w K} {A : Around} {E : Value → Shared → Prop} {s : Shared}
end
end G
end
section
namespace G
open PySem L2 PyProof.Rows
section
variable {X : Cx}
end
end G
end
section
namespace G
open PySem L2 PyProof.Rows
end G
end
section
namespace G
open PySem L2 PyProof.Rows
section
variable {P : Program} {w : World} {K : Type} [DecidableEq K] {knd : HeapKind P w K} {A : Around} {E : Value → Shared → Prop} {s : Shared}
end
end G
end
section
namespace G
open PySem L2
def lookK : List Key → List D → Key → Option D
  | q :: qs, d :: ds, k => if q = k then some d else lookK qs ds k
  | _, _, _ => none
theorem lookK_of {B : Bas} {m : Mp} {k : Key} : ∀ {qs : List Key} {ds : List D} {vs : List V}, Reps B m ds vs → (lookK qs ds k = none → valV (qs.zip vs) k = none) ∧ ∀ d, lookK qs ds k = some d → ∃ v, valV (qs.zip vs) k = some v ∧ Rep B m d v
  | [], ds, vs, r => ⟨fun _ => rfl, fun d h => by cases ds <;> simp [lookK] at h⟩
  | q :: qs, [], vs, r => by
    simp only [Reps] at r
    subst r
    exact ⟨fun _ => rfl, fun d h => by simp [lookK] at h⟩
  | q :: qs, x :: ds, vs, r => by
    simp only [Reps] at r
    obtain ⟨u, us, rfl, ru, rs⟩ := r
    obtain ⟨h1, h2⟩ := lookK_of (qs := qs) (k := k) rs
    rw [List.zip_cons_cons]
    by_cases e : q = k
    · refine ⟨fun h => ?_, fun d h => ?_⟩
      · simp [lookK, e] at h
      · simp only [lookK, if_pos e] at h
        cases h
        exact ⟨u, valV_pos e, ru⟩
    · have hv : valV ((q, u) :: qs.zip us) k = valV (qs.zip us) k := by simp [valV, List.find?_cons, e]
      rw [hv]
      simp only [lookK, if_neg e]
      exact ⟨h1, h2⟩
theorem key_at {B : Bas} {m : Mp} {y : D} {k : Key} {v : V} (r : Rep B m y v) (h : keyD y = some k) : v = kV k := by
  cases y <;> simp only [keyD] at h <;> try (cases h)
  · exact r.int_eq
  · exact r.str_eq
theorem dic_dK {o : Option HO} {ks : List D} {vs : List V} {qs : List Key} (h : DicAt o ks vs) (ne : ks ≠ []) (e : keysD ks = some qs) : o = some (.dK (qs.zip vs)) := by
  rcases h with ⟨_, ⟨q, _, hq, z⟩ | ⟨q, hq, z⟩⟩
  · rw [e] at hq
    cases hq
    exact z
  · cases ks with
    | nil => exact absurd rfl ne
    | cons k r =>
      simp only [keysD] at e
      simp only [tkeysD] at hq
      cases k <;> simp [keyD, tkeyD] at hq e
def kGetO (S : Sto) (x y : D) : Option (Option D) := match dicOf S x, keyD y with
  | some (ks, ds), some k => match keysD ks with
    | some qs => if ks.isEmpty then none else some (lookK qs ds k)
    | none => none
  | _, _ => none
theorem kGet_of {B : Bas} {m : Mp} {H : Hp} {S : Sto} {x y : D} {v u : V} {o : Option D} (s : Sub m H) (c : Cor B m S) (rx : Rep B m x v) (ry : Rep B m y u) (h : kGetO S x y = some o) :
    ∃ a r, v = .ref a ∧ IsD H a ∧ DGet H a u r ∧ (o = none → r = none) ∧ ∀ d, o = some d → ∃ z, r = some z ∧ Rep B m d z := by
  unfold kGetO at h
  split at h
  · rename_i ks ds k hd hk
    split at h
    · rename_i qs hq
      split at h
      · cases h
      · rename_i ne
        cases h
        obtain ⟨a, vs, rfl, z, rs⟩ := repD s c rx hd
        obtain rfl := key_at ry hk
        have hz := dic_dK z (by simpa using ne) hq
        obtain ⟨h1, h2⟩ := lookK_of (qs := qs) (k := k) rs
        exact ⟨a, _, rfl, .inl ⟨_, .inl hz⟩, DGet.k hz, h1, h2⟩
    · cases h
  · cases h
def replK (k : Key) (d : D) : List Key → List D → List D
  | q :: qs, x :: ds => (if q = k then d else x) :: replK k d qs ds
  | _, ds => ds
def hasKK (k : Key) (qs : List Key) : Bool := qs.any fun q => decide (q = k)
def putKD (ks : List D) (qs : List Key) (ds : List D) (y : D) (k : Key) (d : D) : Ob := if hasKK k qs = true then .dic ks (replK k d qs ds) else .dic (ks ++ [y]) (ds ++ [d])
def sKPutS (o k e : ME) : MS := fun en S => (e en S).bind fun d S1 => (o en S1).bind fun x S2 => (k en S2).bind fun y S3 => match x, keyD y with
  | .ref i, some k => match S3[i]? with
    | some (.dic ks ds) => match keysD ks with
      | some qs => if ks.isEmpty = false ∧ ks.length < sizeLine then .ok (.nx en) (S3.set i (putKD ks qs ds y k d)) else .bad
      | none => .bad
    | _ => .bad
  | _, _ => .bad
theorem upd_del' {H : Hp} {p : Addr} {o : HO} : upd (del H p) p o = upd H p o := by
  funext a
  by_cases e : a = p
  · subst e; rw [upd_same, upd_same]
  · rw [upd_ne e, upd_ne e, del_ne e]
inductive DPs (X : Cx) (B : Bas) (W : WX) : List (Option Expr) → List Expr → List Str → MA → Prop where
  | nil : DPs X B W [] [] [] aNil
  | cons {k j p v ks vs ss mv r} : PE X v (tE B W mv) → DPs X B W ks vs ss r → DPs X B W (some (.Constant (.str k) j p) :: ks) (v :: vs) (k :: ss) (aCons mv r)
theorem DPs.pps {X : Cx} {B : Bas} {W : WX} {pos : Pos} {ks : List (Option Expr)} {vs : List Expr} {ss : List Str} {r : MA} (h : DPs X B W ks vs ss r) :
    ∃ trs, PPs X pos ks vs trs ∧ ∀ (m : Mp) (S : Sto) (en : En) (σ : L2.St) (H : Hp) (Q : List (V × V) → Hp → Prop), Sub m H → Cor B m S → EnR B m en σ → Post B (Reps B) (at' W σ) m H (fun us H2 => ss.length = us.length → Q ((ss.zip us).map (fun x => (.str x.1, x.2))) H2) (r en S) →
      tPairs trs σ H Q := by
  induction h with
  | nil => exact ⟨[], pps_nil, fun m S en σ H Q s c er p => p m H [] (Le.refl s) c Reps.nil rfl⟩
  | @cons k j p v ks vs ss mv r hv _ ih =>
    obtain ⟨trs, hp, ih⟩ := ih
    refine ⟨_, pps_cons pe_str hv hp, fun m S en σ H Q s c er q => ?_⟩
    show tE B W mv σ H _
    refine ⟨m, S, en, s, c, er, (Post.bind q).imp ?_⟩
    rintro y H1 ⟨d, S1, m1, _, l1, c1, r1, p1⟩
    refine ih m1 S1 en σ H1 _ l1.sub c1 (er.mono l1) ((Post.bind p1).imp ?_)
    rintro us H2 ⟨ds, S2, m2, _, l2, c2, r2, p2⟩ hl
    exact p2 m2 H2 _ (Le.refl l2.sub) c2 (Reps.cons (r1.mono l2) r2) (by simp [hl])
theorem mergeK_new : ∀ (more acc : List (Key × V)), ((acc ++ more).map (·.1)).Nodup → mergeK acc more = acc ++ more
  | [], acc, _ => by simp [mergeK]
  | kv :: more, acc, h => by
    have hn : kv.1 ∉ acc.map (·.1) := by
      intro hm
      rw [List.map_append, List.nodup_append] at h
      exact h.2.2 _ hm _ (by simp) rfl
    have e : putK acc kv.1 kv.2 = acc ++ [kv] := by
      unfold putK
      rw [if_neg]
      simp only [List.any_eq_true, decide_eq_true_eq, not_exists, not_and]
      intro x hx he
      exact hn (by rw [← he]; exact List.mem_map_of_mem hx)
    show mergeK (putK acc kv.1 kv.2) more = _
    rw [e, mergeK_new more (acc ++ [kv]) (by simpa using h)]
    simp
theorem keysD_strs : ∀ ss : List Str, keysD (ss.map .str) = some (ss.map .inr)
  | [] => rfl
  | s :: ss => by simp only [List.map_cons, keysD, keyD, keysD_strs ss]
theorem Post.frameBind {α β γ δ : Type} {B : Bas} {R : Mp → α → β → Prop} {R2 : Mp → γ → δ → Prop} {W : XK} {m : Mp} {H Hf : Hp} {Q2 : δ → Hp → Prop} {r : Res α} {k : α → Sto → Res γ} (h : Post B R2 W m H Q2 (r.bind k)) (lf : Le m H m Hf) :
    Post B R W m Hf (fun v H1 => ∃ a S m1, r = .ok a S ∧ Le m Hf m1 H1 ∧ Cor B m1 S ∧ R m1 a v ∧ Post B R2 W m H Q2 (k a S)) r := by
  cases r with
  | ok a S => exact fun m' H' v l c x => ⟨a, S, m', rfl, l, c, x, h⟩
  | ex c ns vs S => exact fun m' H' dd l cc x => h m' H' dd (lf.trans l) cc x
  | bad => exact h
def mDisp (ss : List Str) (r : MA) : ME := fun en S => (r en S).bind fun ds S1 => .ok (.ref S1.length) (S1 ++ [.dic (ss.map .str) ds])
def mDispD (ss : List Str) (r : MA) : ME := fun en S => (r en S).bind fun ds S1 => .ok (.dic (ss.map .str) ds) S1
theorem tDisp_of {B : Bas} {W : WX} {ss : List Str} {r : MA} {trs : List (TE × TE)} {σ : L2.St} {H : Hp} {Q : VK} {K2 : List D → Sto → Res D}
    (ht : ∀ (m : Mp) (S : Sto) (en : En) (σ : L2.St) (H : Hp) (Q : List (V × V) → Hp → Prop), Sub m H → Cor B m S → EnR B m en σ → Post B (Reps B) (at' W σ) m H (fun us H2 => ss.length = us.length → Q ((ss.zip us).map (fun x => (.str x.1, x.2))) H2) (r en S) → tPairs trs σ H Q)
    (nd : ss.Nodup) (h15 : ss.length ≤ 15)
    (hK : ∀ (m : Mp) (S : Sto) (H1 : Hp) (ds : List D) (us : List V) (p : Addr), Sub m H1 → Cor B m S → H1 p = none → Reps B m ds us → ss.length = us.length → Post B (Rep B) (at' W σ) m H1 Q (K2 ds S) → Q (.ref p) (upd H1 p (.dK ((ss.map Sum.inr).zip us))))
    (t : tE B W (fun en S => (r en S).bind K2) σ H Q) : tDisp trs σ H Q := by
  obtain ⟨m, S, en, s, c, er, q⟩ := t
  intro p hp
  have lf : Le m H m (upd H p (.dK [])) := Le.frame s hp
  refine ht m S en σ _ _ lf.sub c er ((Post.frameBind q lf).imp ?_)
  rintro us H2 ⟨ds, S2, m2, _, l2, c2, r2, p2⟩ hl
  have hz : m.Z p = none := s.none hp
  obtain ⟨f1, f2⟩ := l2.fr p (.dK []) hz upd_same
  have l3 : Le m H m2 (G.del H2 p) := by
    have := Le.del (p := p) l2 hz ⟨_, upd_same, by rintro ⟨_, e⟩; cases e⟩
    rwa [del_upd, del_new hp] at this
  have e1 : ((ss.zip us).map fun x => ((Sum.inr x.1 : Key), x.2)) = (ss.map Sum.inr).zip us := by
    rw [List.zip_map_left]
    rfl
  refine ⟨f1, (ss.map Sum.inr).zip us, by rw [← e1]; simp [kV, Function.comp_def], by simp [hl]; omega, ?_⟩
  rw [mergeK_new, List.nil_append, ← upd_del']
  · exact hK m2 S2 _ ds us p l3.sub c2 del_at r2 hl (p2.shift l3)
  · have : ((ss.map (Sum.inr : Str → Key)).zip us).map (·.1) = ss.map Sum.inr := List.map_fst_zip (by simp [hl])
    rw [List.nil_append, this]
    exact List.Pairwise.map _ (fun a b h e => h (Sum.inr.inj e)) nd
theorem de_dispD {X : Cx} {B : Bas} {W : WX} {pos : Pos} {keys : List (Option Expr)} {vs : List Expr} {ss : List Str} {r : MA} (h : DPs X B W keys vs ss r) (nd : ss.Nodup) (h15 : ss.length ≤ 15) (h0 : ss ≠ [])
    (ha : keys.all (·.isSome) = true) (hl : keys.length = vs.length) (hk0 : keys ≠ []) (hk15 : keys.length ≤ 15) : PE X (.Dict keys vs pos) (tE B W (mDispD ss r)) := by
  obtain ⟨trs, hp, ht⟩ := h.pps (pos := pos)
  refine PE.cut (pe_disp hp ha hl hk0 hk15) fun σ H Q t => tDisp_of ht nd h15 (fun m S H1 ds us p s c hp r hl q => ?_) t
  refine q _ _ _ (Le.new c s hp) (Cor.new c s hp) ?_
  simp only [Rep]
  exact ⟨p, us, rfl, c.out_of (s.none hp), ⟨by simpa using hl, .inl ⟨_, by simpa using h0, keysD_strs ss, upd_same⟩⟩, r.mono (Le.new c s hp)⟩
end G
end
section
namespace G
open PySem PySem.Spec PyProof.Rows L2 RZ
abbrev enO (it : Addr) : Obj := { cls := .type "enumerate", data := .fields #[.none, .bool false, .ref it, rawInt 0, .none, .none] }
theorem meets_enumT {v : Value} {o : Obj} {Ok : Heap → Prop} (B : Begins v o Ok) :
    Meets (Builtin.«enumerate.__new__» ⟨[.type "enumerate", v], []⟩) (fun _ R s => Ok s.heap ∧ R (.ok (.ret (.ref (s.heap.push o).objs.size))) { s with heap := (s.heap.push o).push (enO s.heap.objs.size) }) :=
  .of_wp fun prog w A R ⟨hp, g, d, tk, os⟩ ⟨ok, h⟩ => by
    have kind := sub_enumerate
    have begin_ : ∀ {A' : Around} {E : Value → Shared → Prop} {Q : Value → Shared → Prop} (_ : Q (.ref hp.objs.size) ⟨hp.push o, g, d, tk, os⟩), wpAny (model prog w) A' (pyIter v) Q E ⟨hp, g, d, tk, os⟩ := fun q => B.iter _ _ _ _ _ _ ok q
    wp_walk using begin_
    refine wpAny_stack_any fun st => wpAny_pure ?_
    split
    · rename_i c _ _ _ _ _
      cases (c == Value.type "enumerate") <;> (wp_walk using begin_; exact ⟨_, rfl, h⟩)
    · wp_walk using begin_
      exact ⟨_, rfl, h⟩
theorem call_enumT {prog : Program} {w : World} {A : Around} {E : Value → Shared → Prop} {s : Shared} {v : Value} {o : Obj} {Ok : Heap → Prop} {Q : Value → Shared → Prop} (B : Begins v o Ok) (ok : Ok s.heap)
    (q : ∀ h', IsEnum h' (s.heap.objs.size + 1) s.heap.objs.size 0 .none ∧ h'.get? s.heap.objs.size = some o → (∀ c x, s.heap.get? c = some x → h'.get? c = some x) → Q (.ref (s.heap.objs.size + 1)) { s with heap := h' }) :
    wpAny (model prog w) A (call (.type "enumerate") [v]) Q E s := by
  have size : (s.heap.push o).objs.size = s.heap.objs.size + 1 := Heap.size_push ..
  have made : IsEnum ((s.heap.push o).push (enO s.heap.objs.size)) (s.heap.objs.size + 1) s.heap.objs.size 0 .none := by
    rw [← size]
    exact Heap.get?_push_size _ rfl
  refine callType_new F.called_enumerate (by decide) (F.typeCall_enumerate_1 _) (F.newCall_enumerate_1 _) (fun x => F.args_object_init_2 x _) F.entry_enumerate_new (meets_enumT B) ⟨ok, ?_⟩
  show _ ∧ _
  rw [size]
  exact ⟨⟨_, made, rfl⟩, q _ ⟨made, Heap.get?_push_of_some _ (Heap.get?_push_size _ B.free)⟩ fun c x e => Heap.get?_push_of_some _ (Heap.get?_push_of_some _ e)⟩
structure EtAt (a e it : Addr) (n i : Nat) (h : Heap) : Prop where
  le : i ≤ n
  apart : e ≠ it ∧ it ≠ a ∧ e ≠ a
  inner : h.IsTupleIter it a i
  outer : ∃ old, IsEnum h e it ((i : Nat) : Int) old
theorem EtAt.objs {a e it : Addr} {n i : Nat} {h : Heap} (st : EtAt a e it n i h) {c : Addr} (hc : c ∈ [e, it]) : ∃ o, h.get? c = some o ∧ ∀ v, o.data ≠ .cell v := by
  obtain ⟨old, e1⟩ := st.outer
  obtain ⟨o2, e2, _, d2⟩ := st.inner
  simp only [List.mem_cons, List.not_mem_nil, or_false] at hc
  rcases hc with rfl | rfl
  · exact ⟨_, e1, by intro v z; cases z⟩
  · exact ⟨o2, e2, by intro v z; rw [d2] at z; cases z⟩
theorem EtAt.lt {a e it : Addr} {n i : Nat} {h : Heap} (st : EtAt a e it n i h) {c : Addr} (hc : c ∈ [e, it]) : c < h.objs.size := by
  obtain ⟨_, z, _⟩ := st.objs hc
  exact Heap.lt_size z
def enumD : Nat → List D → List D
  | _, [] => []
  | n, d :: ds => .tup [.int (n : Nat), d] :: enumD (n + 1) ds
theorem enumD_len : ∀ (n : Nat) (ds : List D), (enumD n ds).length = ds.length
  | _, [] => rfl
  | n, d :: ds => by simp [enumD, enumD_len (n + 1) ds]
theorem enumD_get : ∀ (n i : Nat) (ds : List D), (enumD n ds)[i]? = ds[i]?.map fun d => .tup [.int ((n + i : Nat) : Int), d]
  | _, _, [] => by simp [enumD]
  | n, 0, d :: ds => by simp [enumD]
  | n, i + 1, d :: ds => by
    simp only [enumD, List.getElem?_cons_succ, enumD_get (n + 1) i ds]
    congr 1
    funext d
    rw [show n + 1 + i = n + (i + 1) by omega]
def iEnum (e : ME) : MI := fun en S => (e en S).bind fun d S1 => match seqL S1 d, seqT d with
  | some ds, _ => .ok ⟨enumD 0 ds, fun S => seqL S d = some ds⟩ S1
  | none, some ds => .ok ⟨enumD 0 ds, fun _ => True⟩ S1
  | none, none => .bad
theorem enum_at {i : Nat} {d : D} {ds : List D} (hd : (enumD 0 ds)[i]? = some d) : i < ds.length := by
  have := (List.getElem?_eq_some_iff.mp hd).1
  rwa [enumD_len] at this
end G
end
section
namespace PySem.SeqAt
open Sem (wp)
open AutoSeq1 (wpAny_loadPart')
open MeetsSeq MeetsSeq2 MeetsSeq3 SeqRoads2
def RcLe (A : Around) (s : Shared) (x y : Value) (b : Bool) : Prop := ∀ (prog : Program) (w : World) (E : Value → Shared → Prop) (Q : Value → Shared → Prop), Q (.bool b) s → wpAny (model prog w) A (richCompare .LtE x y) Q E s
theorem tuple_leF (l b : Addr) (items items2 : Array Value) (n n2 : Nat) (dd dd2 : Option Addr) (sl sl2 : Array (Option Value)) (e r : Nat → Bool) :
    Meets (Builtin.«tuple.__le__» ⟨[.ref l, .ref b], []⟩)
      (fun A R s => (s.heap.get? l = some { cls := .type "tuple", dict := dd, data := .seq items n, slots := sl } ∧ s.heap.get? b = some { cls := .type "tuple", dict := dd2, data := .seq items2 n2, slots := sl2 }) ∧
        ((∀ j (h1 : j < items.size) (h2 : j < items2.size), EqAt A.in1 s items[j] items2[j] (e j)) ∧ (∀ j (h1 : j < items.size) (h2 : j < items2.size), (∀ i, i < j → e i = true) → e j = false → RcLe A.in1 s items[j] items2[j] (r j))) ∧
        R (.ok (.ret (.bool (firstLt e r (decide (items.size ≤ items2.size)) (List.range (min items.size items2.size)))))) s) :=
  .of_wp fun prog w A R s h => by
    obtain ⟨hp, g, d, tk, os⟩ := s; obtain ⟨⟨hl, hb⟩, ⟨he, hr⟩, h⟩ := h
    have f2 := AutoSeq1.sub_tuple_tuple
    have lenZ : (items.toList.zip items2.toList).length = min items.size items2.size := by simp
    wp_walk using wpAny_loadPart' hl, wpAny_loadPart' hb, wpAny_forIn_list _ (fun rest b s' => b.1 = none ∧ s' = ⟨hp, g, d, tk, os⟩ ∧ ∃ i, (∀ k, k < i → e k = true) ∧ rest = (items.toList.zip items2.toList).drop i ∧
      R (.ok (.ret (.bool (firstLt e r (decide (items.size ≤ items2.size)) ((List.range (min items.size items2.size)).drop i))))) ⟨hp, g, d, tk, os⟩) _
    case turn =>
      rintro ⟨y, x⟩ rest b s' ⟨hb', rfl, i, hpre, hz, hR⟩
      have hlt : i < (items.toList.zip items2.toList).length := by
        apply Nat.lt_of_not_le
        intro h'
        rw [List.drop_of_length_le h'] at hz
        cases hz
      have hm : i < min items.size items2.size := lenZ ▸ hlt
      have h1 : i < items.size := Nat.lt_of_lt_of_le hm (Nat.min_le_left _ _)
      have h2 : i < items2.size := Nat.lt_of_lt_of_le hm (Nat.min_le_right _ _)
      rw [List.drop_eq_getElem_cons hlt] at hz
      injection hz with hyx hrest
      obtain rfl : y = items[i] := by simpa using congrArg Prod.fst hyx
      obtain rfl : x = items2[i] := by simpa using congrArg Prod.snd hyx
      have hd : (List.range (min items.size items2.size)).drop i = i :: (List.range (min items.size items2.size)).drop (i + 1) := by simp [List.drop_eq_getElem_cons, hm]
      rw [hd] at hR
      refine wpAny_bind (he i h1 h2 prog w _ _ ?_)
      cases hy : e i with
      | true =>
        rw [firstLt_yes hy] at hR
        wp_walk
        refine ⟨rfl, rfl, i + 1, fun k hk => ?_, hrest, hR⟩
        rcases Nat.lt_succ_iff_lt_or_eq.mp hk with z | z
        · exact hpre k z
        · rw [z]; exact hy
      | false =>
        rw [firstLt_no hy] at hR
        have hrc := hr i h1 h2 hpre hy
        unfold RcLe at hrc
        generalize richCompare CmpOp.LtE items[i] items2[i] = rc at hrc ⊢
        wp_walk
        refine hrc prog w _ _ ?_
        wp_walk
        exact ⟨_, rfl, hR⟩
    case fin =>
      rintro ⟨b1, b2⟩ s' ⟨hb', rfl, i, _, hz, hR⟩
      simp only at hb'
      subst hb'
      have hge : min items.size items2.size ≤ i := by
        apply Nat.le_of_not_lt
        intro h'
        rw [List.drop_eq_getElem_cons (by rw [lenZ]; exact h')] at hz
        cases hz
      rw [List.drop_of_length_le (by simpa using hge)] at hR
      wp_walk
      exact ⟨_, rfl, by simpa [Builtin.Tuple.tupleCompareSizes, firstLt] using hR⟩
    case h => exact ⟨rfl, rfl, 0, fun k hk => absurd hk (Nat.not_lt_zero _), rfl, by simpa using h⟩
theorem RcLe_tupF {A : Around} {s : Shared} {l b : Addr} {items items2 : Array Value} {e r : Nat → Bool} (hl : s.heap.IsTuple l items) (hb : s.heap.IsTuple b items2) (hu : A.units < cLine)
    (he : ∀ j (h1 : j < items.size) (h2 : j < items2.size), EqAt A.in1 s items[j] items2[j] (e j)) (hr : ∀ j (h1 : j < items.size) (h2 : j < items2.size), (∀ i, i < j → e i = true) → e j = false → RcLe A.in1 s items[j] items2[j] (r j)) :
    RcLe A s (.ref l) (.ref b) (firstLt e r (decide (items.size ≤ items2.size)) (List.range (min items.size items2.size))) := fun prog w E Q h => by
  obtain ⟨⟨cls, dd, data, sl⟩, ho, hc, n, hd⟩ := id hl
  obtain ⟨⟨cls2, dd2, data2, sl2⟩, ho2, hc2, n2, hd2⟩ := id hb
  simp only at hc hd hc2 hd2
  subst hc hd hc2 hd2
  exact richCompare_meets_room (op := .LtE) ⟨_, ho, rfl⟩ ⟨_, ho2, rfl⟩ F.slot_tuple_le F.entry_tuple_le (F.args_tuple_le_2 _ _) (tuple_leF l b items items2 n n2 dd dd2 sl sl2 e r)
    ⟨⟨ho, ho2⟩, ⟨he, hr⟩, ⟨(fun x => nomatch x), h⟩⟩ hu
end PySem.SeqAt
namespace G
open PySem L2
mutual
def pLe : PyData → PyData → Option Bool
  | .int i, .int j => some (decide (i ≤ j))
  | .str x, .str y => some (!(decide (y.cps.toList < x.cps.toList)))
  | .tuple xs, .tuple ys => pLes xs ys
  | _, _ => none
def pLes : List PyData → List PyData → Option Bool
  | [], [] => some true
  | [], _ :: _ => some true
  | _ :: _, [] => some false
  | x :: xs, y :: ys => if PyData.eqv x y = true then pLes xs ys else pLe x y
end
open SeqAt in
theorem firstLt_pLes : ∀ (xs ys : List PyData) (k : Bool) (r : Nat → Bool), pLes xs ys = some k →
    (∀ j, j < xs.length → j < ys.length → (∀ i, i < j → pairEq xs ys i = true) → pairEq xs ys j = false → pLe (xs.getD j .none) (ys.getD j .none) = some (r j)) →
    firstLt (pairEq xs ys) r (decide (xs.length ≤ ys.length)) (List.range (min xs.length ys.length)) = k
  | [], [], k, r, h, _ => by
    simp only [pLes] at h
    cases h
    simp [firstLt]
  | [], y :: ys, k, r, h, _ => by
    simp only [pLes] at h
    cases h
    simp [firstLt]
  | x :: xs, [], k, r, h, _ => by
    simp only [pLes] at h
    cases h
    simp [firstLt]
  | x :: xs, y :: ys, k, r, h, hr => by
    have e0 : pairEq (x :: xs) (y :: ys) 0 = PyData.eqv x y := rfl
    have e1 : ∀ j, pairEq (x :: xs) (y :: ys) (j + 1) = pairEq xs ys j := fun _ => rfl
    simp only [List.length_cons, Nat.succ_min_succ, firstLt_shift, e0, e1]
    simp only [pLes] at h
    split at h
    · rename_i hq
      rw [if_pos hq]
      have ih := firstLt_pLes xs ys k (fun j => r (j + 1)) h fun j h1 h2 hpre hj => by
        have := hr (j + 1) (by simpa using h1) (by simpa using h2) (fun i hi => by
          cases i with
          | zero => exact hq
          | succ i => exact hpre i (by omega)) hj
        simpa using this
      simpa using ih
    · rename_i hq
      rw [if_neg hq]
      have := hr 0 (by simp) (by simp) (fun i hi => absurd hi (Nat.not_lt_zero _)) (by rw [e0]; simpa using hq)
      simp only [List.getD_cons_zero] at this
      rw [h] at this
      exact (Option.some.inj this).symm
theorem pLes_at : ∀ (xs ys : List PyData) (k : Bool), pLes xs ys = some k → ∀ j, j < xs.length → j < ys.length → (∀ i, i < j → SeqAt.pairEq xs ys i = true) → SeqAt.pairEq xs ys j = false → ∃ q, pLe (xs.getD j .none) (ys.getD j .none) = some q
  | [], _, _, _, j, h1, _, _, _ => absurd h1 (Nat.not_lt_zero _)
  | _ :: _, [], _, _, j, _, h2, _, _ => absurd h2 (Nat.not_lt_zero _)
  | x :: xs, y :: ys, k, h, j, h1, h2, hpre, hj => by
    simp only [pLes] at h
    cases j with
    | zero =>
      have hj' : PyData.eqv x y = false := hj
      rw [hj'] at h
      simp only [Bool.false_eq_true, if_false] at h
      exact ⟨k, h⟩
    | succ j =>
      have h0 : PyData.eqv x y = true := hpre 0 (Nat.succ_pos _)
      rw [if_pos h0] at h
      exact pLes_at xs ys k h j (by simpa using h1) (by simpa using h2) (fun i hi => hpre (i + 1) (by omega)) hj
mutual
theorem rcLe_p : ∀ (da db : PyData) (A : Around) (s : Shared) (a b : Value) (as bs : List Addr) (k : Bool), Reads s.heap a da as → Reads s.heap b db bs → da.canLay0 = true → db.canLay0 = true → A.units + min da.depth db.depth < cLine → pLe da db = some k → SeqAt.RcLe A s a b k
  | .int x, db, A, s, a, b, as, bs, k, ra, rb, ha, hb, hu, h => by
    cases db with
    | int y =>
      simp only [pLe] at h
      cases h
      cases ra
      cases rb
      exact fun prog w E Q hq => P.le_int hq
    | _ => simp [pLe] at h
  | .str x, db, A, s, a, b, as, bs, k, ra, rb, ha, hb, hu, h => by
    cases db with
    | str y =>
      simp only [pLe] at h
      cases h
      cases ra
      cases rb
      exact fun prog w E Q hq => P.le_str hq
    | _ => simp [pLe] at h
  | .tuple xs, db, A, s, a, b, as, bs, k, ra, rb, ha, hb, hu, h => by
    cases db with
    | tuple ys =>
      simp only [pLe] at h
      have ha' : PyData.canLayAll0 xs = true := by simpa [PyData.canLay0] using ha
      have hb' : PyData.canLayAll0 ys = true := by simpa [PyData.canLay0] using hb
      cases ra with
      | @tuple l o vs n _ as₁ h1 h2 h3 h4 =>
        cases rb with
        | @tuple l' o' vs' n' _ bs₁ k1 k2 k3 k4 =>
          have hl : s.heap.IsTuple l vs := ⟨_, h1, h2, _, h3⟩
          have hl' : s.heap.IsTuple l' vs' := ⟨_, k1, k2, _, k3⟩
          have n1 : vs.size = xs.length := PySem.W.readsAll_len h4
          have n2 : vs'.size = ys.length := PySem.W.readsAll_len k4
          have hu1 : (A.in1).units + min (PyData.depthAll xs) (PyData.depthAll ys) < cLine := SeqAt.room_in hu
          rw [← firstLt_pLes xs ys k (fun j => (pLe (xs.getD j .none) (ys.getD j .none)).getD false) h (fun j h1 h2 hpre hj => by
            obtain ⟨q, hq⟩ := pLes_at xs ys k h j h1 h2 hpre hj
            rw [hq]
            rfl), ← n1, ← n2]
          refine SeqAt.RcLe_tupF hl hl' (SeqAt.room_here hu) (fun j j1 j2 => ?_) fun j j1 j2 hpre hj => ?_
          · have := SeqAt.eqAt_readsAll xs ys A.in1 s vs.toList vs'.toList _ _ h4 k4 ha' hb' hu1 j (by simpa using j1) (by simpa using j2)
            simpa using this
          · obtain ⟨q, hq⟩ := pLes_at xs ys k h j (by omega) (by omega) hpre hj
            have := rcLe_ps xs ys A.in1 s vs.toList vs'.toList _ _ h4 k4 ha' hb' hu1 j (by simpa using j1) (by simpa using j2) q hq
            rw [hq]
            simpa using this
    | _ => simp [pLe] at h
  | .none, db, _, _, _, _, _, _, _, _, _, _, _, _, h => by simp [pLe] at h
  | .bool _, db, _, _, _, _, _, _, _, _, _, _, _, _, h => by simp [pLe] at h
  | .list _, db, _, _, _, _, _, _, _, _, _, _, _, _, h => by simp [pLe] at h
  | .dict _, db, _, _, _, _, _, _, _, _, _, _, _, _, h => by simp [pLe] at h
theorem rcLe_ps : ∀ (xs ys : List PyData) (A : Around) (s : Shared) (vs ws : List Value) (as bs : List Addr), ReadsAll s.heap vs xs as → ReadsAll s.heap ws ys bs → PyData.canLayAll0 xs = true → PyData.canLayAll0 ys = true →
    A.units + min (PyData.depthAll xs) (PyData.depthAll ys) < cLine → ∀ j (h1 : j < vs.length) (h2 : j < ws.length) (q : Bool), pLe (xs.getD j .none) (ys.getD j .none) = some q → SeqAt.RcLe A s vs[j] ws[j] q
  | [], _, _, _, _, _, _, _, ra, _, _, _, _, j, h1, _, _, _ => by cases ra; exact absurd h1 (Nat.not_lt_zero _)
  | _ :: _, [], _, _, _, _, _, _, _, rb, _, _, _, j, _, h2, _, _ => by cases rb; exact absurd h2 (Nat.not_lt_zero _)
  | x :: xs, y :: ys, A, s, _, _, _, _, ra, rb, ha, hb, hu, j, h1, h2, q, hq => by
    have ha' : x.canLay0 = true ∧ PyData.canLayAll0 xs = true := by simpa [PyData.canLayAll0] using ha
    have hb' : y.canLay0 = true ∧ PyData.canLayAll0 ys = true := by simpa [PyData.canLayAll0] using hb
    cases ra with
    | cons r rs =>
      cases rb with
      | cons r' rs' =>
        cases j with
        | zero => exact rcLe_p x y A s _ _ _ _ q r r' ha'.1 hb'.1 (SeqAt.room_head hu) (by simpa using hq)
        | succ j => exact rcLe_ps xs ys A s _ _ _ _ rs rs' ha'.2 hb'.2 (SeqAt.room_tail hu) j (Nat.lt_of_succ_lt_succ h1) (Nat.lt_of_succ_lt_succ h2) q (by simpa using hq)
end
end G
end
section
namespace G
open PySem PySem.Spec PyProof.Rows L2
section
variable {X : Cx}
theorem d_dictSetT {pins : List (Addr × Obj)} {σ : L2.St} {H : Hp} {s : Shared} {E : Value → Shared → Prop} {D b : Addr} {kvs : List (List Key × V)} {k : List Key} {v : V} {u r : Value} {Q : Unit → Shared → Prop} (hu : X.A.units + 1 < cLine) (I : Inv X pins σ H s) (hD : H D = some (.dT kvs)) (hb : H b = some (.tup (k.map kV))) (hz : kvs.length < sizeLine)
    (ry : RelV (.ref b) u) (rv : RelV v r) (h : ∀ s', Inv X pins σ (upd H D (.dT (putK kvs k v))) s' → Q () s') : wpAny (model X.prog X.w) X.A (dictSet D u r) Q E s := by
  cases (show u = Value.ref b from ry)
  obtain ⟨z, hd, xs, rel, dd⟩ := dt_of I.hok hD
  have hzv : xs.length ≤ sizeLine := by rw [← rel.length]; exact z
  have hl : (putK kvs k v).length ≤ sizeLine := by have := length_putK kvs k v; omega
  have hne : b ≠ D := ne_of hb hD (by intro q; cases q)
  refine wpAny_dictSet_heap (hsz := hzv) (show (tupleKind (mixKind X.prog X.w)).room X.A from by show X.A.units < cLine; omega) (key_of I.hok hb) dd fun h' dd' hs => h _ ?_
  obtain ⟨q, es, ep, hq, h2, h3, h4, _, h5⟩ := dd'
  refine d_write I (by rw [hD]; exact True.intro) hs ⟨q, hq⟩ ⟨hl, hd, _, (rel.put k hb rv).keeps fun c ys ec => ?_, q, es, ep, hq, h2, h3, h4, h5⟩
  rw [upd_ne (ne_of ec hD (by intro z; cases z))]
  exact ec
def DcPut (D : Addr) (Nx : Hp → Prop) (y z : V) (H : Hp) : Prop := ∃ kvs k bk, y = .ref bk ∧ H bk = some (.tup (k.map kV)) ∧ H D = some (.dT kvs) ∧ kvs.length < sizeLine ∧ Nx (upd H D (.dT (putK kvs k z)))
def DcItem (g : TG) (tt : TT) (tk tv : TE) (σ0 : L2.St) (vs : List Nat) (D : Addr) (Nx : Hp → Prop) (x : V) (H : Hp) : Prop :=
  g x σ0 H fun σ2 H2 => wipe σ2 vs = σ0 ∧ tt σ2 H2 fun b H3 => if b = true then tk σ2 H3 fun y H4 => tv σ2 H4 fun z H5 => DcPut D Nx y z H5 else Nx H3
structure Stand (Y : Cx) (fp : List Addr) (tn : Nat → Heap → Prop) (σ0 : L2.St) (i : Nat) (H : Hp) (s : Shared) : Prop where
  inv : Inv Y [] σ0 H s
  at_ : tn i s.heap
  no : ∀ b ∈ fp, H b = none
section
variable {s0 : Shared} {H0 : Hp} {scope : Scope} {ce : Env} {fp : List Addr} {tn : Nat → Heap → Prop} {σ0 : L2.St} {tg : Expr} {J : It} {it : Addr}
theorem fp_blk {σ : L2.St} {H : Hp} {s : Shared} (I : Inv (X.blk s0 H0 scope ce fp) [] σ H s) (no : ∀ b ∈ fp, H b = none) {b : Addr} (hb : b ∈ fp) : FpOk (X.blk s0 H0 scope ce fp) [] H b := by
  have e1 := I.ok.exf b hb
  refine ⟨no b hb, e1.1, I.ok.exfs b hb, .inl hb, fun _ _ e => e1.2 _ _ e, fun p hp => ?_⟩
  have : p ∈ ([] : List (Addr × Obj)) ++ [] := hp
  exact absurd this (by simp)
theorem Stand.after {vs : List Nat} {i : Nat} {σ' : L2.St} {H' : Hp} {s' s7 : Shared} (T : Turn X.prog X.w X.K tg J fp it tn) (t7 : tn (i + 1) s7.heap) (I' : Inv (X.blk s0 H0 scope ce fp) ([] ++ pinsAt fp s7.heap) σ' H' s') (hw : wipe σ' vs = σ0) : Stand (X.blk s0 H0 scope ce fp) fp tn σ0 (i + 1) H' s' := by
  have held : ∀ b ∈ fp, ∀ o, s7.heap.get? b = some o → s'.heap.get? b = some o ∧ H' b = none := fun b hb o e => by
    have z := I'.pin (b, o) (List.mem_append_right _ (List.mem_append_right _ (mem_pinsAt hb e)))
    exact ⟨z.1, z.2.1⟩
  subst hw
  refine ⟨I'.unpinned.weak (wipe_length σ' vs) fun j v e => (wipe_some e).1, T.keep _ _ _ t7 fun b hb o e => (held b hb o e).1, fun b hb => ?_⟩
  obtain ⟨o, e, _⟩ := T.obj _ _ t7 b hb
  exact (held b hb o e).2
theorem Stand.item {vs : List Nat} {i : Nat} {H : Hp} {s : Shared} {D : Addr} {Nx : Hp → Prop} {g : TG} {tt : TT} {tk tv : TE} {kx vx : Expr} {ifs : List Expr} {R : Shared → Prop} {F : Value → Shared → Prop} (hu : X.A.units + 1 < cLine) (hc : X.calm = true) (T : Turn X.prog X.w X.K tg J fp it tn) (S : Stand (X.blk s0 H0 scope ce fp) fp tn σ0 i H s)
    (pg : PG (X.blk s0 H0 scope ce fp) tg g) (pt : PTs (X.blk s0 H0 scope ce fp) ifs tt) (pk : PE (X.blk s0 H0 scope ce fp) kx tk) (pe : PE (X.blk s0 H0 scope ce fp) vx tv)
    (go : J.go i H) (step : ∀ x H', J.yld i H x H' → DcItem g tt tk tv σ0 vs D Nx x H') (r : ∀ H' s', Stand (X.blk s0 H0 scope ce fp) fp tn σ0 (i + 1) H' s' → Nx H' → R s') :
    wpAny (model X.prog X.w) X.A (pyNext (.ref it)) (fun o s1 => ∃ u, o = some u ∧ wpAny (model X.prog X.w) X.A (letOwnedTupleGo tg (.ref it) u) (fun _ s2 => wpAny (model X.prog X.w) X.A (assign tg ce u) (fun _ s3 =>
      wpAny (model X.prog X.w) X.A (forIn ifs true fun c r => if r = true then do let ok ← isTrue c ce (eval c ce); pure (ForInStep.yield ok) else pure (ForInStep.yield r)) (fun b s4 =>
        if b = true then wpAny (model X.prog X.w) X.A (eval kx ce) (fun kv s5 => wpAny (model X.prog X.w) X.A (eval vx ce) (fun vv s6 => wpAny (model X.prog X.w) X.A (dictSet D kv vv) (fun _ s7 => R s7) F s6) F s5) F s4 else R s4) F s3) F s2) F s1) F s := by
  refine thnF (T.item (X.blk s0 H0 scope ce fp) rfl rfl rfl hc i [] s σ0 H (fun _ _ => False) S.inv (fun b hb => fp_blk S.inv S.no hb) S.at_ go) fun o s1 ⟨u, ho, w1⟩ => ⟨u, ho, thnF w1 fun _ s2 ⟨x, H2, I2, rx, y2, t2, n2⟩ => ?_⟩
  have P2 := I2.pinned (fun b hb => fp_blk I2 n2 hb) (T.obj _ _ t2)
  refine thnF (pg.run _ s2 σ0 H2 x u _ P2 rx (step x H2 y2)) fun _ s3 ⟨σ3, H3, I3, w3, q3⟩ => thnF (pt.run _ s3 σ3 H3 _ I3 q3) fun b s4 ⟨H4, I4, q4⟩ => ?_
  cases b with
  | false => exact r H4 s4 (Stand.after T t2 I4 w3) q4
  | true =>
    rw [if_pos rfl]
    refine thnF (pk.run _ s4 σ3 H4 _ I4 q4) fun kv s5 ⟨y, H5, I5, r5, q5⟩ => thnF (pe.run _ s5 σ3 H5 _ I5 q5) fun vv s6 ⟨z, H6, I6, r6, q6⟩ => ?_
    obtain ⟨kvs, k, bk, rfl, hb, hD, few, nx⟩ := q6
    exact d_dictSetT (X := X.blk s0 H0 scope ce fp) hu I6 hD hb few r5 r6 fun s7 I7 => r _ s7 (Stand.after T t2 I7 w3) nx
end
end
end G
end
section
namespace G
open PySem PySem.Spec PyProof.Rows L2 RZ
section
variable {X : Cx}
end
def putP (ks ds : List D) (y d : D) : Option (List D × List D) := match tkeysD ks, tkeyD y with
  | some qs, some k => some (if hasK k qs = true then (ks, replT k d qs ds) else (ks ++ [y], ds ++ [d]))
  | _, _ => none
open Classical in
noncomputable def dcomp (g : MG) (t : MT) (k v : ME) (P : Sto → Prop) (en : En) : List D → List D × List D → Sto → Res (List D × List D)
  | [], acc, S => if P S then .ok acc S else .bad
  | d :: ds, acc, S => if P S then (match g d en with
    | none => .bad
    | some en1 => (t en1 S).noex.bind fun b S1 => match b with
      | false => dcomp g t k v P en ds acc S1
      | true => (k en1 S1).noex.bind fun y S2 => (v en1 S2).noex.bind fun x S3 => if acc.1.length < sizeLine then (match putP acc.1 acc.2 y x with
        | some acc' => dcomp g t k v P en ds acc' S3
        | none => .bad) else .bad) else .bad
noncomputable def mDcN (i : MI) (g : MG) (t : MT) (k v : ME) (vs : List Nat) : ME := fun en S => (i en S).bind fun its S1 => (dcomp g t k v its.P (wipeE en vs) its.ds ([], []) S1).bind fun acc S2 => .ok (.ref S2.length) (S2 ++ [.dic acc.1 acc.2])
section
variable {X : Cx} {B : Bas} {W : WX} {kx vx tg iter : Expr} {ifs : List Expr} {scope : Scope} {ow : List (Str × Nat)} {pos : Pos} {mi : MI} {g : TG} {t : MG} {tt : MT} {tk tv : ME} {own : List Nat}
end
section
variable {X : Cx} {B : Bas} {W : WX} {a b c : Expr} {pos : Pos} {ma mb mc : ME} {r r' : R2} {g g' : Sto → D → D → Option D}
end
end G
end
section
namespace G
open PySem PySem.Spec PyProof.Rows L2 RZ
def rIxG : R2 := fun x y H Q => ∃ a v, x = .ref a ∧ DGet H a y (some v) ∧ Q v H
theorem ix_dict {X : Cx} (hu : X.A.units + 1 < cLine) : IxR X rIxG := by
  intro value slice pins s σ H x y v u Q I rx ry h hs
  obtain ⟨a, z, rfl, g, q⟩ := h
  obtain rfl : v = Value.ref a := rx
  exact tail_any (dict_typeIs I g) PySem.F.slot_dict_getitem.lookup (d_getItem hu I g ry fun w' s3 I3 rw' => ⟨z, H, I3, rw', q⟩) hs
theorem ix_all {X : Cx} (hu : X.A.units + 1 < cLine) : IxR X (fun x y H Q => rIx X.K x y H Q ∨ rIxG x y H Q) := ix_seq.or (ix_dict hu)
def dIdxG (S : Sto) (x y : D) : Option D := match dGetO S x y with
  | some o => o
  | none => match kGetO S x y with
    | some o => o
    | none => none
theorem op2_idxG {B : Bas} : Op2 B rIxG dIdxG := fun m S H x y d1 d2 d s c r1 r2 e Q q => by
  unfold dIdxG at e
  cases h : dGetO S d1 d2 with
  | some o =>
    rw [h] at e
    simp only at e
    subst e
    obtain ⟨a, r, rfl, _, g, _, h2⟩ := dGet_of s c r1 r2 h
    obtain ⟨z, rfl, rz⟩ := h2 d rfl
    exact ⟨a, z, rfl, g, q_val s c q rz⟩
  | none =>
    rw [h] at e
    simp only at e
    cases h' : kGetO S d1 d2 with
    | none => rw [h'] at e; cases e
    | some o =>
      rw [h'] at e
      simp only at e
      subst e
      obtain ⟨a, r, rfl, _, g, _, h2⟩ := kGet_of s c r1 r2 h'
      obtain ⟨z, rfl, rz⟩ := h2 d rfl
      exact ⟨a, z, rfl, g, q_val s c q rz⟩
def dIdxA (S : Sto) (x y : D) : Option D := match dIdx S x y with
  | some d => some d
  | none => dIdxG S x y
theorem op2_idxA {B : Bas} : Op2 B (fun x y H Q => rIx B.K x y H Q ∨ rIxG x y H Q) dIdxA := fun m S H x y d1 d2 d s c r1 r2 e Q q => by
  unfold dIdxA at e
  cases h : dIdx S d1 d2 with
  | some z => rw [h] at e; cases e; exact .inl (op2_idx m S H x y d1 d2 d s c r1 r2 h Q q)
  | none => rw [h] at e; exact .inr (op2_idxG m S H x y d1 d2 d s c r1 r2 e Q q)
def iZip (r : MA) : MI := fun en S => (r en S).bind fun ds S1 => match ds with
  | [x, y] => match seqL S1 x, seqL S1 y with
    | some xs, some ys => .ok ⟨(xs.zip ys).map fun p => .tup [p.1, p.2], fun S => seqL S x = some xs ∧ seqL S y = some ys⟩ S1
    | _, _ => match seqT x, seqT y with
      | some xs, some ys => .ok ⟨(xs.zip ys).map fun p => .tup [p.1, p.2], fun _ => True⟩ S1
      | _, _ => .bad
  | _ => .bad
def sPar3 (i j l : Nat) (r : MA) : MS := fun en S => (r en S).bind fun ds S1 => match ds with
  | [x, y, z] => .ok (.nx (((en.set i (some x)).set j (some y)).set l (some z))) S1
  | _ => .bad
end G
end
section
namespace G
open PySem PySem.Spec PyProof.Rows L2 RZ
def HApart (qs : List (List Key)) : Prop := ∀ w : World, (qs.map fun k => reduceHash (Builtin.Tuple.tupleHashOf (k.map (keyH w)))).Nodup
theorem KT.fst {H : Hp} : ∀ {kvs : List (List Key × V)} {xs : List (List Key × Addr × Value)}, KT H kvs xs → kvs.map (·.1) = xs.map (·.1)
  | _, _, .nil => rfl
  | _, _, .cons h t => by simp only [List.map_cons, h.1, KT.fst t]
open Classical in
noncomputable def dictOfR (S1 : Sto) (x : D) : Res D := match dicOf S1 x with
  | some (ks, ds) => match tkeysD ks with
    | some qs => if HApart qs then .ok (.ref S1.length) (S1 ++ [.dic ks ds]) else .bad
    | none => .bad
  | none => .bad
noncomputable def mDictOf (e : ME) : ME := fun en S => (e en S).bind fun x S1 => dictOfR S1 x
end G
end
section
namespace G
open PySem PySem.Spec PyProof.Rows L2 He
def pAd (K : PySem.W.Frag) (C x : Str) : Addr := match PySem.W.recIn K (ma K (ga K C) x) "property" with
  | some (.ref g :: _) => g
  | _ => 0
def fnWA (K : PySem.W.Frag) (a : Addr) : FnW := match K.lookup a with
  | some ⟨_, _, .func fd, _⟩ => some (fd.name, fd.qualname, fd.params, fd.body, fd.scope, fd.globals, fd.closure, fd.builtins)
  | _ => none
structure GetD where
  c : Str
  x : Str
  d : DefD
def okA (K : PySem.W.Frag) (a : Addr) (d : DefD) : Bool := PySem.W.keepIn K (.ref a) && (match K.lookup a with
  | some ⟨_, _, .func fd, _⟩ => PySem.W.codeIn K fd.code d.qual && (dflB K fd.defaults (d.dvs K) && kwdB K fd.kwdefaults (d.kws K))
  | _ => false)
theorem funD_at {K : PySem.W.Frag} {a : Addr} {d : DefD} (e : fnWA K a = d.val) (c : okA K a d = true) : ∃ fd, FunD K d.name d.qual d.params d.body d.scope (d.dvs K) (d.kws K) a fd := by
  obtain ⟨kp, c2⟩ := ba c
  unfold fnWA at e
  cases q : K.lookup a with
  | none => rw [q] at c2; cases c2
  | some o =>
    obtain ⟨oc, od, dt, osl⟩ := o
    rw [q] at c2 e
    cases dt with
    | func fd =>
      obtain ⟨n1, n2, n3, n4, n5, n6, n7, n8, n9, n10, n11, n12, n13, n14, n15⟩ := fd
      have e2 : (some (n1, n2, n3, n4, n5, n6, n7, n15) : FnW) = some (d.name, d.qual, d.params, .stmts d.body, d.scope, mainGlobals, [], builtinsNs) := e
      simp only [Option.some.injEq, Prod.mk.injEq] at e2
      obtain ⟨h1, h2, h3, h4, h5, h6, h7, h8⟩ := e2
      subst h1 h2 h3 h4 h5 h6 h7 h8
      have c3 : (PySem.W.codeIn K n13 d.qual && (dflB K n8 (d.dvs K) && kwdB K n9 (d.kws K))) = true := c2
      obtain ⟨k1, k2⟩ := ba c3
      obtain ⟨k3, k4⟩ := ba k2
      exact ⟨_, ⟨oc, od, n8, n9, n10, n11, n12, n13, n14, osl, rfl, q, k1, dflB_ok k3, kwdB_ok k4⟩, kp⟩
    | _ => cases c2
def GetD.ok (K : PySem.W.Frag) (g : GetD) : Bool :=
  eqO (PySem.W.findIn K (.ref (ga K g.c)) g.x) (some (some (.ref (ma K (ga K g.c) g.x)))) && (eqO (PySem.W.specialIn K (.ref (ma K (ga K g.c) g.x)) "__get__") (some (some (.builtin "property.__get__"))) &&
    (decide (PySem.W.takesIn K (.ref (ma K (ga K g.c) g.x)) = some true) && ((match PySem.W.recIn K (ma K (ga K g.c) g.x) "property" with
      | some (.ref _ :: _) => true
      | _ => false) && okA K (pAd K g.c g.x) g.d)))
theorem GetD.prop {K : PySem.W.Frag} {g : GetD} (c : g.ok K = true) : PropOf K (ga K g.c) g.x (ma K (ga K g.c) g.x) (pAd K g.c g.x) := by
  obtain ⟨h1, c⟩ := ba c
  obtain ⟨h2, c⟩ := ba c
  obtain ⟨h3, c⟩ := ba c
  obtain ⟨h4, _⟩ := ba c
  refine ⟨eqO_ok h1, eqO_ok h2, of_decide_eq_true h3, ?_⟩
  unfold pAd
  revert h4
  cases PySem.W.recIn K (ma K (ga K g.c) g.x) "property" with
  | none => intro h; cases h
  | some l =>
    cases l with
    | nil => intro h; cases h
    | cons v r =>
      cases v with
      | ref a => intro _; exact ⟨r, rfl⟩
      | _ => intro h; cases h
theorem GetD.fun_ {K : PySem.W.Frag} {g : GetD} (c : g.ok K = true) (e : fnWA K (pAd K g.c g.x) = g.d.val) : ∃ fd, FunD K g.d.name g.d.qual g.d.params g.d.body g.d.scope (g.d.dvs K) (g.d.kws K) (pAd K g.c g.x) fd := by
  obtain ⟨_, c⟩ := ba c
  obtain ⟨_, c⟩ := ba c
  obtain ⟨_, c⟩ := ba c
  obtain ⟨_, c⟩ := ba c
  exact funD_at e c
structure SaysP (fa : List Fa) (fn : List DefD) (gs : List GetD) (ex : PySem.W.Frag → Bool) (K : PySem.W.Frag) : Prop where
  d : SaysD fa fn K
  more : ex K = true
  gok : ∀ g ∈ gs, g.ok K = true
  gfn : gs.map (fun d => fnWA K (pAd K d.c d.x)) = gs.map fun d => d.d.val
theorem SaysP.get {fa : List Fa} {fn : List DefD} {gs : List GetD} {ex : PySem.W.Frag → Bool} {K : PySem.W.Frag} (c : SaysP fa fn gs ex K) (i : Nat) {g : GetD} (h : gs[i]? = some g := by rfl) :
    PropOf K (ga K g.c) g.x (ma K (ga K g.c) g.x) (pAd K g.c g.x) ∧ ∃ fd, FunD K g.d.name g.d.qual g.d.params g.d.body g.d.scope (g.d.dvs K) (g.d.kws K) (pAd K g.c g.x) fd := by
  have hg := c.gok g (List.mem_of_getElem? h)
  refine ⟨GetD.prop hg, GetD.fun_ hg ?_⟩
  have e2 : (gs.map fun d => fnWA K (pAd K d.c d.x))[i]? = (gs.map fun d => d.d.val)[i]? := by rw [c.gfn]
  rw [List.getElem?_map, List.getElem?_map, h] at e2
  exact Option.some.inj e2
end G
end
section
namespace G
open PySem PySem.Spec PyProof.Rows L2
theorem passNoX {X : Cx} : Passes (L2.CX X.prog X.w) X (fun _ _ _ => False) := fun pins σ H s e s' I h => by
  obtain ⟨_, _, _, _, _, _, _, _, _, _, _, _, z⟩ := h
  exact z.elim
def spI2 (C : Addr) (f g : Str) : Sp := fun vs H Q _ => ∃ a y z, vs = [.ref a, y, z] ∧ H a = some (exo a C none) ∧ ∀ dx, H dx = none → dx ≠ a → Q .non (upd (upd (upd H dx (exd dx [(f, y)])) a (exo a C (some dx))) dx (exd dx [(g, z), (f, y)]))
section
variable {P : Program} {w : World} {K : PySem.W.Frag} {mg : Str → Option Value} {base : Heap} {x qual : Str} {st : Stmt} {fI : Addr} {fd : FuncData} {C : Addr} {f g : Str} {N ps : List Str} {k : Nat}
theorem init2_ok (F : Fun K x qual st fI fd) (S : FnScope N ps (defScope st)) (hp : ps.length = 3) (T : OexC K C) (hno : PySem.W.findIn K (.ref C) f = some none) (hno2 : PySem.W.findIn K (.ref C) g = some none) (hN : 3 ≤ N.length)
    (hb : ∀ (cdv : Value) (A : Around) (outer : List Env) (s : Shared) (H : Hp) (E : XK), PSs (cxOf (L2.CX P w) P w K mg base N qual (defScope st) fI cdv A outer s H E) (defBody st) (tSeq (tOst K f (tVar 0) (tVar 1)) (tOst K g (tVar 0) (tVar 2)))) :
    FnOk P w K mg base (L2.CX P w) (k + 1) fI fd ps (spI2 C f g) := by
  refine F.okX S (fun vs H Q E h => ?_) fun cdv A outer s H vs Q E hr h => ⟨_, hb cdv A outer s H E, ?_⟩
  · obtain ⟨a, y, z, rfl, _⟩ := h
    rw [hp]; rfl
  · obtain ⟨a, y, z, rfl, ha, q⟩ := h
    obtain ⟨n1, n2, n3, N', rfl⟩ : ∃ n1 n2 n3 N', N = n1 :: n2 :: n3 :: N' := by
      match N, hN with
      | n1 :: n2 :: n3 :: N', _ => exact ⟨n1, n2, n3, N', rfl⟩
    refine ⟨y, rfl, .ref a, rfl, a, C, rfl, T, hno, .inl ⟨ha, fun dx h1 h2 => ?_⟩⟩
    refine ⟨z, rfl, .ref a, rfl, a, C, rfl, T, hno2, .inr ⟨dx, [(f, y)], upd_same, ?_, by simp, q dx h1 h2⟩⟩
    rw [upd_ne h2, upd_same]
end
def sRaise (c : Nat) (ns : List Str) (r : MA) : MS := fun en S => (r en S).bind fun ds S1 => if ds.length = ns.length then .ex c ns ds.reverse S1 else .bad
def CalE2 (P : Program) (w : World) (K : PySem.W.Frag) (mg : Str → Option Value) (base : Heap) (B : Bas) (x : Str) (c k : Nat) (f g : Str) : Prop :=
  ∃ (fI : Addr) (fd : FuncData) (ps : List Str), FnOk P w K mg base (L2.CX P w) k fI fd ps (spI2 (B.cls c) f g) ∧ OexC K (B.cls c) ∧ PySem.W.findIn K (.ref (B.cls c)) "__init__" = some (some (.ref fI)) ∧ PySem.W.typeIn K (.ref fI) = some (.type "function") ∧ Binds K fd ps [] ∧ mg x = some (.ref (B.cls c))
theorem exd_fin2 {H : Hp} {a dx : Addr} {u1 u2 u3 u4 u5 : HO} (ha : H a = none) (hd : H dx = none) (ne : dx ≠ a) : upd (L2.del (upd (upd (upd (upd H a u1) dx u2) a u3) dx u5) a) dx u4 = upd H dx u4 := by
  funext b
  by_cases h : b = dx
  · subst h; rw [upd_same, upd_same]
  · rw [upd_ne h, upd_ne h]
    by_cases h2 : b = a
    · subst h2; rw [L2.del_same, ha]
    · rw [L2.del_ne h2, upd_ne h, upd_ne h2, upd_ne h, upd_ne h2]
section
variable {X : Cx} {B : Bas} {W : WX} {e e2 : Expr} {x f g : Str} {p pos rpos : Pos} {mr : MA} {c k j : Nat}
theorem ds_raise2 (ce : CalE2 X.prog X.w X.K X.mg X.base B x c k f g) (hc : X.calm = true) (tk : Takes X W) (hr : Room j X.A) (hk : k + 1 ≤ j) (ha : PA X [e, e2] (tA B W mr)) (hg : Gl X x := by rfl) (hdb : (x == ("__debug__" : Str)) = false := by decide)
    (he : starEach [e, e2] X.env = (false, eval e X.env) :: starEach [e2] X.env := by rfl) (hpl : (backTo pos (starEach [e2] X.env)).any (·.1) = false := by rfl) : PS X (.Raise (some (.Call (.Name x p) [e, e2] [] pos)) none rpos) (tS B W (sRaise c [g, f] mr)) := by
  obtain ⟨fI, fd, ps, FO, T, iC, tI, bd, hm⟩ := ce
  refine PS.cut (ps_raise hc tk (pmk_oex T iC tI FO (hr.mono hk) bd .nil passNoX hg hm ha hdb he hpl)) fun D σ H ⟨m, S, en, s, cc, er, q⟩ => ?_
  refine ⟨m, S, en, s, cc, er, (Post.bind q).imp ?_⟩
  rintro vs H1 ⟨ds, S1, m1, _, l1, c1, r1, p1⟩
  match ds, p1, r1 with
  | [], p1, _ => exact p1.elim
  | [_], p1, _ => exact p1.elim
  | _ :: _ :: _ :: _, p1, _ => exact p1.elim
  | [d, d2], p1, r1 =>
    simp only [Reps] at r1
    obtain ⟨v, r, rfl, rv, v2, r', rfl, rv2, rfl⟩ := r1
    refine ⟨by simp, fun a hn => ⟨a, v, v2, rfl, upd_same, fun dx h1 h2 => ⟨rfl, dx, [(g, v2), (f, v)], ?_, upd_same, ?_, ?_⟩⟩⟩
    · rw [upd_ne (Ne.symm h2), upd_same]
    · rw [upd_ne h2] at h1; exact h1
    · rw [upd_ne h2] at h1
      rw [exd_fin2 hn h1 h2]
      refine p1 _ _ _ (Le.new c1 l1.sub h1) (Cor.new c1 l1.sub h1) (.inr ⟨dx, [v2, v], rfl, upd_same, c1.out_of (l1.sub.none h1), rfl, ?_⟩)
      exact Reps.cons (rv2.mono (Le.new c1 l1.sub h1)) (Reps.cons (rv.mono (Le.new c1 l1.sub h1)) Reps.nil)
end
end G
namespace G
open PySem PySem.Spec PyProof.Rows L2 He
def oexB (K : PySem.W.Frag) (C : Addr) : Bool := (match K.lookup C with
  | some ⟨.type "type", _, .cls cd, sl⟩ => (match cd.mro, sl.toList with
    | .ref C' :: bm, [_, _, _, _, some (.builtin n), _] => C' == C && (n == "ValueError.__new__" && (!cd.hasDel && (cd.hasDict && PySem.HandSPX.refsVE bm)))
    | _, _ => false)
  | _ => false) && (eqO (PySem.W.findIn K (.ref C) "__setattr__") (some (some (.builtin "object.__setattr__"))) && (decide (PySem.W.subIn K (.ref C) (.type "BaseException") = some true) && (decide (PySem.W.typeIn K (.ref C) = some (.type "type")) && PySem.W.keepIn K (.ref C))))
theorem oexB_ok {K : PySem.W.Frag} {C : Addr} (h : oexB K C = true) : OexC K C := by
  unfold oexB at h
  obtain ⟨q, h⟩ := ba h
  obtain ⟨h1, h⟩ := ba h
  obtain ⟨h2, h⟩ := ba h
  obtain ⟨h3, h4⟩ := ba h
  refine ⟨?_, eqO_ok h1, of_decide_eq_true h2, of_decide_eq_true h3, h4⟩
  split at q
  · rename_i dd cd sl ho
    split at q
    · rename_i C' bm k0 k1 k2 k3 n k5 hm hs
      simp only [Bool.and_eq_true, beq_iff_eq, Bool.not_eq_true'] at q
      obtain ⟨rfl, rfl, hdel, hdict, hb⟩ := q
      obtain ⟨nm, bs, mro, ns, qn, hd, sn, sub, ab, col, del⟩ := cd
      dsimp only at hm hdel hdict
      subst hm hdel hdict
      have hsl : sl = #[k0, k1, k2, k3, some (.builtin "ValueError.__new__"), k5] := by
        obtain ⟨l⟩ := sl
        simp only at hs
        rw [hs]
      subst hsl
      exact ⟨nm, qn, ns, bs, bm, sn, sub, ab, col, dd, k0, k1, k2, k3, k5, ho, hb⟩
    · cases q
  · cases q
def iniB (K : PySem.W.Frag) (x : Str) : Bool := oexB K (ga K x) && (eqO (PySem.W.findIn K (.ref (ga K x)) "__init__") (some (some (.ref (ma K (ga K x) "__init__")))) && decide (PySem.W.typeIn K (.ref (ma K (ga K x) "__init__")) = some (.type "function")))
theorem iniB_ok {K : PySem.W.Frag} {x : Str} (h : iniB K x = true) : OexC K (ga K x) ∧ PySem.W.findIn K (.ref (ga K x)) "__init__" = some (some (.ref (ma K (ga K x) "__init__"))) ∧ PySem.W.typeIn K (.ref (ma K (ga K x) "__init__")) = some (.type "function") := by
  obtain ⟨h1, h⟩ := ba h
  obtain ⟨h2, h3⟩ := ba h
  exact ⟨oexB_ok h1, eqO_ok h2, of_decide_eq_true h3⟩
end G
end
section
namespace G
open PySem L2
theorem hu1 {A : Around} {k : Nat} (hr : Room k A) : A.units + 1 < cLine := by have := hr.un; omega
end G
end
section
namespace G
open PySem L2
def dispK (ss : List Str) (ds : List D) (S : Sto) : Res D := .ok (.ref S.length) (S ++ [.dic (ss.map .str) ds])
def dispDK (ss : List Str) (ds : List D) (S : Sto) : Res D := .ok (.dic (ss.map .str) ds) S
theorem mDisp_ap (ss : List Str) (r : MA) (en : En) (S : Sto) : mDisp ss r en S = (r en S).bind (dispK ss) := rfl
theorem mDispD_ap (ss : List Str) (r : MA) (en : En) (S : Sto) : mDispD ss r en S = (r en S).bind (dispDK ss) := rfl
theorem dispK_ap (ss : List Str) (ds : List D) (S : Sto) : dispK ss ds S = .ok (.ref S.length) (S ++ [.dic (ss.map .str) ds]) := rfl
theorem dispDK_ap (ss : List Str) (ds : List D) (S : Sto) : dispDK ss ds S = .ok (.dic (ss.map .str) ds) S := rfl
theorem mDEmp_ap (en : En) (S : Sto) : mDEmp en S = .ok (.dic [] []) S := rfl
theorem mDNew_ap (en : En) (S : Sto) : mDNew en S = .ok (.ref S.length) (S ++ [.dic [] []]) := rfl
noncomputable def dictK (x : D) (S : Sto) : Res D := dictOfR S x
theorem mDictOf_ap (e : ME) (en : En) (S : Sto) : mDictOf e en S = (e en S).bind dictK := rfl
theorem dicOf_dic (S : Sto) (ks ds : List D) : dicOf S (.dic ks ds) = some (ks, ds) := rfl
def dicO (o : Option Ob) : Option (List D × List D) := match o with
  | some (.dic ks ds) => some (ks, ds)
  | _ => none
theorem dicO_dic (ks ds : List D) : dicO (some (.dic ks ds)) = some (ks, ds) := rfl
def g2K3 (x y w : D) (S : Sto) : Res D := match dGetO S x y with
  | some (some d) => .ok d S
  | some none => .ok w S
  | none => .bad
def g2K2 (x y : D) (w : D) (S : Sto) : Res D := g2K3 x y w S
def g2K1 (z : ME) (en : En) (x y : D) (S : Sto) : Res D := (z en S).bind (g2K2 x y)
def g2K0 (b z : ME) (en : En) (x : D) (S : Sto) : Res D := match dicOf S x with
  | some (ks, _) => match tkeysD ks with
    | some _ => (b en S).bind (g2K1 z en x)
    | none => .bad
  | none => .bad
theorem mDGet2_ap (a b z : ME) (en : En) (S : Sto) : mDGet2 a b z en S = (a en S).bind (g2K0 b z en) := rfl
theorem g2K0_emp (b z : ME) (en : En) (S : Sto) : g2K0 b z en (.dic [] []) S = (b en S).bind (g2K1 z en (.dic [] [])) := rfl
theorem g2K1_ap (z : ME) (en : En) (x y : D) (S : Sto) : g2K1 z en x y S = (z en S).bind (g2K2 x y) := rfl
theorem g2K2_ap (x y w : D) (S : Sto) : g2K2 x y w S = g2K3 x y w S := rfl
noncomputable def dcK1 (g : MG) (t : MT) (k v : ME) (en : En) (its : Its) (S : Sto) : Res (List D × List D) := dcomp g t k v its.P en its.ds ([], []) S
def dcK2 (acc : List D × List D) (S : Sto) : Res D := .ok (.ref S.length) (S ++ [.dic acc.1 acc.2])
noncomputable def dcK0 (g : MG) (t : MT) (k v : ME) (en : En) (its : Its) (S : Sto) : Res D := (dcK1 g t k v en its S).bind dcK2
theorem mDcN_ap (i : MI) (g : MG) (t : MT) (k v : ME) (vs : List Nat) (en : En) (S : Sto) : mDcN i g t k v vs en S = (i en S).bind (dcK0 g t k v (wipeE en vs)) := rfl
theorem dcK0_ap (g : MG) (t : MT) (k v : ME) (en : En) (ds : List D) (P : Sto → Prop) (S : Sto) : dcK0 g t k v en ⟨ds, P⟩ S = (dcomp g t k v P en ds ([], []) S).bind dcK2 := rfl
theorem dcK2_ap (a b : List D) (S : Sto) : dcK2 (a, b) S = .ok (.ref S.length) (S ++ [.dic a b]) := rfl
def kpK3 (en : En) (d x y : D) (S : Sto) : Res Fl := match x, keyD y with
  | .ref i, some k => match S[i]? with
    | some (.dic ks ds) => match keysD ks with
      | some qs => if ks.isEmpty = false ∧ ks.length < sizeLine then .ok (.nx en) (S.set i (putKD ks qs ds y k d)) else .bad
      | none => .bad
    | _ => .bad
  | _, _ => .bad
def kpK2 (k : ME) (en : En) (d x : D) (S : Sto) : Res Fl := (k en S).bind (kpK3 en d x)
def kpK1 (o k : ME) (en : En) (d : D) (S : Sto) : Res Fl := (o en S).bind (kpK2 k en d)
theorem sKPutS_ap (o k e : ME) (en : En) (S : Sto) : sKPutS o k e en S = (e en S).bind (kpK1 o k en) := rfl
theorem kpK1_ap (o k : ME) (en : En) (d : D) (S : Sto) : kpK1 o k en d S = (o en S).bind (kpK2 k en d) := rfl
theorem kpK2_ap (k : ME) (en : En) (d x : D) (S : Sto) : kpK2 k en d x S = (k en S).bind (kpK3 en d x) := rfl
def dpK3 (en : En) (d x y : D) (S : Sto) : Res Fl := match x, tkeyD y with
  | .ref i, some k => match S[i]? with
    | some (.dic ks ds) => match tkeysD ks with
      | some qs => if ks.length < sizeLine then .ok (.nx en) (S.set i (putT ks qs ds y k d)) else .bad
      | none => .bad
    | _ => .bad
  | _, _ => .bad
def dpK2 (k : ME) (en : En) (d x : D) (S : Sto) : Res Fl := (k en S).bind (dpK3 en d x)
def dpK1 (o k : ME) (en : En) (d : D) (S : Sto) : Res Fl := (o en S).bind (dpK2 k en d)
theorem sDPutS_ap (o k e : ME) (en : En) (S : Sto) : sDPutS o k e en S = (e en S).bind (dpK1 o k en) := rfl
theorem dpK1_ap (o k : ME) (en : En) (d : D) (S : Sto) : dpK1 o k en d S = (o en S).bind (dpK2 k en d) := rfl
theorem dpK2_ap (k : ME) (en : En) (d x : D) (S : Sto) : dpK2 k en d x S = (k en S).bind (dpK3 en d x) := rfl
def propK (c : Nat) (F : Fn) (d : D) (S : Sto) : Res D := match insOf S d with
  | some (c', _, _) => if c' = c ∧ F.n = 1 then (F.run [d] S).noex else .bad
  | none => .bad
theorem mProp_ap (c : Nat) (F : Fn) (e : ME) (en : En) (S : Sto) : mProp c F e en S = (e en S).bind (propK c F) := rfl
def methK2 (F : Fn) (d : D) (ds : List D) (S : Sto) : Res D := if ds.length + 1 = F.n then F.run (d :: ds) S else .bad
def methK (c : Nat) (x : Str) (F : Fn) (r : MA) (en : En) (d : D) (S : Sto) : Res D := match insOf S d with
  | some (c', ns, _) => if c' = c ∧ x ∉ ns then (r en S).bind (methK2 F d) else .bad
  | none => .bad
theorem mMeth_ap (c : Nat) (x : Str) (F : Fn) (e : ME) (r : MA) (en : En) (S : Sto) : mMeth c x F e r en S = (e en S).bind (methK c x F r en) := rfl
noncomputable def makeK (c : Nat) (F : Fn) (ds : List D) (S : Sto) : Res D := (mkR c F ds S).frz S
theorem mMake_ap (c : Nat) (F : Fn) (r : MA) (en : En) (S : Sto) : mMake c F r en S = (r en S).bind (makeK c F) := rfl
def fsK1 (cs : List Nat) (f : Str) (en : En) (d x : D) (S : Sto) : Res Fl := match x with
  | .ref i => match S[i]? with
    | some (.ins c ns ds) => if c ∈ cs ∧ ns.length < 1000 then .ok (.nx en) (S.set i (.ins c (putN f ns) (putD f d ns ds))) else .bad
    | _ => .bad
  | _ => .bad
def fsK0 (cs : List Nat) (f : Str) (o : ME) (en : En) (d : D) (S : Sto) : Res Fl := (o en S).bind (fsK1 cs f en d)
theorem sFldS_ap (cs : List Nat) (f : Str) (o e : ME) (en : En) (S : Sto) : sFldS cs f o e en S = (e en S).bind (fsK0 cs f o en) := rfl
theorem fsK0_ap (cs : List Nat) (f : Str) (o : ME) (en : En) (d : D) (S : Sto) : fsK0 cs f o en d S = (o en S).bind (fsK1 cs f en d) := rfl
def enumK (d : D) (S : Sto) : Res Its := match seqL S d, seqT d with
  | some ds, _ => .ok ⟨enumD 0 ds, fun S => seqL S d = some ds⟩ S
  | none, some ds => .ok ⟨enumD 0 ds, fun _ => True⟩ S
  | none, none => .bad
theorem iEnum_ap (e : ME) (en : En) (S : Sto) : iEnum e en S = (e en S).bind enumK := rfl
theorem enumK_tup (ds : List D) (S : Sto) : enumK (.tup ds) S = .ok ⟨enumD 0 ds, fun _ => True⟩ S := rfl
def zipK (ds : List D) (S1 : Sto) : Res Its := match ds with
  | [x, y] => match seqL S1 x, seqL S1 y with
    | some xs, some ys => .ok ⟨(xs.zip ys).map fun p => .tup [p.1, p.2], fun S => seqL S x = some xs ∧ seqL S y = some ys⟩ S1
    | _, _ => match seqT x, seqT y with
      | some xs, some ys => .ok ⟨(xs.zip ys).map fun p => .tup [p.1, p.2], fun _ => True⟩ S1
      | _, _ => .bad
  | _ => .bad
theorem iZip_ap (r : MA) (en : En) (S : Sto) : iZip r en S = (r en S).bind zipK := rfl
theorem zipK_tup (xs ys : List D) (S : Sto) : zipK [.tup xs, .tup ys] S = .ok ⟨(xs.zip ys).map fun p => .tup [p.1, p.2], fun _ => True⟩ S := rfl
def chK4 (g' : Sto → D → D → Option D) (y z : D) (S : Sto) : Res D := optR (g' S y z) S
def chK3 (g' : Sto → D → D → Option D) (c : ME) (en : En) (y : D) (o : Option D) (S : Sto) : Res D := match o with
  | some (.bl true) => (c en S).bind (chK4 g' y)
  | some (.bl false) => .ok (.bl false) S
  | _ => .bad
def chK2 (g g' : Sto → D → D → Option D) (c : ME) (en : En) (x y : D) (S : Sto) : Res D := chK3 g' c en y (g S x y) S
def chK1 (g g' : Sto → D → D → Option D) (b c : ME) (en : En) (x : D) (S : Sto) : Res D := (b en S).bind (chK2 g g' c en x)
theorem chK1_ap (g g' : Sto → D → D → Option D) (b c : ME) (en : En) (x : D) (S : Sto) : chK1 g g' b c en x S = (b en S).bind (chK2 g g' c en x) := rfl
theorem chK2_ap (g g' : Sto → D → D → Option D) (c : ME) (en : En) (x y : D) (S : Sto) : chK2 g g' c en x y S = chK3 g' c en y (g S x y) S := rfl
theorem chK3_t (g' : Sto → D → D → Option D) (c : ME) (en : En) (y : D) (S : Sto) : chK3 g' c en y (some (.bl true)) S = (c en S).bind (chK4 g' y) := rfl
theorem chK3_f (g' : Sto → D → D → Option D) (c : ME) (en : En) (y : D) (S : Sto) : chK3 g' c en y (some (.bl false)) S = .ok (.bl false) S := rfl
theorem chK4_ap (g' : Sto → D → D → Option D) (y z : D) (S : Sto) : chK4 g' y z S = optR (g' S y z) S := rfl
def par3K (i j l : Nat) (en : En) (ds : List D) (S : Sto) : Res Fl := match ds with
  | [x, y, z] => .ok (.nx (((en.set i (some x)).set j (some y)).set l (some z))) S
  | _ => .bad
theorem sPar3_ap (i j l : Nat) (r : MA) (en : En) (S : Sto) : sPar3 i j l r en S = (r en S).bind (par3K i j l en) := rfl
theorem par3K_ap (i j l : Nat) (en : En) (x y z : D) (S : Sto) : par3K i j l en [x, y, z] S = .ok (.nx (((en.set i (some x)).set j (some y)).set l (some z))) S := rfl
def raiK (c : Nat) (ns : List Str) (ds : List D) (S : Sto) : Res Fl := if ds.length = ns.length then .ex c ns ds.reverse S else .bad
theorem sRaise_ap (c : Nat) (ns : List Str) (r : MA) (en : En) (S : Sto) : sRaise c ns r en S = (r en S).bind (raiK c ns) := rfl
theorem frzF_run (F : Fn) (ds : List D) (S : Sto) : (frzF F).run ds S = (F.run ds S).frz S := rfl
theorem frzF_n (F : Fn) : (frzF F).n = F.n := rfl
open Classical in
theorem drop_ok {S S' : Sto} {d : D} (h1 : Cl S S') (h2 : d.bel S.length) : (Res.ok d S').drop S = .ok d (S'.take S.length) := by
  show (if Cl S S' ∧ D.bel S.length d then Res.ok d (S'.take S.length) else Res.bad) = _
  rw [if_pos ⟨h1, h2⟩]
theorem drop_app {S T : Sto} {d : D} (h : d.bel S.length) : (Res.ok d (S ++ T)).drop S = .ok d S := by
  rw [drop_ok (Cl.app _ _) h]
  simp
theorem setB {S T : Sto} {i : Nat} {o : Ob} (h : i < S.length) : (S ++ T).set i o = S.set i o ++ T := List.set_append_left _ _ h
theorem dIdxA_idx {S : Sto} {x y d : D} (h : dIdx S x y = some d) : dIdxA S x y = some d := by
  unfold dIdxA
  rw [h]
theorem dIdxA_tup (S : Sto) (ds : List D) (i : Int) : dIdxA S (.tup ds) (.int i) = atI ds i := by
  unfold dIdxA
  rw [dIdx_tup]
  cases atI ds i with
  | some d => rfl
  | none => simp [dIdxG, dGetO, kGetO, dicOf]
theorem dIdxA_lst (S : Sto) (ds : List D) (i : Int) : dIdxA S (.lst ds) (.int i) = atI ds i := by
  unfold dIdxA
  rw [dIdx_lst]
  cases atI ds i with
  | some d => rfl
  | none => simp [dIdxG, dGetO, kGetO, dicOf]
theorem tkey2 (a b : Int) : tkeyD (.tup [.int a, .int b]) = some [.inl a, .inl b] := rfl
theorem isi_int_int (S : Sto) (i : Int) : dIsi S [.int i, .ty "int"] = some (.bl true) := by
  show ((tyN S (.int i)).bind fun n => kitB n "int").map D.bl = _
  have e : (tyN S (.int i)) = some "int" := rfl
  rw [e]
  have k : kitB "int" "int" = some true := by decide +kernel
  simp only [Option.bind_some, k, Option.map_some]
theorem isi_str_str (S : Sto) (z : Str) : dIsi S [.str z, .ty "str"] = some (.bl true) := by
  show ((tyN S (.str z)).bind fun n => kitB n "str").map D.bl = _
  have e : (tyN S (.str z)) = some "str" := rfl
  rw [e]
  have k : kitB "str" "str" = some true := by decide +kernel
  simp only [Option.bind_some, k, Option.map_some]
theorem noex_ok' {α : Type} (a : α) (S : Sto) : (Res.ok a S).noex = .ok a S := rfl
end G
end
section
namespace G
open PySem L2
theorem Wp.eq {α : Type} {r : Res α} {d : α} {S : Sto} (h : Wp r fun d' S' => d' = d ∧ S' = S) : r = .ok d S := by
  obtain ⟨a, S', e, rfl, rfl⟩ := h.ok_of
  exact e
theorem drop_of {r : Res D} {d : D} {S : Sto} (h : Wp r fun d' S' => d' = d ∧ ∃ T, S' = S ++ T) (hb : d.bel S.length) : r.drop S = .ok d S := by
  obtain ⟨a, S', e, rfl, T, rfl⟩ := h.ok_of
  rw [e, drop_app hb]
theorem comp_map {α : Type} {g : MG} {t : MT} {e : ME} {en : En} {S : Sto} {f0 f : α → D} {p : α → Bool} : ∀ (l : List α) (acc : List D),
    (∀ a ∈ l, ∃ en1, g (f0 a) en = some en1 ∧ t en1 S = .ok (p a) S ∧ (p a = true → e en1 S = .ok (f a) S)) → acc.length + l.length ≤ 1000000 →
    comp g t e (fun _ => True) en (l.map f0) acc S = .ok (acc ++ (l.filter p).map f) S
  | [], acc, _, _ => by rw [List.map_nil, comp_nil_ap]; simp
  | a :: l, acc, h, hl => by
    obtain ⟨en1, h1, h2, h3⟩ := h a (by simp)
    rw [List.map_cons, comp_cons_ap, h1, cK0_some, h2]
    simp only [noex_ok, Res.bind_ok]
    simp only [List.length_cons] at hl
    cases hp : p a with
    | false =>
      rw [cK1_f, comp_map l acc (fun x hx => h x (by simp [hx])) (by omega), List.filter_cons_of_neg (by simp [hp])]
    | true =>
      rw [cK1_t, h3 hp]
      simp only [noex_ok, Res.bind_ok]
      rw [cK2_ap (by omega), comp_map l (acc ++ [f a]) (fun x hx => h x (by simp [hx])) (by simp; omega), List.filter_cons_of_pos hp]
      simp
theorem comp_all {α : Type} {g : MG} {e : ME} {en : En} {S : Sto} {f0 f : α → D} (l : List α) (h : ∀ a ∈ l, ∃ en1, g (f0 a) en = some en1 ∧ e en1 S = .ok (f a) S) (hl : l.length ≤ 1000000) :
    comp g tYesM e (fun _ => True) en (l.map f0) [] S = .ok (l.map f) S := by
  rw [comp_map (p := fun _ => true) (f := f) l [] (fun a ha => by obtain ⟨en1, h1, h2⟩ := h a ha; exact ⟨en1, h1, rfl, fun _ => h2⟩) (by simpa using hl)]
  rw [List.nil_append, List.filter_eq_self.mpr (fun _ _ => rfl)]
theorem Wp_for {α : Type} {g : MG} {b : MS} {f0 : α → D} {l : List α} {en : En} {S : Sto} {Q : Fl → Sto → Prop} (I : List α → En → Sto → Prop) (h0 : I [] en S)
    (turn : ∀ (pre : List α) (a : α) (suf : List α) (en : En) (S : Sto), l = pre ++ a :: suf → I pre en S → ∃ en1, g (f0 a) en = some en1 ∧ Wp (b en1 S) fun f S1 => match f with
      | .nx en2 => I (pre ++ [a]) en2 S1
      | .ct en2 => I (pre ++ [a]) en2 S1
      | .bk en2 => Q (.nx en2) S1
      | .rt d => Q (.rt d) S1)
    (done : ∀ en S, I l en S → Q (.nx en) S) : Wp (loop g b (fun _ => True) (l.map f0) en S) Q := by
  have key : ∀ (suf pre : List α) (en : En) (S : Sto), l = pre ++ suf → I pre en S → Wp (loop g b (fun _ => True) (suf.map f0) en S) Q := by
    intro suf
    induction suf with
    | nil =>
      intro pre en S hl h
      rw [List.map_nil, loop_nil]
      refine done en S ?_
      rw [hl, List.append_nil]
      exact h
    | cons a suf ih =>
      intro pre en S hl h
      rw [List.map_cons, loop_cons]
      obtain ⟨en1, e1, w⟩ := turn pre a suf en S hl h
      rw [e1, stepR_some, Wp_bind]
      refine w.mono fun f S1 q => ?_
      cases f with
      | nx en2 => exact ih (pre ++ [a]) en2 S1 (by simp [hl]) q
      | ct en2 => exact ih (pre ++ [a]) en2 S1 (by simp [hl]) q
      | bk en2 => exact q
      | rt d => exact q
  exact key l [] en S rfl h0
theorem rangeD_map (n : Nat) : rangeD 0 n = (List.range n).map fun k => D.int (k : Nat) := by
  unfold rangeD
  refine List.map_congr_left fun k _ => ?_
  rw [Int.zero_add]
theorem rg1K_nat {n : Nat} {S : Sto} (h : n ≤ 1000000) : rg1K [.int (n : Nat)] S = .ok ⟨(List.range n).map fun k => D.int (k : Nat), fun _ => True⟩ S := by
  rw [rg1K_ok (by omega), Int.toNat_natCast, rangeD_map]
end G
end
section
namespace G
open PySem L2
end G
end
section
namespace G
open PySem L2 PyProof.Rows PySem.W
section
variable {X : Cx}
end
structure SortOkL (ks : List NK) : Prop where
  few : ks.length ≤ 1000
  form : FormK ks
  ok : ∀ k ∈ ks, k.data.canLay0 = true
  dp : ∀ k ∈ ks, k.data.depth ≤ 8 ∧ k.depth ≤ 8
  cmp : CmpK ks
  once : ks.Nodup
section
variable {P : Program} {w : World} {A : Around} {E : Value → Shared → Prop} {s : Shared}
end
end G
end
section
namespace G
open PySem L2 PyProof.Rows
section
variable {X : Cx}
end
def mLenO (c : Nat) (F : Fn) (e : ME) : ME := fun en S => (e en S).bind fun d S1 => match insOf S1 d with
  | some (c', _, _) => if c' = c ∧ F.n = 1 then ((F.run [d] S1).noex).bind fun z S2 => (match z with
      | .int k => if 0 ≤ k ∧ k < 1000000000 then .ok (.int k) S2 else .bad
      | _ => .bad)
    else .bad
  | none => .bad
def lenK2 (z : D) (S : Sto) : Res D := match z with
  | .int k => if 0 ≤ k ∧ k < 1000000000 then .ok (.int k) S else .bad
  | _ => .bad
def lenK (c : Nat) (F : Fn) (d : D) (S : Sto) : Res D := match insOf S d with
  | some (c', _, _) => if c' = c ∧ F.n = 1 then ((F.run [d] S).noex).bind lenK2 else .bad
  | none => .bad
theorem mLenO_ap (c : Nat) (F : Fn) (e : ME) (en : En) (S : Sto) : mLenO c F e en S = (e en S).bind (lenK c F) := rfl
end G
end
section
namespace G
open PySem L2 PyProof.Rows
noncomputable def rgK1 (g : Int → Int → Sto → Res D) (d : D) (S : Sto) : Res D := match d with
  | .int j => g 0 j S
  | _ => .bad
noncomputable def mRg1 (g : Int → Int → Sto → Res D) (a : ME) : ME := fun en S => (a en S).bind (rgK1 g)
noncomputable def rgK2 (g : Int → Int → Sto → Res D) (x : D) (y : D) (S : Sto) : Res D := match x, y with
  | .int i, .int j => g i j S
  | _, _ => .bad
noncomputable def rgK2a (g : Int → Int → Sto → Res D) (b : ME) (en : En) (x : D) (S : Sto) : Res D := (b en S).bind (rgK2 g x)
noncomputable def mRg2 (g : Int → Int → Sto → Res D) (a b : ME) : ME := fun en S => (a en S).bind (rgK2a g b en)
section
variable {X : Cx} {B : Bas} {W : WX} {a b : Expr} {p p2 pos pos2 : Pos} {ma mb : ME}
end
theorem mRg1_ap (g : Int → Int → Sto → Res D) (a : ME) (en : En) (S : Sto) : mRg1 g a en S = (a en S).bind (rgK1 g) := rfl
theorem mRg2_ap (g : Int → Int → Sto → Res D) (a b : ME) (en : En) (S : Sto) : mRg2 g a b en S = (a en S).bind (rgK2a g b en) := rfl
theorem rgK2a_ap (g : Int → Int → Sto → Res D) (b : ME) (en : En) (x : D) (S : Sto) : rgK2a g b en x S = (b en S).bind (rgK2 g x) := rfl
section
variable {X : Cx}
end
def cmpOK3 (z : D) (S : Sto) : Res D := match z with
  | .bl k => .ok (.bl k) S
  | _ => .bad
noncomputable def cmpOK2 (c : Nat) (F : Fn) (x y : D) (S : Sto) : Res D := match insOf S x, insOf S y with
  | some (c1, _, _), some (c2, _, _) => if c1 = c ∧ c2 = c ∧ F.n = 2 then ((F.run [x, y] S).noex).bind cmpOK3 else .bad
  | _, _ => .bad
noncomputable def cmpOK1 (c : Nat) (F : Fn) (b : ME) (en : En) (x : D) (S : Sto) : Res D := (b en S).bind (cmpOK2 c F x)
noncomputable def mCmpO (c : Nat) (F : Fn) (a b : ME) : ME := fun en S => (a en S).bind (cmpOK1 c F b en)
section
variable {X : Cx} {B : Bas} {W : WX} {a b : Expr} {pos : Pos} {ma mb : ME} {c k j : Nat} {F : Fn} {x : Str}
end
theorem mCmpO_ap (c : Nat) (F : Fn) (a b : ME) (en : En) (S : Sto) : mCmpO c F a b en S = (a en S).bind (cmpOK1 c F b en) := rfl
theorem cmpOK1_ap (c : Nat) (F : Fn) (b : ME) (en : En) (x : D) (S : Sto) : cmpOK1 c F b en x S = (b en S).bind (cmpOK2 c F x) := rfl
def tyNames : List String := ["NoneType", "bool", "int", "str", "tuple", "list", "dict"]
structure IsiK (K : PySem.W.Frag) (C : Addr) : Prop where
  cl : Cls K C
  ha : PySem.W.findIn K (.ref C) "__class__" = some (some (.builtin "object.__class__"))
  hn : PySem.W.specialIn K (.builtin "object.__class__") "__get__" = some (some (.builtin "getset_descriptor.__get__"))
  htk : PySem.W.takesIn K (.builtin "object.__class__") = some true
  hm : PySem.W.mroIn K C (.type "object") = some true
def dIsiO (c : Nat) (cs : List Nat) (S : Sto) (x : D) : Option D := match insOf S x with
  | some (c', _, _) => if c' ∈ cs then some (.bl (decide (c' = c))) else none
  | none => match tyN S x with
    | some n => if n ∈ tyNames then some (.bl false) else none
    | none => none
def isiOK (c : Nat) (cs : List Nat) (x : D) (S : Sto) : Res D := match dIsiO c cs S x with
  | some d => .ok d S
  | none => .bad
def mIsiO (c : Nat) (cs : List Nat) (a : ME) : ME := fun en S => (a en S).bind (isiOK c cs)
theorem mIsiO_ap (c : Nat) (cs : List Nat) (a : ME) (en : En) (S : Sto) : mIsiO c cs a en S = (a en S).bind (isiOK c cs) := rfl
end G
end
section
namespace G
open PySem L2
end G
end
section
namespace G
open PySem L2
def listNK (x : D) (S : Sto) : Res D := match seqL S x, seqT x with
  | some ds, _ => .ok (.ref S.length) (S ++ [.lst ds])
  | none, some ds => .ok (.ref S.length) (S ++ [.lst ds])
  | none, none => .bad
def mListN (a : ME) : ME := fun en S => (a en S).bind listNK
theorem mListN_ap (a : ME) (en : En) (S : Sto) : mListN a en S = (a en S).bind listNK := rfl
end G
end
section
namespace G
open PySem L2
end G
end
section
namespace G
open PySem L2 PyProof.Rows
section
variable {X : Cx}
end
end G
end
section
namespace G
open PySem PySem.Spec PyProof.Rows L2 RZ
section
variable {X : Cx}
end
def disp1K (y d : D) (S : Sto) : Res D := match tkeyD y with
  | some _ => .ok (.ref S.length) (S ++ [.dic [y] [d]])
  | none => .bad
def mDisp1 (k v : ME) : ME := fun en S => (k en S).bind fun y S1 => (v en S1).bind fun d S2 => disp1K y d S2
theorem mDisp1_ap (k v : ME) (en : En) (S : Sto) : mDisp1 k v en S = (k en S).bind fun y S1 => (v en S1).bind fun d S2 => disp1K y d S2 := rfl
end G
end
section
namespace G
open PySem PySem.Spec PyProof.Rows L2
section
variable {prog : Program} {w : World} {A : Around} {E : Value → Shared → Prop} {s : Shared}
end
section
variable {X : Cx}
end
end G
end
section
namespace G
open PySem L2
end G
end
section
namespace G
open PySem L2 PySem.Spec PyProof.Rows
def keyP : Key → PyData
  | .inl i => .int i
  | .inr x => .str x
mutual
inductive Dx (K : PySem.W.Frag) (H : Hp) : V → PyData → Prop
  | non : Dx K H .non .none
  | bl (b : Bool) : Dx K H (.bl b) (.bool b)
  | int (i : Int) : Dx K H (.int i) (.int i)
  | str (x : Str) : Dx K H (.str x) (.str x)
  | tup {a : Addr} {xs : List V} {ds : List PyData} : SqT K H a xs → DxA K H xs ds → Dx K H (.ref a) (.tuple ds)
  | dic0 {a : Addr} : H a = some (.dT []) → Dx K H (.ref a) (.dict [])
  | dic {a : Addr} {kvs : List (Key × V)} {ds : List PyData} : H a = some (.dK kvs) → DxA K H (kvs.map (·.2)) ds → Dx K H (.ref a) (.dict ((kvs.map fun p => keyP p.1).zip ds))
inductive DxA (K : PySem.W.Frag) (H : Hp) : List V → List PyData → Prop
  | nil : DxA K H [] []
  | cons {v : V} {vs : List V} {d : PyData} {ds : List PyData} : Dx K H v d → DxA K H vs ds → DxA K H (v :: vs) (d :: ds)
end
section
variable {X : Cx} {pins : List (Addr × Obj)} {σ : L2.St} {H : Hp} {s : Shared}
theorem reads_keys {h : Heap} {P : Program} {w : World} : ∀ {es : List DictEntry} {kvs : List (Key × Value)}, PySem.Pairs (mixKind P w) es kvs → ReadsAll h (es.map (·.key)) (kvs.map fun p => keyP p.1) []
  | _, _, .nil => .nil
  | _, _, .cons (e := e) (kv := kv) hk _ r => by
    rcases keyIs_shape (show keyIs kv.1 e.key = true from hk) with ⟨i, t, h1, h2⟩ | ⟨x, t, h1, h2⟩
    · simp only [List.map_cons, h1, h2, keyP]
      exact ReadsAll.cons (as := []) (Reads.int i t) (reads_keys r)
    · simp only [List.map_cons, h1, h2, keyP]
      exact ReadsAll.cons (as := []) (Reads.str x t) (reads_keys r)
theorem pairs_vals {P : Program} {w : World} : ∀ {es : List DictEntry} {kvs : List (Key × Value)}, PySem.Pairs (mixKind P w) es kvs → es.map (·.val) = kvs.map (·.2)
  | _, _, .nil => rfl
  | _, _, .cons _ hv r => by rw [List.map_cons, List.map_cons, hv, pairs_vals r]
theorem kv_vals : ∀ {kvs : List (Key × V)} {us : List (Key × Value)}, KV kvs us → Vals (kvs.map (·.2)) (us.map (·.2)) ∧ kvs.map (fun p => keyP p.1) = us.map fun p => keyP p.1
  | _, _, .nil => ⟨.nil, rfl⟩
  | _, _, .cons r t => ⟨.cons r.2 (kv_vals t).1, by rw [List.map_cons, List.map_cons, r.1, (kv_vals t).2]⟩
theorem DxA.len {K : PySem.W.Frag} {H : Hp} : ∀ {vs : List V} {ds : List PyData}, DxA K H vs ds → vs.length = ds.length
  | _, _, .nil => rfl
  | _, _, .cons _ t => by rw [List.length_cons, List.length_cons, t.len]
theorem zip_fst_snd {α β : Type} : ∀ {l : List α} {m : List β}, l.length = m.length → (l.zip m).map (·.1) = l ∧ (l.zip m).map (·.2) = m
  | [], [], _ => ⟨rfl, rfl⟩
  | a :: l, b :: m, h => by
    obtain ⟨h1, h2⟩ := zip_fst_snd (l := l) (m := m) (by simpa using h)
    exact ⟨by rw [List.zip_cons_cons, List.map_cons, h1], by rw [List.zip_cons_cons, List.map_cons, h2]⟩
mutual
theorem Dx.reads (I : Inv X pins σ H s) : ∀ {v : V} {d : PyData} {u : Value}, Dx X.K H v d → RelV v u → ∃ as, Reads s.heap u d as ∧ sysModules ∉ as
  | _, _, _, .non, r => by cases r; exact ⟨_, Reads.none, List.not_mem_nil⟩
  | _, _, _, .bl b, r => by cases r; exact ⟨_, Reads.bool b, List.not_mem_nil⟩
  | _, _, _, .int i, r => by obtain ⟨t, rfl⟩ := r; exact ⟨_, Reads.int i t, List.not_mem_nil⟩
  | _, _, _, .str x, r => by obtain ⟨t, rfl⟩ := r; exact ⟨_, Reads.str x t, List.not_mem_nil⟩
  | _, _, _, .tup hs ha, r => by
    cases r
    obtain ⟨its, rv, ⟨o, ho, hc, n, hd⟩, _⟩ := I.tuple hs
    obtain ⟨as, hr, hn⟩ := DxA.reads I ha rv
    exact ⟨_, Reads.tuple ho hc hd hr, hn⟩
  | _, _, _, .dic0 ha, r => by
    cases r
    obtain ⟨_, hd, xs, pr, o, es, ep, ho, ex, hdat, he, _⟩ := I.hok _ _ ha
    cases pr
    exact ⟨_, Reads.dict (as := []) (bs := []) ho ex.1 hdat (by rw [he]; exact .nil) (by rw [he]; exact .nil), by simpa using fun z => by rw [z] at hd; simp at hd⟩
  | _, _, _, .dic (kvs := kvs) (ds := ds) ha hv, r => by
    cases r
    obtain ⟨_, hd, us, kv, o, es, ep, ho, ex, hdat, _, pr, _⟩ := I.hok _ _ ha
    obtain ⟨vv, ek⟩ := kv_vals kv
    obtain ⟨bs, hr, hn⟩ := DxA.reads I hv vv
    have l := hv.len
    obtain ⟨z1, z2⟩ := zip_fst_snd (l := List.map (fun p : Key × V => keyP p.1) kvs) (m := ds) (by rw [List.length_map, ← l, List.length_map])
    refine ⟨_, Reads.dict (as := []) (bs := bs) ho ex.1 hdat ?_ ?_, ?_⟩
    · rw [z1, ek]; exact reads_keys pr
    · rw [z2, pairs_vals pr]; exact hr
    · exact fun z => (List.mem_cons.mp (show sysModules ∈ _ :: bs from z)).elim (fun z => by rw [← z] at hd; simp at hd) hn
theorem DxA.reads (I : Inv X pins σ H s) : ∀ {vs : List V} {ds : List PyData} {us : List Value}, DxA X.K H vs ds → Vals vs us → ∃ as, ReadsAll s.heap us ds as ∧ sysModules ∉ as
  | _, _, _, .nil, r => by cases r; exact ⟨_, ReadsAll.nil, List.not_mem_nil⟩
  | _, _, _, .cons h1 h2, r => by
    cases r with
    | cons r1 r2 =>
      obtain ⟨as, q1, n1⟩ := Dx.reads I h1 r1
      obtain ⟨bs, q2, n2⟩ := DxA.reads I h2 r2
      exact ⟨_, ReadsAll.cons q1 q2, fun z => (List.mem_append.mp z).elim n1 n2⟩
end
end
def showOk (p : PyData) : Prop := p.showable = true ∧ p.shown.length ≤ sizeLine ∧ p.depth ≤ 64
instance (p : PyData) : Decidable (showOk p) := by unfold showOk; exact inferInstance
def keyPD : D → Option PyData
  | .int i => some (.int i)
  | .str x => some (.str x)
  | _ => none
def keysPD : List D → Option (List PyData)
  | [] => some []
  | d :: r => match keyPD d, keysPD r with
    | some p, some q => some (p :: q)
    | _, _ => none
mutual
def pdx : D → Option PyData
  | .non => some .none
  | .bl b => some (.bool b)
  | .int i => some (.int i)
  | .str x => some (.str x)
  | .tup ds => (pdxs ds).map .tuple
  | .dic ks ds => match keysPD ks, pdxs ds with
    | some p, some q => some (.dict (p.zip q))
    | _, _ => none
  | _ => none
def pdxs : List D → Option (List PyData)
  | [] => some []
  | d :: r => match pdx d, pdxs r with
    | some p, some q => some (p :: q)
    | _, _ => none
end
theorem keys_both : ∀ {ks : List D} {ps : List PyData} {q : List Key}, keysPD ks = some ps → keysD ks = some q → ps = q.map keyP
  | [], ps, q, h1, h2 => by simp only [keysPD] at h1; simp only [keysD] at h2; cases h1; cases h2; rfl
  | d :: r, ps, q, h1, h2 => by
    simp only [keysPD] at h1
    simp only [keysD] at h2
    cases e1 : keyPD d with
    | none => rw [e1] at h1; cases h1
    | some p =>
      cases e2 : keysPD r with
      | none => rw [e1, e2] at h1; cases h1
      | some ps' =>
        rw [e1, e2] at h1
        cases h1
        cases e3 : keyD d with
        | none => rw [e3] at h2; cases h2
        | some k =>
          cases e4 : keysD r with
          | none => rw [e3, e4] at h2; cases h2
          | some q' =>
            rw [e3, e4] at h2
            cases h2
            rw [List.map_cons, keys_both e2 e4]
            congr 1
            cases d <;> simp only [keyPD, keyD] at e1 e3 <;> cases e1 <;> cases e3 <;> rfl
theorem no_tkeys : ∀ {ks : List D} {ps : List PyData} {q : List (List Key)}, keysPD ks = some ps → tkeysD ks = some q → ks = []
  | [], _, _, _, _ => rfl
  | d :: r, ps, q, h1, h2 => by
    simp only [keysPD] at h1
    simp only [tkeysD] at h2
    cases d <;> simp only [keyPD, tkeyD] at h1 h2 <;> first | (cases h1; done) | (cases h2; done)
section
variable {B : Bas} {m : Mp} {H : Hp} {S : Sto}
mutual
theorem Rep.dx (s : Sub m H) : ∀ {d : D} {v : V} {p : PyData}, Rep B m d v → pdx d = some p → Dx B.K H v p
  | .non, v, p, r, e => by simp only [Rep] at r; simp only [pdx] at e; cases e; subst r; exact .non
  | .bl b, v, p, r, e => by simp only [Rep] at r; simp only [pdx] at e; cases e; subst r; exact .bl b
  | .int i, v, p, r, e => by simp only [Rep] at r; simp only [pdx] at e; cases e; subst r; exact .int i
  | .str x, v, p, r, e => by simp only [Rep] at r; simp only [pdx] at e; cases e; subst r; exact .str x
  | .tup ds, v, p, r, e => by
    simp only [Rep] at r
    simp only [pdx] at e
    obtain ⟨a, vs, rfl, t, q⟩ := r
    cases h : pdxs ds with
    | none => rw [h] at e; cases e
    | some ps => rw [h] at e; cases e; exact .tup (t.sq s) (Reps.dx s q h)
  | .dic ks ds, v, p, r, e => by
    simp only [Rep] at r
    simp only [pdx] at e
    obtain ⟨a, vs, rfl, _, ⟨hl, t⟩, q⟩ := r
    cases h1 : keysPD ks with
    | none => rw [h1] at e; cases e
    | some kp =>
      cases h2 : pdxs ds with
      | none => rw [h1, h2] at e; cases e
      | some ps =>
        rw [h1, h2] at e
        cases e
        rcases t with ⟨k, _, hk, ho⟩ | ⟨k, hk, ho⟩
        · have e1 := keys_both h1 hk
          have l1 : ∀ {ks : List D} {q : List Key}, keysD ks = some q → ks.length = q.length := by
            intro ks
            induction ks with
            | nil => intro q h; simp only [keysD] at h; cases h; rfl
            | cons d r ih =>
              intro q h
              simp only [keysD] at h
              cases e3 : keyD d with
              | none => rw [e3] at h; cases h
              | some k =>
                cases e4 : keysD r with
                | none => rw [e3, e4] at h; cases h
                | some q' => rw [e3, e4] at h; cases h; rw [List.length_cons, List.length_cons, ih e4]
          have l2 := l1 hk
          obtain ⟨z1, z2⟩ := zip_fst_snd (l := k) (m := vs) (by omega)
          have e2 : kp = (k.zip vs).map fun p => keyP p.1 := by
            rw [e1, show (fun p : Key × V => keyP p.1) = keyP ∘ (·.1) from rfl, ← List.map_map, z1]
          rw [e2]
          exact .dic (s _ _ ho) (by rw [z2]; exact Reps.dx s q h2)
        · obtain rfl := no_tkeys h1 hk
          simp only [tkeysD] at hk
          cases hk
          simp only [keysPD] at h1
          cases h1
          exact .dic0 (s _ _ ho)
  | .ktp _, v, p, r, e => by simp [pdx] at e
  | .lst _, v, p, r, e => by simp [pdx] at e
  | .scr _, v, p, r, e => by simp [pdx] at e
  | .ins _ _ _, v, p, r, e => by simp [pdx] at e
  | .ref _, v, p, r, e => by simp [pdx] at e
  | .fn _, v, p, r, e => by simp [pdx] at e
  | .ty _, v, p, r, e => by simp [pdx] at e
  | .cl _, v, p, r, e => by simp [pdx] at e
  | .lam _ _ _ _ _, v, p, r, e => by simp [pdx] at e
theorem Reps.dx (s : Sub m H) : ∀ {ds : List D} {vs : List V} {ps : List PyData}, Reps B m ds vs → pdxs ds = some ps → DxA B.K H vs ps
  | [], vs, ps, r, e => by simp only [Reps] at r; simp only [pdxs] at e; cases e; subst r; exact .nil
  | d :: ds, vs, ps, r, e => by
    simp only [Reps] at r
    obtain ⟨v, t, rfl, a, b⟩ := r
    simp only [pdxs] at e
    cases h1 : pdx d with
    | none => rw [h1] at e; cases e
    | some p =>
      cases h2 : pdxs ds with
      | none => rw [h1, h2] at e; cases e
      | some q =>
        rw [h1, h2] at e
        cases e
        exact .cons (Rep.dx s a h1) (Reps.dx s b h2)
end
end
end G
end
section
namespace G
open PySem L2
noncomputable def mMakeD (c : Nat) (F : Fn) (n : Nat) (r : MA) : ME := fun en S => (r en S).bind fun ds S1 => (mkR c F (ds ++ List.replicate n (.ktp [])) S1).frz S1
section
variable {X : Cx} {B : Bas} {W : WX} {CX : CXT} {e : Expr} {es : List Expr} {x : Str} {p pos : Pos} {mr : MA} {c k j n : Nat} {F : Fn} {C f : Addr} {fd : FuncData} {ps : List Str} {sp : Sp} {E : St → XK} {t : TA} {dvs : List V} {dus : List Value}
end
noncomputable def makeDK (c : Nat) (F : Fn) (n : Nat) (ds : List D) (S : Sto) : Res D := (mkR c F (ds ++ List.replicate n (.ktp [])) S).frz S
theorem mMakeD_ap (c : Nat) (F : Fn) (n : Nat) (r : MA) (en : En) (S : Sto) : mMakeD c F n r en S = (r en S).bind (makeDK c F n) := rfl
end G
end
section
namespace G
open PySem L2 PySem.Spec PyProof.Rows
end G
end
section
namespace G
open PySem L2 PySem.Spec PyProof.Rows
def dEqE (_ : Sto) : D → D → Option D
  | .tup xs, .tup [] => some (.bl xs.isEmpty)
  | _, _ => none
theorem dEqE_nil (S : Sto) : dEqE S (.tup []) (.tup []) = some (.bl true) := rfl
theorem dEqE_cons (S : Sto) (x : D) (xs : List D) : dEqE S (.tup (x :: xs)) (.tup []) = some (.bl false) := rfl
end G
end
section
namespace G
open PySem L2
def isSub (c d : Nat) : Bool := decide (c = d) || (decide (d = 10) && decide (11 ≤ c) && decide (c ≤ 22))
structure XF (B : Bas) (i : Nat) (a : Addr) (cls : Value) (dd : Option Addr) (m : Mp) (σ : L2.St) (c : Nat) (ns : List Str) (vs : List D) : Prop where
  sl : σ[i]? = some (some (.ref a))
  cl : cls = .ref (B.cls c)
  ex : ExR B m ns vs dd
theorem ExR.mono {B : Bas} {m m' : Mp} {ns : List Str} {vs : List D} {dd : Option Addr} (l : Kp m m') (h : ExR B m ns vs dd) : ExR B m' ns vs dd := by
  rcases h with h | ⟨a, us, e, z, o, n, r⟩
  · exact .inl h
  · obtain ⟨z', o'⟩ := l.keep a _ z o
    exact .inr ⟨a, us, e, z', o', n, r.monoK l⟩
theorem XF.mono {B : Bas} {i : Nat} {a : Addr} {cls : Value} {dd : Option Addr} {m m' : Mp} {σ : L2.St} {c : Nat} {ns : List Str} {vs : List D} (l : Kp m m') (h : XF B i a cls dd m σ c ns vs) : XF B i a cls dd m' σ c ns vs := ⟨h.sl, h.cl, h.ex.mono l⟩
abbrev XE := Nat → List Str → List D → En → Option D
abbrev XA := Nat → List Str → List D → En → Option (List D)
abbrev XS := Nat → List Str → List D → En → Option Fl
section
variable (B : Bas) (cs : List Nat) (i : Nat) (a : Addr) (cls : Value) (dd : Option Addr)
def tX (e : XE) : TE := fun σ H Q => ∃ m S en c ns vs d, (Sub m H ∧ Cor B m S ∧ EnR B m en σ) ∧ (c ∈ cs ∧ XF B i a cls dd m σ c ns vs) ∧ e c ns vs en = some d ∧ ∀ m' H' v, Le m H m' H' → Cor B m' S → Rep B m' d v → Q v H'
def tXL (e : XA) : TA := fun σ H Q => ∃ m S en c ns vs d, (Sub m H ∧ Cor B m S ∧ EnR B m en σ) ∧ (c ∈ cs ∧ XF B i a cls dd m σ c ns vs) ∧ e c ns vs en = some d ∧ ∀ m' H' v, Le m H m' H' → Cor B m' S → Reps B m' d v → Q v H'
def tXS (e : XS) : TS := fun D σ H => ∃ m S en c ns vs d, (Sub m H ∧ Cor B m S ∧ EnR B m en σ) ∧ (c ∈ cs ∧ XF B i a cls dd m σ c ns vs) ∧ e c ns vs en = some d ∧ ∀ m' H' v, Le m H m' H' → Cor B m' S → RFl B m' d v → qOf D v H'
end
def xC (d : D) : XE := fun _ _ _ _ => some d
def xF (f : Str) : XE := fun _ ns vs _ => (ns.zip vs).lookup f
def xNil : XA := fun _ _ _ _ => some []
def xCons (e : XE) (r : XA) : XA := fun c ns vs en => match e c ns vs en, r c ns vs en with
  | some d, some ds => some (d :: ds)
  | _, _ => none
def xLst (r : XA) : XE := fun c ns vs en => match r c ns vs en with
  | some ds => if ds.length ≤ sizeLine then some (.lst ds) else none
  | none => none
def xRet (e : XE) : XS := fun c ns vs en => (e c ns vs en).map .rt
section
variable {X : Cx} {B : Bas} {cs : List Nat} {i : Nat} {a : Addr} {cls : Value} {dd : Option Addr}
theorem xe_c {e : Expr} {d : D} {v : V} (h : PE X e (tC v)) (r : ∀ m, Rep B m d v) : PE X e (tX B cs i a cls dd (xC d)) := PE.cut h fun σ H Q ⟨m, S, en, c, ns, vs, d', ⟨s, cc, er⟩, _, e', q⟩ => by
  cases e'
  exact q m H v (Le.refl s) cc (r m)
theorem xa_nil : PA X [] (tXL B cs i a cls dd xNil) := PA.cut pa_nil fun σ H Q ⟨m, S, en, c, ns, vs, d', ⟨s, cc, er⟩, _, e', q⟩ => by
  cases e'
  exact q m H [] (Le.refl s) cc Reps.nil
theorem xa_cons {e : Expr} {es : List Expr} {xe : XE} {xr : XA} (h : PE X e (tX B cs i a cls dd xe)) (hr : PA X es (tXL B cs i a cls dd xr)) (he : starEach (e :: es) X.env = (false, eval e X.env) :: starEach es X.env := by rfl) : PA X (e :: es) (tXL B cs i a cls dd (xCons xe xr)) :=
  PA.cut (pa_cons h hr he) fun σ H Q ⟨m, S, en, c, ns, vs, d', ⟨s, cc, er⟩, ⟨hc, xf⟩, e', q⟩ => by
    unfold xCons at e'
    split at e'
    · rename_i d ds h1 h2
      cases e'
      exact ⟨m, S, en, c, ns, vs, _, ⟨s, cc, er⟩, ⟨hc, xf⟩, h1, fun m1 H1 v l1 c1 r1 => ⟨m1, S, en, c, ns, vs, _, ⟨l1.sub, c1, er.mono l1⟩, ⟨hc, xf.mono l1.toKp⟩, h2, fun m2 H2 us l2 c2 r2 => q m2 H2 _ (l1.trans l2) c2 (Reps.cons (r1.mono l2) r2)⟩⟩
    · cases e'
theorem xe_lst {es : List Expr} {pos : Pos} {xr : XA} (h : PA X es (tXL B cs i a cls dd xr)) : PE X (.List es pos) (tX B cs i a cls dd (xLst xr)) :=
  PE.cut (pe_lst h) fun σ H Q ⟨m, S, en, c, ns, vs, d', ⟨s, cc, er⟩, ⟨hc, xf⟩, e', q⟩ => by
    unfold xLst at e'
    split at e'
    · rename_i ds h1
      split at e'
      · rename_i hl
        cases e'
        exact ⟨m, S, en, c, ns, vs, _, ⟨s, cc, er⟩, ⟨hc, xf⟩, h1, fun m1 H1 us l1 c1 r1 => ⟨by rw [← r1.length]; exact hl, fun p hp => q _ _ _ (l1.trans (Le.new c1 l1.sub hp)) (Cor.new c1 l1.sub hp) (rp_lst c1 l1.sub hp r1)⟩⟩
      · cases e'
    · cases e'
end
end G
end
section
namespace G
open PySem L2
structure Xc (K : PySem.W.Frag) (C : Addr) : Prop where
  f : XfC K C
  cl : (PySem.W.clsIn K C).isSome = true
  ha : PySem.W.findIn K (.ref C) "__class__" = some (some (.builtin "object.__class__"))
  hn : PySem.W.specialIn K (.builtin "object.__class__") "__get__" = some (some (.builtin "getset_descriptor.__get__"))
  ht : PySem.W.takesIn K (.builtin "object.__class__") = some true
  hm : PySem.W.mroIn K C (.type "object") = some true
  ty : PySem.W.typeIn K (.ref C) = some (.type "type")
def xcB (K : PySem.W.Frag) (C : Addr) : Bool := xfB K C && ((PySem.W.clsIn K C).isSome && (decide (PySem.W.findIn K (.ref C) "__class__" = some (some (.builtin "object.__class__"))) && (decide (PySem.W.specialIn K (.builtin "object.__class__") "__get__" = some (some (.builtin "getset_descriptor.__get__"))) &&
  (decide (PySem.W.takesIn K (.builtin "object.__class__") = some true) && (decide (PySem.W.mroIn K C (.type "object") = some true) && decide (PySem.W.typeIn K (.ref C) = some (.type "type")))))))
theorem xcB_ok {K : PySem.W.Frag} {C : Addr} (h : xcB K C = true) : Xc K C := by
  obtain ⟨h1, h⟩ := He.ba h
  obtain ⟨h2, h⟩ := He.ba h
  obtain ⟨h3, h⟩ := He.ba h
  obtain ⟨h4, h⟩ := He.ba h
  obtain ⟨h5, h⟩ := He.ba h
  obtain ⟨h6, h7⟩ := He.ba h
  exact ⟨xfB_ok h1, h2, of_decide_eq_true h3, of_decide_eq_true h4, of_decide_eq_true h5, of_decide_eq_true h6, of_decide_eq_true h7⟩
section
variable {X : Cx} {B : Bas} {cs : List Nat} {i : Nat} {a : Addr} {cls : Value} {dd : Option Addr} {oe : Obj} {pn : List (Addr × Obj)}
theorem ExR.lookup {m : Mp} {ns : List Str} {vs : List D} {f : Str} {d : D} (h : ExR B m ns vs dd) (e : (ns.zip vs).lookup f = some d) : ∃ da us v, dd = some da ∧ m.Z da = some (.xd (ns.zip us)) ∧ (ns.zip us).lookup f = some v ∧ Rep B m d v := by
  rcases h with ⟨rfl, rfl, _⟩ | ⟨da, us, ed, z, _, n, r⟩
  · cases e
  · have key : ∀ (ns : List Str) (vs : List D) (us : List V), Reps B m vs us → (ns.zip vs).lookup f = some d → ∃ v, (ns.zip us).lookup f = some v ∧ Rep B m d v := by
      intro ns
      induction ns with
      | nil => intro vs us _ e; cases e
      | cons k ns ih =>
        intro vs us r e
        cases vs with
        | nil => cases e
        | cons x vs =>
          simp only [Reps] at r
          obtain ⟨u, us', rfl, r1, r2⟩ := r
          rw [List.zip_cons_cons, List.lookup_cons] at e ⊢
          cases hk : f == k with
          | true => rw [hk] at e; cases e; exact ⟨u, rfl, r1⟩
          | false => rw [hk] at e; exact ih vs us' r2 e
    obtain ⟨v, hv, rv⟩ := key ns vs us r e
    exact ⟨da, us, v, ed, z, hv, rv⟩
theorem xe_fld {e : Expr} {f : Str} {pos : Pos} (hK : B.K = X.K := by rfl) (T : ∀ c ∈ cs, Xc X.K (B.cls c) ∧ PySem.W.findIn X.K (.ref (B.cls c)) f = some none) (hz : Zc cls dd oe) (hf : ∃ vs, oe.data = .fields vs) (he : PE (X.suite a ((a, oe) :: pn)) e (tVar i))
    (hb : attributeBase e f X.env (eval e X.env) = eval e X.env := by rfl) : PE (X.suite a ((a, oe) :: pn)) (.Attribute e f pos) (tX B cs i a cls dd (xF f)) := ⟨fun pins s σ H Q I h => by
  obtain ⟨m, S, en, c, ns, vs, d, ⟨sb, cc, er⟩, ⟨hc, xf⟩, e', q⟩ := h
  obtain ⟨t1, t2⟩ := T c hc
  obtain ⟨da, us, v, ed, z, hv, rv⟩ := xf.ex.lookup e'
  exact (pe_xf t1.f t2 hz hf he hb).run pins s σ H Q I ⟨_, xf.sl, rfl, xf.cl, da, _, v, ed, sb _ _ z, hv, q m H v (Le.refl sb) cc rv⟩⟩
theorem xs_ret {e : Expr} {pos : Pos} {xe : XE} (h : PE X e (tX B cs i a cls dd xe)) : PS X (.Return (some e) pos) (tXS B cs i a cls dd (xRet xe)) :=
  PS.cut (ps_ret h) fun D σ H ⟨m, S, en, c, ns, vs, g, b1, b2, e', q⟩ => by
    unfold xRet at e'
    cases h1 : xe c ns vs en with
    | none => rw [h1] at e'; cases e'
    | some d =>
      rw [h1] at e'
      cases e'
      exact ⟨m, S, en, c, ns, vs, d, b1, b2, h1, fun m' H' v l c' r => q m' H' (.rt v) l c' r⟩
theorem xss_one {st : Stmt} {f : XS} (h : PS X st (tXS B cs i a cls dd f)) : PSs X [st] (tXS B cs i a cls dd f) := pss_one h
end
def unN (i : Nat) : Fl → Fl
  | .nx en => .nx (en.set i none)
  | .rt d => .rt d
  | .bk en => .bk (en.set i none)
  | .ct en => .ct (en.set i none)
def unV (i : Nat) : FlV → FlV
  | .nx en => .nx (en.set i none)
  | .rt d => .rt d
  | .bk en => .bk (en.set i none)
  | .ct en => .ct (en.set i none)
theorem EnR.gone {B : Bas} {m : Mp} {en : En} {σ : L2.St} (i : Nat) (h : EnR B m en σ) (o : Option V) : EnR B m (en.set i none) (σ.set i o) := ⟨by rw [List.length_set, List.length_set, h.1], fun j d e => by
  by_cases hj : i = j
  · subst hj
    by_cases hi : i < en.length
    · rw [List.getElem?_set_self hi] at e; cases e
    · rw [List.getElem?_eq_none (by rw [List.length_set]; omega)] at e; cases e
  · rw [List.getElem?_set_ne hj] at e
    rw [List.getElem?_set_ne hj]
    exact h.2 j d e⟩
theorem RFl.gone {B : Bas} {m : Mp} (i : Nat) : ∀ {g : Fl} {v : FlV}, RFl B m g v → RFl B m (unN i g) (unV i v)
  | .nx _, .nx _, h => EnR.gone i h none
  | .rt _, .rt _, h => h
  | .bk _, .bk _, h => EnR.gone i h none
  | .ct _, .ct _, h => EnR.gone i h none
  | .nx _, .rt _, h => h.elim
  | .nx _, .bk _, h => h.elim
  | .nx _, .ct _, h => h.elim
  | .rt _, .nx _, h => h.elim
  | .rt _, .bk _, h => h.elim
  | .rt _, .ct _, h => h.elim
  | .bk _, .nx _, h => h.elim
  | .bk _, .rt _, h => h.elim
  | .bk _, .ct _, h => h.elim
  | .ct _, .nx _, h => h.elim
  | .ct _, .rt _, h => h.elim
  | .ct _, .bk _, h => h.elim
def catchR (i : Nat) (f : XS) (c : Nat) (ns : List Str) (vs : List D) (en : En) (S : Sto) : Res Fl := match f c ns vs (en.set i none) with
  | some g => .ok (unN i g) S
  | none => .bad
def sTry1 (cs : List Nat) (d i : Nat) (b : MS) (f : XS) : MS := fun en S => match b en S with
  | .ok g S1 => .ok g S1
  | .ex c ns vs S1 => if c ∈ cs ∧ i < en.length then (if isSub c d = true then catchR i f c ns vs en S1 else .ex c ns vs S1) else .bad
  | .bad => .bad
def sSeqN (a b : MS) : MS := fun en S => (a en S).bind fun f S1 => match f with
  | .nx en1 => (b en1 S1).noex
  | .rt d => .ok (.rt d) S1
  | .bk e => .ok (.bk e) S1
  | .ct e => .ok (.ct e) S1
section
variable {X : Cx} {B : Bas} {W : WX} {cs : List Nat} {st : Stmt} {sts body suite : List Stmt} {b₀ : Stmt} {d i : Nat} {x n : Str} {np pos pos' : Pos} {ma mb : MS} {f : XS}
theorem ds_try1 (hs : X.stack = X.env :: X.outer) (hf : X.env.frame = some X.env.locals) (hN : X.N.Nodup) (hi : X.N[i]? = some n) (hln : X.env.kindOf n = some .local) (hc : Names X x (.ref (B.cls d))) (tk : Takes X W) (hex : ∀ c ∈ cs, PySem.W.exmOne X.K (.ref (B.cls c)) (.ref (B.cls d)) = some (isSub c d))
    (hb : ∀ (W' : WX) (pn : List (Addr × Obj)) (xe : Value → Shared → Prop), Takes (X.tr pn xe) W' → PassesOwn (model X.prog X.w) X.A X.env xe → PSs (X.tr pn xe) body (tS B W' mb))
    (hsu : ∀ (a : Addr) (oe : Obj) (cls : Value) (dd : Option Addr) (pn : List (Addr × Obj)), Zc cls dd oe → (∃ vs, oe.data = .fields vs) → PSs (X.suite a ((a, oe) :: pn)) (b₀ :: suite) (tXS B (cs.filter fun c => isSub c d) i a cls dd f)) :
    PS X (.Try body [.ExceptHandler (some (.Name x np)) (some n) (b₀ :: suite) pos'] [] [] pos) (tS B W (sTry1 cs d i mb f)) :=
  PS.cut (ps_try_as hs hf hN hi hln hc tk hb hsu) fun D σ H t => by
    obtain ⟨m, S, en, s, cc, er, p⟩ := t
    refine ⟨m, S, en, s, cc, er, ?_⟩
    unfold sTry1 at p
    cases h1 : mb en S with
    | bad => rw [h1] at p; exact p.elim
    | ok g S1 => rw [h1] at p; exact p
    | ex c ns vs S1 =>
      rw [h1] at p
      simp only at p
      split at p
      · rename_i hci
        intro m' H' dd l c' xr
        refine ⟨isSub c d, hex c hci.1, fun hb' a na => ?_, fun hb' => ?_⟩
        · rw [if_pos hb'] at p
          unfold catchR at p
          cases h2 : f c ns vs (en.set i none) with
          | none => rw [h2] at p; exact p.elim
          | some g =>
            rw [h2] at p
            refine ⟨m', S1, en.set i none, c, ns, vs, g, ⟨l.sub, c', EnR.gone i (er.mono l) _⟩, ⟨List.mem_filter.mpr ⟨hci.1, hb'⟩, ⟨by rw [List.getElem?_set_self (by rw [← er.1]; exact hci.2)], rfl, xr⟩⟩, h2, fun m2 H2 v l2 c2 r2 => ?_⟩
            have fin := p m2 H2 (unV i v) (l.trans l2) c2 (RFl.gone i r2)
            cases v with
            | nx σ2 => exact fin
            | rt u => exact fin
            | bk σ2 => exact fin
            | ct σ2 => exact fin
        · rw [if_neg (by rw [hb']; simp)] at p
          exact p m' H' dd l c' xr
      · exact p.elim
end
end G
end
section
namespace G
open PySem L2
theorem raiK_2 (c : Nat) (n k : Str) (d e : D) (S : Sto) : raiK c [n, k] [d, e] S = .ex c [n, k] [e, d] S := if_pos rfl
theorem drop_ex {c : Nat} {ns : List Str} {vs : List D} {S T : Sto} (h : D.bels S.length vs) : (Res.ex c ns vs (S ++ T)).drop S = .ex c ns vs S := by
  simp only [Res.drop]
  rw [if_pos ⟨Cl.app S T, h⟩, List.take_left']
  rfl
theorem drop_ex0 {c : Nat} {ns : List Str} {vs : List D} {S : Sto} (h : D.bels S.length vs) : (Res.ex c ns vs S).drop S = .ex c ns vs S := by
  have := drop_ex (c := c) (ns := ns) (T := []) h
  rwa [List.append_nil] at this
def tryK (cs : List Nat) (d i : Nat) (f : XS) (en : En) (r : Res Fl) : Res Fl := match r with
  | .ok g S1 => .ok g S1
  | .ex c ns vs S1 => if c ∈ cs ∧ i < en.length then (if isSub c d = true then catchR i f c ns vs en S1 else .ex c ns vs S1) else .bad
  | .bad => .bad
theorem sTry1_ap (cs : List Nat) (d i : Nat) (b : MS) (f : XS) (en : En) (S : Sto) : sTry1 cs d i b f en S = tryK cs d i f en (b en S) := by
  unfold sTry1 tryK
  cases b en S <;> rfl
theorem tryK_ok (cs : List Nat) (d i : Nat) (f : XS) (en : En) (g : Fl) (S : Sto) : tryK cs d i f en (.ok g S) = .ok g S := rfl
theorem tryK_hit {cs : List Nat} {d i : Nat} {f : XS} {en : En} {c : Nat} {ns : List Str} {vs : List D} {S : Sto} (h1 : c ∈ cs) (h2 : i < en.length) (h3 : isSub c d = true) : tryK cs d i f en (.ex c ns vs S) = catchR i f c ns vs en S := by
  unfold tryK
  simp only
  rw [if_pos ⟨h1, h2⟩, if_pos h3]
theorem xRet_lst {ps : XA} {c : Nat} {ns : List Str} {vs : List D} {en : En} {ds : List D} (h : ps c ns vs en = some ds) (hl : ds.length ≤ 1000000) : xRet (xLst ps) c ns vs en = some (.rt (.lst ds)) := by
  unfold xRet xLst
  rw [h]
  simp only
  rw [if_pos (sz_small hl)]
  rfl
theorem catchR_of {i : Nat} {f : XS} {c : Nat} {ns : List Str} {vs : List D} {en : En} {S : Sto} {g : Fl} (h : f c ns vs (en.set i none) = some g) : catchR i f c ns vs en S = .ok (unN i g) S := by
  unfold catchR
  rw [h]
def seqNK (b : MS) (f : Fl) (S : Sto) : Res Fl := match f with
  | .nx en1 => (b en1 S).noex
  | .rt d => .ok (.rt d) S
  | .bk e => .ok (.bk e) S
  | .ct e => .ok (.ct e) S
theorem sSeqN_ap (a b : MS) (en : En) (S : Sto) : sSeqN a b en S = (a en S).bind (seqNK b) := rfl
theorem seqNK_nx (b : MS) (en : En) (S : Sto) : seqNK b (.nx en) S = (b en S).noex := rfl
end G
end
section
namespace G
open PySem L2 PySem.Spec PyProof.Rows
section
variable {X : Cx} {B : Bas} {W : WX} {e : Expr} {es : List Expr} {pos p : Pos} {mr : MA} {x : Str} {i j : Nat} {fs : List (Nat × Fn)}
end
def cvK (F : Fn) (ds : List D) (S : Sto) : Res D := if ds.length = F.n then (F.run ds S).noex else .bad
def cvS (fs : List (Nat × Fn)) (o : Option (Option D)) (r : MA) (en : En) (S : Sto) : Res D := match o with
  | some (some (.fn c)) => match fs.lookup c with
    | some F => (r en S).bind (cvK F)
    | none => .bad
  | _ => .bad
theorem cvS_0 (F G : Fn) (r : MA) (en : En) (S : Sto) : cvS [(0, F), (1, G)] (some (some (.fn 0))) r en S = (r en S).bind (cvK F) := rfl
theorem cvS_1 (F G : Fn) (r : MA) (en : En) (S : Sto) : cvS [(0, F), (1, G)] (some (some (.fn 1))) r en S = (r en S).bind (cvK G) := rfl
end G
namespace G
open L2 PySem
end G
end
section
namespace G
open PySem L2 PyProof.Rows PySem.W
def Empt (L : Ks) : Prop := (∃ p ∈ L, p.2 = .tup []) ∧ ∀ p ∈ L, ∃ r, p.2 = .tup r
structure Rdy (h : Heap) (L : Ks) : Prop where
  tup : ∀ p ∈ L, ∃ r, p.2 = .tup r
  rd : ∀ p ∈ L, ∃ as, Reads h (.ref p.1) p.2.data as
  ok : ∀ p ∈ L, p.2.data.canLay0 = true
  dp : ∀ p ∈ L, p.2.data.depth ≤ 8
  cmp : ∀ p ∈ L, ∀ q ∈ L, ∃ b, pLt p.2.data q.2.data = some b
theorem Rdy.keep {h h' : Heap} {L : Ks} (x : Rdy h L) (f : ∀ b o, h.get? b = some o → o.cls = .type "tuple" → h'.get? b = some o) : Rdy h' L :=
  ⟨x.tup, fun p hp => (x.rd p hp).imp fun as r => reads_keep f p.2 _ as r, x.ok, x.dp, x.cmp⟩
section
variable {P : Program} {w : World} {A : Around} {E : Value → Shared → Prop} {s : Shared}
end
end G
end
section
namespace G
open PySem PySem.Spec PyProof.Rows L2
def hasN (k : NK) (ks : List NK) : Bool := ks.any fun q => decide (q = k)
def lookN : List NK → List D → NK → Option D
  | q :: qs, d :: ds, k => if q = k then some d else lookN qs ds k
  | _, _, _ => none
def replN {α : Type} (k : NK) (d : α) : List NK → List α → List α
  | q :: qs, x :: ds => (if q = k then d else x) :: replN k d qs ds
  | _, ds => ds
def putV {α : Type} (k : NK) (d : α) (ks : List NK) (ds : List α) : List α := if hasN k ks = true then replN k d ks ds else ds ++ [d]
section
variable {X : Cx} {pins : List (Addr × Obj)} {σ : L2.St} {H : Hp} {s : Shared} {a b : Addr} {qs : List (NK × Addr)} {vs : List V}
end
def ndcOf (S : Sto) : D → Option (List D × List D)
  | .ref i => match S[i]? with
    | some (.ndc ks ds) => some (ks, ds)
    | _ => none
  | _ => none
def dNGet (S : Sto) (x y : D) : Option D := match ndcOf S x, y, nkD y with
  | some (ks, ds), .tup _, some k => if k.depth ≤ 8 then (match nkDs ks with
    | some qs => lookN qs ds k
    | none => none) else none
  | _, _, _ => none
def putNd (ks ds : List D) (y : D) (k : NK) (d : D) (qs : List NK) : Ob := .ndc (if hasN k qs = true then ks else ks ++ [y]) (putV k d qs ds)
def sNPutS (o k e : ME) : MS := fun en S => (e en S).bind fun d S1 => (o en S1).bind fun x S2 => (k en S2).bind fun y S3 => match x, y, nkD y with
  | .ref i, .tup _, some k => match S3[i]? with
    | some (.ndc ks ds) => match nkDs ks with
      | some qs => if ks.length < sizeLine ∧ k.depth ≤ 8 then .ok (.nx en) (S3.set i (putNd ks ds y k d qs)) else .bad
      | none => .bad
    | _ => .bad
  | _, _, _ => .bad
def mNNew : ME := fun _ S => .ok (.ref S.length) (S ++ [.ndc [] []])
section
variable {X : Cx} {B : Bas} {W : WX} {m : Mp} {H : Hp} {S : Sto}
end
end G
end
section
namespace G
open PySem L2
def npK3 (en : En) (d x y : D) (S : Sto) : Res Fl := match x, y, nkD y with
  | .ref i, .tup _, some k => match S[i]? with
    | some (.ndc ks ds) => match nkDs ks with
      | some qs => if ks.length < sizeLine ∧ k.depth ≤ 8 then .ok (.nx en) (S.set i (putNd ks ds y k d qs)) else .bad
      | none => .bad
    | _ => .bad
  | _, _, _ => .bad
def npK2 (k : ME) (en : En) (d x : D) (S : Sto) : Res Fl := (k en S).bind (npK3 en d x)
def npK1 (o k : ME) (en : En) (d : D) (S : Sto) : Res Fl := (o en S).bind (npK2 k en d)
theorem sNPutS_ap (o k e : ME) (en : En) (S : Sto) : sNPutS o k e en S = (e en S).bind (npK1 o k en) := rfl
theorem npK1_ap (o k : ME) (en : En) (d : D) (S : Sto) : npK1 o k en d S = (o en S).bind (npK2 k en d) := rfl
theorem npK2_ap (k : ME) (en : En) (d x : D) (S : Sto) : npK2 k en d x S = (k en S).bind (npK3 en d x) := rfl
theorem mNNew_ap (en : En) (S : Sto) : mNNew en S = .ok (.ref S.length) (S ++ [.ndc [] []]) := rfl
structure NkOk {α : Type} (f : α → D) (k : α → NK) : Prop where
  nk : ∀ a, nkD (f a) = some (k a)
  inj : ∀ a b, k a = k b → a = b
  dep : ∀ a, (k a).depth ≤ 8
  tup : ∀ a, ∃ ds, f a = .tup ds
section
variable {α : Type} {f : α → D} {k : α → NK}
theorem NkOk.keys (h : NkOk f k) : ∀ l : List α, nkDs (l.map f) = some (l.map k)
  | [] => rfl
  | a :: l => by simp only [List.map_cons, nkDs, h.nk a, h.keys l]
theorem NkOk.look (h : NkOk f k) (g : α → D) {a : α} : ∀ {l : List α}, a ∈ l → lookN (l.map k) (l.map g) (k a) = some (g a)
  | [], m => absurd m List.not_mem_nil
  | b :: l, m => by
    simp only [List.map_cons, lookN]
    by_cases e : k b = k a
    · rw [if_pos e, h.inj _ _ e]
    · rw [if_neg e]
      rcases List.mem_cons.mp m with z | z
      · exact absurd (by rw [z]) e
      · exact h.look g z
theorem NkOk.has (h : NkOk f k) {a : α} {l : List α} (m : a ∉ l) : hasN (k a) (l.map k) = false := by
  unfold hasN
  rw [List.any_eq_false]
  intro q hq
  obtain ⟨b, hb, rfl⟩ := List.mem_map.mp hq
  simp only [decide_eq_true_eq]
  exact fun e => m (h.inj _ _ e ▸ hb)
def nd (f : α → D) (g : α → D) (l : List α) : Ob := .ndc (l.map f) (l.map g)
theorem NkOk.get (h : NkOk f k) {g : α → D} {a : α} {l : List α} {S : Sto} {i : Nat} (e : S[i]? = some (nd f g l)) (m : a ∈ l) : dNGet S (.ref i) (f a) = some (g a) := by
  obtain ⟨ds, hd⟩ := h.tup a
  have hn := h.nk a
  rw [hd] at hn ⊢
  have e2 : ndcOf S (.ref i) = some (l.map f, l.map g) := by
    show (match S[i]? with
      | some (.ndc ks ds) => some (ks, ds)
      | _ => none) = _
    rw [e]
    rfl
  unfold dNGet
  simp only [e2, hn]
  rw [if_pos (h.dep a), h.keys l]
  exact h.look g m
theorem NkOk.put (h : NkOk f k) {g : α → D} {a : α} {l : List α} {S : Sto} {i : Nat} {en : En} (e : S[i]? = some (nd f g l)) (m : a ∉ l) (hl : l.length < 1000000) : npK3 en (g a) (.ref i) (f a) S = .ok (.nx en) (S.set i (nd f g (l ++ [a]))) := by
  obtain ⟨ds, hd⟩ := h.tup a
  have hn := h.nk a
  rw [hd] at hn ⊢
  unfold npK3
  simp only [hn, e, nd]
  rw [h.keys l]
  simp only
  rw [if_pos ⟨by rw [List.length_map]; exact Nat.lt_of_lt_of_le hl (sz_small (Nat.le_refl _)), h.dep a⟩]
  unfold putNd putV
  rw [h.has m]
  simp only [Bool.false_eq_true, if_false, List.map_append, List.map_cons, List.map_nil, hd]
end
end G
end
section
namespace G
open PySem PySem.Spec PyProof.Rows PySem.W L2
structure KsOk (K : PySem.W.Frag) (H : Hp) (L : Ks) : Prop where
  dp : ∀ p ∈ L, Dp K H (.ref p.1) p.2.data
  tup : ∀ p ∈ L, ∃ r, p.2 = .tup r
  form : Formed L ∨ Empt L
  ok : ∀ p ∈ L, p.2.data.canLay0 = true
  dep : ∀ p ∈ L, p.2.data.depth ≤ 8 ∧ p.2.depth ≤ 8
  cmp : ∀ p ∈ L, ∀ r ∈ L, ∃ b, pLt p.2.data r.2.data = some b
section
variable {X : Cx} {pins : List (Addr × Obj)} {σ : L2.St} {H : Hp} {s : Shared} {Q : VK} {L : Ks}
end
end G
end
section
namespace G
open PySem PySem.Spec PyProof.Rows PySem.W L2
section
variable {X : Cx}
section
variable {s0 : Shared} {H0 : Hp} {scope : Scope} {ce : Env} {fp : List Addr} {tn : Nat → Heap → Prop} {σ0 : L2.St} {tg : Expr} {J : It} {it : Addr}
end
end
end G
end
section
namespace G
open PySem PySem.Spec PyProof.Rows PySem.W L2
structure SortOkG (ks : List NK) : Prop where
  form : FormK ks ∨ (.tup [] ∈ ks ∧ ∀ k ∈ ks, ∃ r, k = .tup r)
  ok : ∀ k ∈ ks, k.data.canLay0 = true
  dp : ∀ k ∈ ks, k.data.depth ≤ 8 ∧ k.depth ≤ 8
  cmp : CmpK ks
theorem SortOkG.tup {ks : List NK} (h : SortOkG ks) {k : NK} (hk : k ∈ ks) : ∃ r, k = .tup r := by
  rcases h.form with (f | f) | f
  · obtain ⟨_, _, e⟩ := f k hk; exact ⟨_, e⟩
  · obtain ⟨_, _, e⟩ := f k hk; exact ⟨_, e⟩
  · exact f.2 k hk
theorem SortOkG.ks {ks : List NK} {K : PySem.W.Frag} {H : Hp} {L : Ks} (h : SortOkG ks) (hL : ∀ k, k ∈ L.map (·.2) ↔ k ∈ ks) (dp : ∀ p ∈ L, Dp K H (.ref p.1) p.2.data) : KsOk K H L := by
  have inK : ∀ p ∈ L, p.2 ∈ ks := fun p hp => (hL _).mp (List.mem_map_of_mem hp)
  refine ⟨dp, fun p hp => h.tup (inK p hp), ?_, fun p hp => h.ok _ (inK p hp), fun p hp => h.dp _ (inK p hp), fun p hp r hr => h.cmp _ (inK p hp) _ (inK r hr)⟩
  rcases h.form with (f | f) | f
  · exact .inl (.inl fun p hp => f _ (inK p hp))
  · exact .inl (.inr fun p hp => f _ (inK p hp))
  · refine .inr ⟨?_, fun p hp => f.2 _ (inK p hp)⟩
    obtain ⟨p, hp, e⟩ := List.mem_map.mp ((hL _).mpr f.1)
    exact ⟨p, hp, e⟩
section
variable {B : Bas} {m : Mp} {S : Sto} {H : Hp} {Q : VK}
end
open Classical in
noncomputable def scomp (g : MG) (t : MT) (e : ME) (P : Sto → Prop) (en : En) : List D → List NK → Sto → Res (List NK)
  | [], acc, S => if P S then .ok acc S else .bad
  | d :: ds, acc, S => if P S then (match g d en with
    | none => .bad
    | some en1 => (t en1 S).noex.bind fun b S1 => match b with
      | false => scomp g t e P en ds acc S1
      | true => (e en1 S1).noex.bind fun y S2 => match y, nkD y with
        | .tup _, some k => if k.depth ≤ 8 ∧ acc.length + 1 < 307 then scomp g t e P en ds (if k ∈ acc then acc else acc ++ [k]) S2 else .bad
        | _, _ => .bad) else .bad
open Classical in
noncomputable def ssK (acc : List NK) (S : Sto) : Res D := if SortOkG acc ∧ acc.length < 307 then .ok (.lst (dOfs (sortK acc))) S else .bad
noncomputable def mSortSc (i : MI) (g : MG) (t : MT) (e : ME) (vs : List Nat) : ME := fun en S => (i en S).bind fun its S1 => (scomp g t e its.P (wipeE en vs) its.ds [] S1).bind ssK
structure ScAt (B : Bas) (w : World) (m : Mp) (D : Addr) (acc : List NK) (L : Ks) (o : Option HO) : Prop where
  ob : o = some (SetKO w D L)
  mem : ∀ k, k ∈ L.map (·.2) ↔ k ∈ acc
  len : L.length ≤ acc.length
  rep : ∀ p ∈ L, Rep B m (dOf p.2) (.ref p.1) ∧ pd (dOf p.2) = some p.2.data ∧ p.2.depth ≤ 8
theorem ScAt.dp {B : Bas} {w : World} {m : Mp} {D : Addr} {acc : List NK} {L : Ks} {o : Option HO} {H : Hp} (h : ScAt B w m D acc L o) (s : Sub m H) : ∀ p ∈ L, Dp B.K H (.ref p.1) p.2.data ∧ p.2.depth ≤ 8 :=
  fun p hp => ⟨(h.rep p hp).1.dp s (h.rep p hp).2.1, (h.rep p hp).2.2⟩
theorem ScAt.mono {B : Bas} {w : World} {m m' : Mp} {H H' : Hp} {D : Addr} {acc : List NK} {L : Ks} {o o' : Option HO} (h : ScAt B w m D acc L o) (l : Le m H m' H') (e : o' = o) : ScAt B w m' D acc L o' :=
  ⟨e.trans h.ob, h.mem, h.len, fun p hp => ⟨(h.rep p hp).1.mono l, (h.rep p hp).2⟩⟩
section
variable {X : Cx} {B : Bas} {W : WX} {ex tg iter : Expr} {ifs : List Expr} {scope : Scope} {ow : List (Str × Nat)} {p pos pos2 : Pos} {mi : MI} {g : TG} {t : MG} {tt : MT} {te : ME} {own : List Nat}
end
end G
end
section
namespace G
open PySem L2
noncomputable def scK1 (g : MG) (t : MT) (e : ME) (en : En) (its : Its) (S : Sto) : Res D := (scomp g t e its.P en its.ds [] S).bind ssK
theorem mSortSc_ap (i : MI) (g : MG) (t : MT) (e : ME) (vs : List Nat) (en : En) (S : Sto) : mSortSc i g t e vs en S = (i en S).bind (scK1 g t e (wipeE en vs)) := rfl
theorem scK1_ap (g : MG) (t : MT) (e : ME) (en : En) (ds : List D) (P : Sto → Prop) (S : Sto) : scK1 g t e en ⟨ds, P⟩ S = (scomp g t e P en ds [] S).bind ssK := rfl
end G
end
section
namespace G
open PySem L2
def gTL (n : Nat) (g : MGs) : MG := fun d en => match d with
  | .lst ds => if ds.length = n then g ds en else none
  | _ => none
theorem tg_lstT {B : Bas} {own : List Nat} {n : Nat} {gs : TGs} {ts : MGs} (hs : TgsR B own gs ts) : TgR B own (L2.gLst B.K n gs) (gTL n ts) := fun m H en en' σ d v s r er e Q q => by
  cases d with
  | lst ds =>
    simp only [gTL] at e
    split at e
    · rename_i hn
      simp only [Rep] at r
      obtain ⟨a, vs, rfl, t, rs⟩ := r
      exact ⟨a, vs, rfl, t.sq s, by rw [← rs.length]; exact hn, hs m H en en' σ ds vs s rs er e Q q⟩
    · cases e
  | _ => cases e
theorem gTL_ap (n : Nat) (g : MGs) (ds : List D) (en : En) : gTL n g (.lst ds) en = if ds.length = n then g ds en else none := rfl
end G
end
section
namespace G
open PySem L2 PySem.Spec PyProof.Rows
def smB (K : PySem.W.Frag) : Bool := match K.lookup sysModules with
  | some ⟨_, _, .dict _ _, _⟩ => true
  | _ => false
theorem smB_ok {K : PySem.W.Frag} (h : smB K = true) : ∃ o es n, K.lookup sysModules = some o ∧ o.data = .dict es n := by
  unfold smB at h
  split at h
  · rename_i es n _ e
    exact ⟨_, es, n, e, rfl⟩
  · cases h
mutual
inductive Dz (K : PySem.W.Frag) (H : Hp) : V → PyData → Prop
  | non : Dz K H .non .none
  | bl (b : Bool) : Dz K H (.bl b) (.bool b)
  | int (i : Int) : Dz K H (.int i) (.int i)
  | str (x : Str) : Dz K H (.str x) (.str x)
  | tup {a : Addr} {xs : List V} {ds : List PyData} : SqT K H a xs → DzA K H xs ds → Dz K H (.ref a) (.tuple ds)
  | lst {a : Addr} {xs : List V} {ds : List PyData} : SqL K H a xs → DzA K H xs ds → Dz K H (.ref a) (.list ds)
  | dic0 {a : Addr} : H a = some (.dT []) → Dz K H (.ref a) (.dict [])
  | dic {a : Addr} {kvs : List (Key × V)} {ds : List PyData} : H a = some (.dK kvs) → DzA K H (kvs.map (·.2)) ds → Dz K H (.ref a) (.dict ((kvs.map fun p => keyP p.1).zip ds))
inductive DzA (K : PySem.W.Frag) (H : Hp) : List V → List PyData → Prop
  | nil : DzA K H [] []
  | cons {v : V} {vs : List V} {d : PyData} {ds : List PyData} : Dz K H v d → DzA K H vs ds → DzA K H (v :: vs) (d :: ds)
end
theorem DzA.len {K : PySem.W.Frag} {H : Hp} : ∀ {vs : List V} {ds : List PyData}, DzA K H vs ds → vs.length = ds.length
  | _, _, .nil => rfl
  | _, _, .cons _ t => congrArg (· + 1) t.len
section
variable {X : Cx} {pins : List (Addr × Obj)} {σ : L2.St} {H : Hp} {s : Shared}
theorem no_sys (hsm : smB X.K = true) (I : Inv X pins σ H s) : H sysModules = none ∧ ∀ o, s.heap.get? sysModules = some o → ∃ es n, o.data = .dict es n := by
  obtain ⟨o, es, n, e, d⟩ := smB_ok hsm
  refine ⟨(I.bs _ o (I.mod.kin _ o e)).2, fun o' e' => ?_⟩
  rw [(I.bs _ o (I.mod.kin _ o e)).1] at e'
  cases e'
  exact ⟨es, n, d⟩
mutual
theorem Dz.reads (hsm : smB X.K = true) (I : Inv X pins σ H s) : ∀ {v : V} {d : PyData} {u : Value}, Dz X.K H v d → RelV v u → ∃ as, Reads s.heap u d as ∧ sysModules ∉ as
  | _, _, _, .non, r => by cases r; exact ⟨[], .none, by simp⟩
  | _, _, _, .bl b, r => by cases r; exact ⟨[], .bool b, by simp⟩
  | _, _, _, .int i, r => by obtain ⟨t, rfl⟩ := r; exact ⟨[], .int i t, by simp⟩
  | _, _, _, .str x, r => by obtain ⟨t, rfl⟩ := r; exact ⟨[], .str x t, by simp⟩
  | _, _, _, .tup hs ha, r => by
    cases r
    obtain ⟨us, rv, ⟨o, e, hc, n, hd⟩, _⟩ := I.tuple hs
    obtain ⟨as, q, nm⟩ := DzA.reads hsm I ha rv
    exact ⟨as, .tuple e hc hd q, nm⟩
  | _, _, _, .lst (a := a) hs ha, r => by
    cases r
    obtain ⟨us, rv, ⟨o, n, e, hc, _, hd⟩, _⟩ := I.list hs
    obtain ⟨as, q, nm⟩ := DzA.reads hsm I ha rv
    refine ⟨a :: as, .list e hc hd q, fun z => ?_⟩
    rcases List.mem_cons.mp z with z | z
    · obtain ⟨es, k, hd'⟩ := (no_sys hsm I).2 o (z ▸ e)
      rw [hd] at hd'
      cases hd'
    · exact nm z
  | _, _, _, .dic0 (a := a) ha, r => by
    cases r
    obtain ⟨_, _, xs, pr, o, es, ep, e, ex, hd, he, _⟩ := I.hok _ _ ha
    cases pr
    refine ⟨_, Reads.dict (as := []) (bs := []) e ex.1 hd (by rw [he]; exact .nil) (by rw [he]; exact .nil), ?_⟩
    simp only [List.append_nil, List.mem_singleton]
    intro z
    rw [← z, (no_sys hsm I).1] at ha
    cases ha
  | _, _, _, .dic (a := a) (kvs := kvs) (ds := ds) ha hv, r => by
    cases r
    obtain ⟨_, _, us, kv, o, es, ep, e, ex, hd, _, pr, _⟩ := I.hok _ _ ha
    obtain ⟨vv, ek⟩ := kv_vals kv
    obtain ⟨bs, q, nm⟩ := DzA.reads hsm I hv vv
    have l := hv.len
    obtain ⟨z1, z2⟩ := zip_fst_snd (l := List.map (fun p : Key × V => keyP p.1) kvs) (m := ds) (by rw [List.length_map, ← l, List.length_map])
    refine ⟨_, Reads.dict (as := []) (bs := bs) e ex.1 hd (by rw [z1, ek]; exact reads_keys pr) (by rw [z2, pairs_vals pr]; exact q), ?_⟩
    intro z
    rcases List.mem_cons.mp (show sysModules ∈ a :: bs from z) with z | z
    · rw [← z, (no_sys hsm I).1] at ha
      cases ha
    · exact nm z
theorem DzA.reads (hsm : smB X.K = true) (I : Inv X pins σ H s) : ∀ {vs : List V} {ds : List PyData} {us : List Value}, DzA X.K H vs ds → Vals vs us → ∃ as, ReadsAll s.heap us ds as ∧ sysModules ∉ as
  | _, _, _, .nil, r => by cases r; exact ⟨[], .nil, by simp⟩
  | _, _, _, .cons h1 h2, r => by
    cases r with
    | cons r1 r2 =>
      obtain ⟨as, q1, n1⟩ := Dz.reads hsm I h1 r1
      obtain ⟨bs, q2, n2⟩ := DzA.reads hsm I h2 r2
      exact ⟨as ++ bs, .cons q1 q2, by simp [n1, n2]⟩
end
end
def rReprZ (K : PySem.W.Frag) : List V → Hp → VK → Prop := fun xs H Q => rRepr K xs H Q ∨ ∃ a p, xs = [.ref a] ∧ Dz K H (.ref a) p ∧ showOk p ∧ Q (.str p.shown) H
theorem call_reprZ {X : Cx} (hsm : smB X.K = true) (hg : X.A.guards = some []) (hu : X.A.units + 66 < cLine) : CallR X (.builtin "repr") (rReprZ X.K) := by
  intro pins s σ H xs us Q I r h
  rcases h with h | ⟨a, p, rfl, hp, ⟨sh, hl, hd⟩, q⟩
  · exact call_reprD hg hu pins s σ H xs us Q I r h
  · obtain ⟨u, rfl, ru⟩ := vals1 r
    obtain ⟨as, rd, nm⟩ := Dz.reads hsm I hp ru
    cases ru
    exact repr_of_reads' rd sh (fun _ => nm) hg (by omega) (fun _ _ e => e) (fun h' u tk hk => ⟨.str _, H, I.kept hk, ⟨_, rfl⟩, q⟩) hl
mutual
def pdzW (f : Nat → Option PyData) : D → Option PyData
  | .non => some .none
  | .bl b => some (.bool b)
  | .int i => some (.int i)
  | .str x => some (.str x)
  | .tup ds => (pdzsW f ds).map .tuple
  | .ktp ds => (pdzsW f ds).map .tuple
  | .lst ds => (pdzsW f ds).map .list
  | .scr ds => (pdzsW f ds).map .list
  | .dic ks ds => match keysPD ks, pdzsW f ds with
    | some p, some q => some (.dict (p.zip q))
    | _, _ => none
  | .ref i => f i
  | _ => none
def pdzsW (f : Nat → Option PyData) : List D → Option (List PyData)
  | [] => some []
  | d :: r => match pdzW f d, pdzsW f r with
    | some p, some q => some (p :: q)
    | _, _ => none
end
def pdzR (S : Sto) : Nat → Nat → Option PyData
  | 0, _ => none
  | n + 1, i => match S[i]? with
    | some (.lst ds) => (pdzsW (pdzR S n) ds).map .list
    | _ => none
def pdz (S : Sto) (d : D) : Option PyData := pdzW (pdzR S 6) d
theorem keysD_len : ∀ {ks : List D} {q : List Key}, keysD ks = some q → ks.length = q.length
  | [], q, h => by simp only [keysD] at h; cases h; rfl
  | d :: r, q, h => by
    simp only [keysD] at h
    split at h
    · rename_i k ks _ e
      cases h
      exact congrArg (· + 1) (keysD_len e)
    · cases h
section
variable {B : Bas} {m : Mp} {H : Hp} {S : Sto} {f : Nat → Option PyData}
theorem dic_dz {a : Addr} {ks : List D} {vs : List V} {kp ps : List PyData} (t : DicAt (H a) ks vs) (h1 : keysPD ks = some kp) (h2 : DzA B.K H vs ps) : Dz B.K H (.ref a) (.dict (kp.zip ps)) := by
  obtain ⟨hl, ⟨k, _, hk, ho⟩ | ⟨k, hk, ho⟩⟩ := t
  · have l := keysD_len hk
    obtain ⟨z1, z2⟩ := zip_fst_snd (l := k) (m := vs) (by omega)
    have e : kp = (k.zip vs).map fun p => keyP p.1 := by
      rw [keys_both h1 hk]
      exact (congrArg (List.map keyP) z1).symm.trans (List.map_map ..)
    rw [e]
    exact .dic ho (by rw [z2]; exact h2)
  · obtain rfl := no_tkeys h1 hk
    cases hk
    cases h1
    exact .dic0 ho
mutual
theorem Rep.dzW (s : Sub m H) (hf : ∀ i p v, Rep B m (.ref i) v → f i = some p → Dz B.K H v p) : ∀ {d : D} {v : V} {p : PyData}, Rep B m d v → pdzW f d = some p → Dz B.K H v p
  | .non, v, p, r, e => by simp only [Rep] at r; simp only [pdzW] at e; cases e; subst r; exact .non
  | .bl b, v, p, r, e => by simp only [Rep] at r; simp only [pdzW] at e; cases e; subst r; exact .bl b
  | .int i, v, p, r, e => by simp only [Rep] at r; simp only [pdzW] at e; cases e; subst r; exact .int i
  | .str x, v, p, r, e => by simp only [Rep] at r; simp only [pdzW] at e; cases e; subst r; exact .str x
  | .tup ds, v, p, r, e => by
    simp only [Rep] at r
    simp only [pdzW, Option.map_eq_some_iff] at e
    obtain ⟨a, vs, rfl, t, q⟩ := r
    obtain ⟨ps, h, rfl⟩ := e
    exact .tup (t.sq s) (Reps.dzW s hf q h)
  | .ktp ds, v, p, r, e => by
    simp only [Rep] at r
    simp only [pdzW, Option.map_eq_some_iff] at e
    obtain ⟨a, vs, rfl, t, q⟩ := r
    obtain ⟨ps, h, rfl⟩ := e
    exact .tup t.sq (Reps.dzW s hf q h)
  | .lst ds, v, p, r, e => by
    simp only [Rep] at r
    simp only [pdzW, Option.map_eq_some_iff] at e
    obtain ⟨a, vs, rfl, t, q⟩ := r
    obtain ⟨ps, h, rfl⟩ := e
    exact .lst (t.sq s) (Reps.dzW s hf q h)
  | .scr ds, v, p, r, e => by
    simp only [Rep] at r
    simp only [pdzW, Option.map_eq_some_iff] at e
    obtain ⟨a, vs, rfl, t, q⟩ := r
    obtain ⟨ps, h, rfl⟩ := e
    exact .lst (t.sq s) (Reps.dzW s hf q h)
  | .dic ks ds, v, p, r, e => by
    simp only [Rep] at r
    simp only [pdzW] at e
    obtain ⟨a, vs, rfl, _, t, q⟩ := r
    split at e
    · rename_i kp ps h1 h2
      cases e
      obtain ⟨u, hu⟩ := t.some
      exact dic_dz (by rw [s _ _ hu, ← hu]; exact t) h1 (Reps.dzW s hf q h2)
    · cases e
  | .ref i, v, p, r, e => by simp only [pdzW] at e; exact hf i p v r e
  | .ins _ _ _, v, p, r, e => by simp [pdzW] at e
  | .fn _, v, p, r, e => by simp [pdzW] at e
  | .ty _, v, p, r, e => by simp [pdzW] at e
  | .cl _, v, p, r, e => by simp [pdzW] at e
  | .lam _ _ _ _ _, v, p, r, e => by simp [pdzW] at e
theorem Reps.dzW (s : Sub m H) (hf : ∀ i p v, Rep B m (.ref i) v → f i = some p → Dz B.K H v p) : ∀ {ds : List D} {vs : List V} {ps : List PyData}, Reps B m ds vs → pdzsW f ds = some ps → DzA B.K H vs ps
  | [], vs, ps, r, e => by simp only [Reps] at r; simp only [pdzsW] at e; cases e; subst r; exact .nil
  | d :: ds, vs, ps, r, e => by
    simp only [Reps] at r
    obtain ⟨v, t, rfl, a, b⟩ := r
    simp only [pdzsW] at e
    split at e
    · rename_i p q h1 h2
      cases e
      exact .cons (Rep.dzW s hf a h1) (Reps.dzW s hf b h2)
    · cases e
end
theorem refs_dz (s : Sub m H) (c : Cor B m S) : ∀ (n i : Nat) (p : PyData) (v : V), Rep B m (.ref i) v → pdzR S n i = some p → Dz B.K H v p
  | 0, _, _, _, _, e => by cases e
  | n + 1, i, p, v, r, e => by
    simp only [pdzR] at e
    split at e
    · rename_i ds hd
      obtain ⟨a, vs, rfl, t, q⟩ := repL (S := S) (ds := ds) s c r (by simp only [seqL, hd])
      obtain ⟨ps, h, rfl⟩ := Option.map_eq_some_iff.mp e
      exact .lst t (Reps.dzW s (fun i p v => refs_dz s c n i p v) q h)
    · cases e
theorem Rep.dz (s : Sub m H) (c : Cor B m S) {d : D} {v : V} {p : PyData} (r : Rep B m d v) (e : pdz S d = some p) : Dz B.K H v p := Rep.dzW s (fun i p v => refs_dz s c 6 i p v) r e
end
def isRf : D → Bool
  | .tup _ => true
  | .ktp _ => true
  | .lst _ => true
  | .scr _ => true
  | .dic _ _ => true
  | .ref _ => true
  | _ => false
theorem Rep.isRf {B : Bas} {m : Mp} {d : D} {v : V} (r : Rep B m d v) (h : isRf d = true) : ∃ a, v = .ref a := by
  cases d <;> simp only [G.isRf, reduceCtorEq] at h <;> simp only [Rep] at r
  · obtain ⟨a, _, e, _⟩ := r; exact ⟨a, e⟩
  · obtain ⟨a, _, e, _⟩ := r; exact ⟨a, e⟩
  · obtain ⟨a, _, e, _⟩ := r; exact ⟨a, e⟩
  · exact ⟨_, r.2⟩
  · obtain ⟨a, _, e, _⟩ := r; exact ⟨a, e⟩
  · obtain ⟨a, _, e, _⟩ := r; exact ⟨a, e⟩
def reprZ1 (S : Sto) (x : D) : Option D := match pdz S x with
  | some p => if isRf x = true ∧ showOk p then some (.str p.shown) else none
  | none => none
def dReprZ (S : Sto) (ds : List D) : Option D := match dRepr S ds with
  | some d => some d
  | none => match ds with
    | [x] => reprZ1 S x
    | _ => none
theorem opn_reprZ {B : Bas} : OpN B (rReprZ B.K) dReprZ := fun m S H xs ds d s c r e Q q => by
  unfold dReprZ at e
  split at e
  · rename_i z hz
    cases e
    exact .inl (opn_repr m S H xs ds _ s c r hz Q q)
  · split at e
    · rename_i x _
      obtain ⟨v, rfl, rv⟩ := r.one
      unfold reprZ1 at e
      split at e
      · rename_i p hp
        split at e
        · rename_i ok
          cases e
          obtain ⟨a, rfl⟩ := rv.isRf ok.1
          exact .inr ⟨a, p, rfl, rv.dz s c hp, ok.2, q_val s c q (rp_str m)⟩
        · cases e
      · cases e
    · cases e
theorem dReprZ_of {S : Sto} {ds : List D} {d : D} (h : dRepr S ds = some d) : dReprZ S ds = some d := by
  unfold dReprZ
  rw [h]
end G
end
section
namespace G
open PySem L2
section
variable {P : Program} {w : World} {K : PySem.W.Frag} {mg : Str → Option Value} {base : Heap} {CX : CXT} {B : Bas} {f : Addr} {fd : FuncData} {ps : List Str} {k : Nat} {F : Fn}
theorem FnG.imp {sp sp' : Sp} (h : FnG P w K mg base CX k f fd ps sp) (g : ∀ vs H Q E, sp' vs H Q E → sp vs H Q E) : FnG P w K mg base CX k f fd ps sp' :=
  ⟨fun vs H Q E q => h.len vs H Q E (g _ _ _ _ q), fun A outer s H args us vs Q E hg hr e0 hb r q => h.run A outer s H args us vs Q E hg hr e0 hb r (g _ _ _ _ q)⟩
theorem FnG.mono {sp : Sp} {j : Nat} (h : FnG P w K mg base CX k f fd ps sp) (hk : k ≤ j) : FnG P w K mg base CX j f fd ps sp :=
  ⟨h.len, fun A outer s H args us vs Q E hg hr => h.run A outer s H args us vs Q E hg (hr.mono hk)⟩
end
section
variable {X : Cx} {B : Bas} {W : WX} {e : Expr} {es : List Expr} {pos p : Pos} {mr : MA} {x : Str}
end
end G
end
section
namespace G
open PySem PySem.Spec PyProof.Rows L2
abbrev leBase : List Value := [.type "LookupError", .type "Exception", .type "BaseException", .type "object"]
structure OexL (K : PySem.W.Frag) (C : Addr) : Prop where
  ini : PySem.W.excInitIn K C leBase "LookupError.__new__" = true
  over : PySem.W.excOver K C leBase = true
  dict : PySem.W.hasDictIn K C = true
  sa : PySem.W.findIn K (.ref C) "__setattr__" = some (some (.builtin "object.__setattr__"))
  exC : PySem.W.subIn K (.ref C) (.type "BaseException") = some true
  tyC : PySem.W.typeIn K (.ref C) = some (.type "type")
  kC : PySem.W.keepIn K (.ref C) = true
section
variable {X : Cx} {pins : List (Addr × Obj)} {σ : L2.St} {H : Hp} {s : Shared} {a C : Addr} {f : Str} {y : V} {u : Value} {Q : Unit → Shared → Prop} {E : Value → Shared → Prop} {A : Around}
end
section
variable {P : Program} {w : World} {K : PySem.W.Frag} {mg : Str → Option Value} {base : Heap} {x qual : Str} {st : Stmt} {fI : Addr} {fd : FuncData} {C : Addr} {f : Str} {N ps : List Str} {k : Nat}
end
section
variable {X : Cx} {B : Bas} {W : WX} {e : Expr} {x f : Str} {p pos rpos : Pos} {mr : MA} {c k j : Nat}
end
end G
end
section
namespace G
open PySem PySem.Spec PyProof.Rows L2
structure Lnd (X : Cx) (pins : List (Addr × Obj)) (σ : L2.St) (H : Hp) (a : Addr) (cls : Value) (d : Option Addr) (T : Heap) (sI s : Shared) : Prop where
  inv : Inv X pins σ H sI
  nb : ∀ b o, sI.heap.get? b = some o → b ∉ frs X.stack → T.get? b = some o
  up : sI.heap.UpToSlots s.heap
  fly : HandSPX.FlyingZ T (X.env :: X.outer) a (Zc cls d) s.heap
  na : H a = none
  os : s.os = sI.os
  ag : AllBare s.gens
section
variable {X : Cx} {pins : List (Addr × Obj)} {σ : L2.St} {H : Hp} {a : Addr} {cls : Value} {d : Option Addr} {T : Heap} {sI s : Shared}
theorem Lnd.here (L : Lnd X pins σ H a cls d T sI s) : Inv X pins σ H s := L.inv.landed L.nb L.fly.1 L.up L.os L.ag
theorem Lnd.on (L : Lnd X pins σ H a cls d T sI s) {h : Heap} (fl : HandSPX.FlyingZ T (X.env :: X.outer) a (Zc cls d) h) (k : s.heap.UpToSlots h) : Lnd X pins σ H a cls d T sI { s with heap := h } := ⟨L.inv, L.nb, L.up.trans k, fl, L.na, L.os, L.ag⟩
theorem Lnd.obj (L : Lnd X pins σ H a cls d T sI s) : ∃ oe vs, s.heap.get? a = some oe ∧ Zc cls d oe ∧ oe.data = .fields vs := L.fly.there
theorem Lnd.noFr (L : Lnd X pins σ H a cls d T sI s) : a ∉ frs (X.env :: X.outer) := fun hm => by
  obtain ⟨oe, vs, e, _, dd⟩ := L.obj
  obtain ⟨_, o', e', hd⟩ := L.fly.2.2.1.mem hm
  rw [e] at e'
  cases e'
  exact hd _ dd
theorem Lnd.noL (L : Lnd X pins σ H a cls d T sI s) (hf : X.env.frame = some X.env.locals) : a ≠ X.env.locals := fun z => L.noFr (List.mem_filterMap.mpr ⟨X.env, List.mem_cons_self, z ▸ hf⟩)
theorem Lnd.noF (L : Lnd X pins σ H a cls d T sI s) : a ∉ X.fs := fun hm => by
  obtain ⟨e, he, q⟩ := List.mem_filterMap.mp hm
  exact L.noFr (List.mem_filterMap.mpr ⟨e, List.mem_cons_of_mem _ he, q⟩)
theorem Lnd.suite (L : Lnd X pins σ H a cls d T sI s) (hf : X.env.frame = some X.env.locals) {oe : Obj} {vs : Array Value} (e : s.heap.get? a = some oe) (hd : oe.data = .fields vs) : Inv (X.suite a ((a, oe) :: (X.pn ++ pins))) [] σ H s :=
  L.here.suite e hd L.na (L.noL hf) L.noF
theorem Lnd.test (L : Lnd X pins σ H a cls d T sI s) (hf : X.env.frame = some X.env.locals) {x : Str} {c : Value} {np : Pos} {b : Bool} {Q : Bool → Shared → Prop} {E : Value → Shared → Prop} (hc : Names X x c) (hb : PySem.W.exmOne X.K cls c = some b) (q : Q b s) :
    wpAny (model X.prog X.w) (X.A.mark (some (.ref a))) (eval (.Name x np) X.env) (fun v s1 => wpAny (model X.prog X.w) (X.A.mark (some (.ref a))) (excMatches (.ref a) v) Q E s1) E s := by
  obtain ⟨oe, vs, e, z, dd⟩ := L.obj
  have S := L.suite hf e dd
  have ty : PySem.W.Looks (model X.prog X.w) s.heap (typeOf (.ref a)) cls := fun A Q E s k q => wpAny_typeOf_ref (k _ _ e) (by rw [z.1]; exact q)
  have fin := (PySem.W.exm_one (M := model X.prog X.w) L.here.kIn ty hb).here (A := X.A.mark (some (.ref a))) (E := E) (s := s) q
  obtain ⟨hg, hdb, hm | ⟨hm, hv, hn⟩⟩ := hc
  · exact ld_glob (X := X.suite a ((a, oe) :: (X.pn ++ pins))) S hg hm fin hdb
  · exact ld_blt (X := X.suite a ((a, oe) :: (X.pn ++ pins))) S hg hm hv fin hn hdb
end
abbrev Clz := Value × Option Nat × (Addr → Value → Option Addr → TS)
def unE (i : Nat) (D : Ends) : Ends := { nx := fun σ H => D.nx (σ.set i none) H, rt := D.rt, bk := fun σ H => D.bk (σ.set i none) H, ct := fun σ H => D.ct (σ.set i none) H }
def runC : Clz → Addr → Value → Option Addr → TS
  | (_, some i, ts), a, cls, d => fun D σ H => ts a cls d (unE i D) (σ.set i (some (.ref a))) H
  | (_, none, ts), a, cls, d => ts a cls d
def NmOk (X : Cx) : Option Str → Option Nat → Prop
  | some n, some i => X.N[i]? = some n ∧ X.env.kindOf n = some .local
  | none, none => True
  | _, _ => False
inductive HdG (X : Cx) : List ExceptHandler → List Clz → Prop
  | nil : HdG X [] []
  | cons {x : Str} {n : Option Str} {c : Clz} {b₀ : Stmt} {suite : List Stmt} {np pos' : Pos} {hds : List ExceptHandler} {l : List Clz} (hc : Names X x c.1) (hn : NmOk X n c.2.1)
      (hsu : ∀ (a : Addr) (oe : Obj) (cls : Value) (d : Option Addr) (pn : List (Addr × Obj)), Zc cls d oe → (∃ vs, oe.data = .fields vs) → PSs (X.suite a ((a, oe) :: pn)) (b₀ :: suite) (c.2.2 a cls d)) (r : HdG X hds l) :
      HdG X (.ExceptHandler (some (.Name x np)) n (b₀ :: suite) pos' :: hds) (c :: l)
section
variable {X : Cx} {pins : List (Addr × Obj)} {σ : L2.St} {H : Hp} {a : Addr} {cls : Value} {d : Option Addr} {T : Heap} {sI s : Shared} {D : Ends} {W : WX}
end
inductive Hd where
  | as (d i : Nat) (f : XS)
  | on (d : Nat) (b : MS)
def Hd.cl : Hd → Nat
  | .as d _ _ => d
  | .on d _ => d
def hdV (B : Bas) (cs : List Nat) : Hd → Clz
  | .as d i f => (.ref (B.cls d), some i, fun a cls dd => tXS B cs i a cls dd f)
  | .on d b => (.ref (B.cls d), none, fun _ _ _ => tS B W0 b)
def Hd.run : Hd → Nat → List Str → List D → En → Sto → Res Fl
  | .as _ i f, c, ns, vs, en, S => if i < en.length then catchR i f c ns vs en S else .bad
  | .on _ b, _, _, _, en, S => (b en S).noex
def catchG : List Hd → Nat → List Str → List D → En → Sto → Res Fl
  | [], c, ns, vs, _, S => .ex c ns vs S
  | h :: r, c, ns, vs, en, S => if isSub c h.cl = true then h.run c ns vs en S else catchG r c ns vs en S
def tryGK (cs : List Nat) (hs : List Hd) (en : En) : Res Fl → Res Fl
  | .ok g S1 => .ok g S1
  | .ex c ns vs S1 => if c ∈ cs then catchG hs c ns vs en S1 else .bad
  | .bad => .bad
def sTryG (cs : List Nat) (hs : List Hd) (b : MS) : MS := fun en S => tryGK cs hs en (b en S)
section
variable {X : Cx} {B : Bas} {W : WX} {cs : List Nat}
inductive HdD (X : Cx) (B : Bas) (cs : List Nat) : List ExceptHandler → List Hd → Prop
  | nil : HdD X B cs [] []
  | as {x n : Str} {d i : Nat} {f : XS} {b₀ : Stmt} {suite : List Stmt} {np pos' : Pos} {hds : List ExceptHandler} {l : List Hd} (hc : Names X x (.ref (B.cls d))) (hi : X.N[i]? = some n) (hl : X.env.kindOf n = some .local)
      (hex : ∀ c ∈ cs, PySem.W.exmOne X.K (.ref (B.cls c)) (.ref (B.cls d)) = some (isSub c d))
      (hsu : ∀ (a : Addr) (oe : Obj) (cls : Value) (dd : Option Addr) (pn : List (Addr × Obj)), Zc cls dd oe → (∃ vs, oe.data = .fields vs) → PSs (X.suite a ((a, oe) :: pn)) (b₀ :: suite) (tXS B (cs.filter fun c => isSub c d) i a cls dd f)) (r : HdD X B cs hds l) :
      HdD X B cs (.ExceptHandler (some (.Name x np)) (some n) (b₀ :: suite) pos' :: hds) (.as d i f :: l)
  | on {x : Str} {d : Nat} {mb : MS} {b₀ : Stmt} {suite : List Stmt} {np pos' : Pos} {hds : List ExceptHandler} {l : List Hd} (hc : Names X x (.ref (B.cls d)))
      (hex : ∀ c ∈ cs, PySem.W.exmOne X.K (.ref (B.cls c)) (.ref (B.cls d)) = some (isSub c d))
      (hsu : ∀ (a : Addr) (oe : Obj) (pn : List (Addr × Obj)), PSs (X.suite a ((a, oe) :: pn)) (b₀ :: suite) (tS B W0 mb)) (r : HdD X B cs hds l) :
      HdD X B cs (.ExceptHandler (some (.Name x np)) none (b₀ :: suite) pos' :: hds) (.on d mb :: l)
def hdW (B : Bas) (cs : List Nat) (h : Hd) : Clz := hdV B (cs.filter fun c => isSub c h.cl) h
theorem HdD.g {hds : List ExceptHandler} {l : List Hd} (h : HdD X B cs hds l) : HdG X hds (l.map (hdW B cs)) := by
  induction h with
  | nil => exact .nil
  | as hc hi hl hex hsu r ih => exact .cons (c := hdW B cs (.as _ _ _)) hc ⟨hi, hl⟩ hsu ih
  | on hc hex hsu r ih => exact .cons (c := hdW B cs (.on _ _)) hc True.intro (fun a oe cls d pn _ _ => hsu a oe pn) ih
end
end G
end
section
namespace G
open PySem PySem.Spec PyProof.Rows L2
def popL (i : Nat) (S : Sto) (ds : List D) : Res D := match ds.getLast? with
  | some d => .ok d (S.set i (.lst ds.dropLast))
  | none => .bad
def popO (i : Nat) (S : Sto) : Option Ob → Res D
  | some (.lst ds) => popL i S ds
  | _ => .bad
def popK : D → Sto → Res D
  | .ref i, S => popO i S S[i]?
  | _, _ => .bad
def mPop (o : ME) : ME := fun en S => (o en S).bind popK
theorem mPop_ap (o : ME) (en : En) (S : Sto) : mPop o en S = (o en S).bind popK := rfl
theorem popK_ref (i : Nat) (S : Sto) : popK (.ref i) S = popO i S S[i]? := rfl
theorem sTryG_ap (cs : List Nat) (hs : List Hd) (b : MS) (en : En) (S : Sto) : sTryG cs hs b en S = tryGK cs hs en (b en S) := rfl
theorem tryGK_ok (cs : List Nat) (hs : List Hd) (en : En) (g : Fl) (S : Sto) : tryGK cs hs en (.ok g S) = .ok g S := rfl
end G
end
section
namespace G
open PySem L2 PySem.Spec PyProof.Rows
def goK2 (c : Nat) (F : Fn) (x y : D) (S : Sto) : Res D := match insOf S x with
  | some (c', _, _) => if c' = c ∧ F.n = 2 then F.run [x, y] S else .bad
  | none => .bad
def goK1 (c : Nat) (F : Fn) (b : ME) (en : En) (x : D) (S : Sto) : Res D := (b en S).bind (goK2 c F x)
def mGetO (c : Nat) (F : Fn) (a b : ME) : ME := fun en S => (a en S).bind (goK1 c F b en)
section
variable {X : Cx} {B : Bas} {W : WX} {a b : Expr} {pos : Pos} {ma mb : ME} {c k j : Nat} {F : Fn}
end
theorem mGetO_ap (c : Nat) (F : Fn) (a b : ME) (en : En) (S : Sto) : mGetO c F a b en S = (a en S).bind (goK1 c F b en) := rfl
theorem goK1_ap (c : Nat) (F : Fn) (b : ME) (en : En) (x : D) (S : Sto) : goK1 c F b en x S = (b en S).bind (goK2 c F x) := rfl
section
variable {X : Cx}
end
def strK2 (z : D) (S : Sto) : Res D := match z with
  | .str x => .ok (.str x) S
  | _ => .bad
def strK (c : Nat) (F : Fn) (d : D) (S : Sto) : Res D := match insOf S d with
  | some (c', _, _) => if c' = c ∧ F.n = 1 then ((F.run [d] S).noex).bind strK2 else .bad
  | none => .bad
def mStrO (c : Nat) (F : Fn) (e : ME) : ME := fun en S => (e en S).bind (strK c F)
theorem mStrO_ap (c : Nat) (F : Fn) (e : ME) (en : En) (S : Sto) : mStrO c F e en S = (e en S).bind (strK c F) := rfl
section
variable {X : Cx}
end
def kindA (cs : List Nat) (S : Sto) (y : D) : Bool := match insOf S y with
  | some (c', _, _) => decide (c' ∈ cs)
  | none => match tyN S y with
    | some n => decide (n ∈ tyNames)
    | none => false
noncomputable def cmpAK2 (c : Nat) (cs : List Nat) (F : Fn) (x y : D) (S : Sto) : Res D := match insOf S x with
  | some (c1, _, _) => if c1 = c ∧ F.n = 2 ∧ kindA cs S y = true then ((F.run [x, y] S).noex).bind cmpOK3 else .bad
  | none => .bad
noncomputable def cmpAK1 (c : Nat) (cs : List Nat) (F : Fn) (b : ME) (en : En) (x : D) (S : Sto) : Res D := (b en S).bind (cmpAK2 c cs F x)
noncomputable def mCmpA (c : Nat) (cs : List Nat) (F : Fn) (a b : ME) : ME := fun en S => (a en S).bind (cmpAK1 c cs F b en)
section
variable {X : Cx} {B : Bas} {W : WX} {a b : Expr} {pos : Pos} {ma mb : ME} {c k j : Nat} {cs : List Nat} {F : Fn}
end
theorem mCmpA_ap (c : Nat) (cs : List Nat) (F : Fn) (a b : ME) (en : En) (S : Sto) : mCmpA c cs F a b en S = (a en S).bind (cmpAK1 c cs F b en) := rfl
theorem cmpAK1_ap (c : Nat) (cs : List Nat) (F : Fn) (b : ME) (en : En) (x : D) (S : Sto) : cmpAK1 c cs F b en x S = (b en S).bind (cmpAK2 c cs F x) := rfl
end G
end
section
namespace G
open PySem PySem.Spec PyProof.Rows L2 He
def fnWs (K : PySem.W.Frag) : List DefD → List FnW
  | [] => []
  | d :: r => fnW K d.at_ :: fnWs K r
def valWs : List DefD → List FnW
  | [] => []
  | d :: r => d.val :: valWs r
def gtWs (K : PySem.W.Frag) : List GetD → List FnW
  | [] => []
  | d :: r => fnWA K (pAd K d.c d.x) :: gtWs K r
def gtVs : List GetD → List FnW
  | [] => []
  | d :: r => d.d.val :: gtVs r
def faAll (K : PySem.W.Frag) : List Fa → Bool
  | [] => true
  | f :: r => f.ok K && faAll K r
def fnAll (K : PySem.W.Frag) : List DefD → Bool
  | [] => true
  | d :: r => d.ok K && fnAll K r
def gtAll (K : PySem.W.Frag) : List GetD → Bool
  | [] => true
  | d :: r => d.ok K && gtAll K r
def exAll (K : PySem.W.Frag) : List (PySem.W.Frag → Bool) → Bool
  | [] => true
  | f :: r => f K && exAll K r
theorem fnWs_eq {K : PySem.W.Frag} : ∀ l : List DefD, fnWs K l = l.map fun d => fnW K d.at_
  | [] => rfl
  | d :: r => congrArg (fnW K d.at_ :: ·) (fnWs_eq r)
theorem valWs_eq : ∀ l : List DefD, valWs l = l.map DefD.val
  | [] => rfl
  | d :: r => congrArg (d.val :: ·) (valWs_eq r)
theorem gtWs_eq {K : PySem.W.Frag} : ∀ l : List GetD, gtWs K l = l.map fun d => fnWA K (pAd K d.c d.x)
  | [] => rfl
  | d :: r => congrArg (fnWA K (pAd K d.c d.x) :: ·) (gtWs_eq r)
theorem gtVs_eq : ∀ l : List GetD, gtVs l = l.map fun d => d.d.val
  | [] => rfl
  | d :: r => congrArg (d.d.val :: ·) (gtVs_eq r)
theorem faAll_eq {K : PySem.W.Frag} : ∀ l : List Fa, faAll K l = l.all fun f => f.ok K
  | [] => rfl
  | f :: r => congrArg (f.ok K && ·) (faAll_eq r)
theorem fnAll_eq {K : PySem.W.Frag} : ∀ l : List DefD, fnAll K l = l.all fun f => f.ok K
  | [] => rfl
  | f :: r => congrArg (f.ok K && ·) (fnAll_eq r)
theorem gtAll_mem {K : PySem.W.Frag} : ∀ {l : List GetD}, gtAll K l = true → ∀ g ∈ l, g.ok K = true
  | [], _, g, h => by cases h
  | d :: r, e, g, h => by
    obtain ⟨h1, h2⟩ := ba (show (d.ok K && gtAll K r) = true from e)
    rcases List.mem_cons.mp h with rfl | h
    · exact h1
    · exact gtAll_mem h2 g h
theorem exAt {K : PySem.W.Frag} : ∀ {l : List (PySem.W.Frag → Bool)}, exAll K l = true → ∀ (i : Nat) {f : PySem.W.Frag → Bool}, l[i]? = some f → f K = true
  | [], _, i, f, e => by simp at e
  | g :: r, h, 0, f, e => by
    simp only [List.getElem?_cons_zero, Option.some.injEq] at e
    subst e
    exact (ba (show (g K && exAll K r) = true from h)).1
  | g :: r, h, i + 1, f, e => exAt (ba (show (g K && exAll K r) = true from h)).2 i (by simpa using e)
section
variable (as : List Addr) (fa : List Fa) (fn : List DefD) (gs : List GetD) (ex : List (PySem.W.Frag → Bool)) (g : Addr → Option Obj)
def obL1 : Bool := (fun K => faAll K fa && (fnAll K fn && (gtAll K gs && exAll K ex))) (frT g as)
def obL2 : List FnW := fnWs (frT g as) fn
def obL3 : List FnW := gtWs (frT g as) gs
abbrev AlL : Type := Bool × List FnW × List FnW
theorem saysL_of (e : (obL1 as fa fn gs ex g, obL2 as fn g, obL3 as gs g) = (true, valWs fn, gtVs gs)) : SaysP fa fn gs (fun K => exAll K ex) (frT g as) := by
  have e1 : (faAll (frT g as) fa && (fnAll (frT g as) fn && (gtAll (frT g as) gs && exAll (frT g as) ex))) = true := congrArg (fun z : AlL => z.1) e
  have e2 : fnWs (frT g as) fn = valWs fn := congrArg (fun z : AlL => z.2.1) e
  have e3 : gtWs (frT g as) gs = gtVs gs := congrArg (fun z : AlL => z.2.2) e
  obtain ⟨h1, h⟩ := ba e1
  obtain ⟨h2, h⟩ := ba h
  obtain ⟨h3, h4⟩ := ba h
  refine ⟨?_, h4, gtAll_mem h3, by rw [← gtWs_eq, ← gtVs_eq, e3]⟩
  unfold SaysD obsD valD
  rw [← faAll_eq, ← fnAll_eq, ← fnWs_eq, ← valWs_eq, h1, h2, e2]
  rfl
end
def hookL (as : List Addr) (fa : List Fa) (fn : List DefD) (gs : List GetD) (ex : List (PySem.W.Frag → Bool)) : PySem.W.Hook where
  α := AlL
  obs := fun s => (obL1 as fa fn gs ex s.heap.get?, obL2 as fn s.heap.get?, obL3 as gs s.heap.get?)
  val := fun _ => (true, valWs fn, gtVs gs)
  says := fun _ h => ∃ K : PySem.W.Frag, K.In h ∧ SaysP fa fn gs (fun K => exAll K ex) K
  of := fun _ s e => ⟨frT s.heap.get? as, frT_in, saysL_of as fa fn gs ex s.heap.get? e⟩
  keeps := fun _ _ _ ⟨K, hK, c⟩ k => ⟨K, PySem.W.Frag.In.keeps hK k, c⟩
def obL (as : List Addr) (fa : List Fa) (fn : List DefD) (gs : List GetD) (ex : List (PySem.W.Frag → Bool)) (s : PySem.W.SharedT) : AlL := (obL1 as fa fn gs ex (HandSHeadRun.getT s), obL2 as fn (HandSHeadRun.getT s), obL3 as gs (HandSHeadRun.getT s))
theorem obL_eq {as : List Addr} {fa : List Fa} {fn : List DefD} {gs : List GetD} {ex : List (PySem.W.Frag → Bool)} (s : PySem.W.SharedT) : obL as fa fn gs ex s = (hookL as fa fn gs ex).obs s.abs := by
  have e : HandSHeadRun.getT s = s.abs.heap.get? := funext (HandSHeadRun.getT_eq s)
  unfold obL
  rw [e]
  rfl
theorem map3 {α β γ δ : Type} {o : Option α} {f : α → β} {g : α → γ} {k : α → δ} {x : β} {y : γ} {z : δ} (h1 : o.map f = some x) (h2 : o.map g = some y) (h3 : o.map k = some z) : o.map (fun s => (f s, g s, k s)) = some (x, y, z) := by
  cases o with
  | none => cases h1
  | some a =>
    cases h1
    cases h2
    cases h3
    rfl
end G
end
section
namespace G
open PySem PySem.Spec PyProof.Rows L2
def downD (i : Int) (n : Nat) : List D := (List.range n).map fun k => .int (i + (k : Nat) * -1)
open Classical in
noncomputable def rg3K (ds : List D) (S : Sto) : Res Its := match ds with
  | [.int i, .int j, .int c] => if rgOk i ∧ rgOk j ∧ c = -1 then .ok ⟨downD i (i - j).toNat, fun _ => True⟩ S else .bad
  | _ => .bad
noncomputable def iRg3 (r : MA) : MI := fun en S => (r en S).bind rg3K
theorem iRg3_ap (r : MA) (en : En) (S : Sto) : iRg3 r en S = (r en S).bind rg3K := rfl
end G
end
section
namespace G
open PySem PySem.Spec PySem.SeqAt MeetsSeq MeetsSeq2 MeetsSeq3 SeqRoads2
open AutoSeq1 (wpAny_loadPart')
section
variable {prog : Program} {w : World}
def EqRun (prog : Program) (w : World) (A : Around) (R : Result → Shared → Prop) : List (Value × Value) → Shared → Prop
  | [], s => R (.ok (.ret (.bool true))) s
  | (p, q) :: r, s => wpAny (model prog w) A (eqBool p q) (fun b s1 => (b = false → R (.ok (.ret (.bool false))) s1) ∧ (b = true → EqRun prog w A R r s1)) (fun e s' => R (.error e) s') s
theorem EqRun.mono {A : Around} {R R' : Result → Shared → Prop} (h1 : ∀ k s, R (.ok (.ret (.bool k))) s → R' (.ok (.ret (.bool k))) s) (h2 : ∀ e s, R (.error e) s → R' (.error e) s) : ∀ (l : List (Value × Value)) (s : Shared), EqRun prog w A R l s → EqRun prog w A R' l s
  | [], s, h => h1 _ _ h
  | (p, q) :: r, s, h => wpAny_mono h (fun b s1 z => ⟨fun e => h1 _ _ (z.1 e), fun e => EqRun.mono h1 h2 r s1 (z.2 e)⟩) (fun e s' x => h2 e s' x)
end
end G
end
section
namespace G
open PySem L2 PySem.Spec PyProof.Rows PySem.SeqAt
def eqAll : List PyData → List PyData → Bool
  | p :: ps, q :: qs => PyData.eqv p q && eqAll ps qs
  | _, _ => true
section
variable {X : Cx} {pins : List (Addr × Obj)} {σ : L2.St} {H : Hp} {s : Shared}
end
section
variable {X : Cx}
end
end G
end
section
namespace G
open PySem L2 PySem.Spec PyProof.Rows PySem.SeqAt
mutual
def plainD : D → Bool
  | .int _ => true
  | .str _ => true
  | .tup ds => plainDs ds
  | _ => false
def plainDs : List D → Bool
  | [] => true
  | d :: r => plainD d && plainDs r
end
section
variable {B : Bas} {m : Mp}
mutual
theorem Rep.injP : ∀ {d e : D} {v : V}, plainD d = true → plainD e = true → Rep B m d v → Rep B m e v → d = e
  | .int i, e, v, _, he, r1, r2 => by
    simp only [Rep] at r1
    subst r1
    cases e <;> simp only [plainD, Bool.false_eq_true] at he <;> simp only [Rep, reduceCtorEq] at r2
    · cases r2; rfl
    · obtain ⟨a, vs, h, _⟩ := r2; cases h
  | .str i, e, v, _, he, r1, r2 => by
    simp only [Rep] at r1
    subst r1
    cases e <;> simp only [plainD, Bool.false_eq_true] at he <;> simp only [Rep, reduceCtorEq] at r2
    · cases r2; rfl
    · obtain ⟨a, vs, h, _⟩ := r2; cases h
  | .tup ds, e, v, hd, he, r1, r2 => by
    simp only [Rep] at r1
    obtain ⟨a, vs, rfl, t1, q1⟩ := r1
    cases e <;> simp only [plainD, Bool.false_eq_true] at he <;> simp only [Rep, reduceCtorEq] at r2
    rename_i es
    obtain ⟨b, us, h, t2, q2⟩ := r2
    cases h
    have e1 := t1.1.symm.trans t2.1
    cases e1
    simp only [plainD] at hd
    rw [Reps.injP hd he q1 q2]
theorem Reps.injP : ∀ {ds es : List D} {vs : List V}, plainDs ds = true → plainDs es = true → Reps B m ds vs → Reps B m es vs → ds = es
  | [], es, vs, _, _, r1, r2 => by
    simp only [Reps] at r1
    subst r1
    cases es with
    | nil => rfl
    | cons e r =>
      simp only [Reps] at r2
      obtain ⟨_, _, h, _⟩ := r2
      cases h
  | d :: ds, es, vs, hd, he, r1, r2 => by
    simp only [Reps] at r1
    obtain ⟨v, r, rfl, a1, a2⟩ := r1
    cases es with
    | nil =>
      simp only [Reps] at r2
      cases r2
    | cons e es =>
      simp only [Reps] at r2
      obtain ⟨v2, r2', h, b1, b2⟩ := r2
      cases h
      simp only [plainDs, Bool.and_eq_true] at hd he
      rw [Rep.injP hd.1 he.1 a1 b1, Reps.injP hd.2 he.2 a2 b2]
end
def isO (c : Nat) : D → Bool
  | .ins c' _ ds => decide (c' = c) && plainDs ds
  | _ => false
end
def shAll (ps : List PyData) : Bool := ps.all shaped
def tupOk (c : Nat) (F : Fn) (p q : D) (xs ys : List D) (ps qs : List PyData) (S : Sto) (k : Bool) : Prop :=
  isO c p = true ∧ isO c q = true ∧ F.n = 2 ∧ xs.length = ys.length ∧ shAll ps = true ∧ shAll qs = true ∧ F.run [p, q] S = .ok (.bl k) S ∧ (p = q → k = true)
open Classical in
noncomputable def tupOK3 (c : Nat) (F : Fn) (p q : D) (xs ys : List D) (ps qs : List PyData) (S : Sto) : Res D :=
  if h : ∃ k, tupOk c F p q xs ys ps qs S k then .ok (.bl (h.choose && eqAll ps qs)) S else .bad
noncomputable def tupOK2 (c : Nat) (F : Fn) (x y : D) (S : Sto) : Res D := match x, y with
  | .tup (p :: xs), .tup (q :: ys) => match pds xs, pds ys with
    | some ps, some qs => tupOK3 c F p q xs ys ps qs S
    | _, _ => .bad
  | _, _ => .bad
noncomputable def tupOK1 (c : Nat) (F : Fn) (b : ME) (en : En) (x : D) (S : Sto) : Res D := (b en S).bind (tupOK2 c F x)
noncomputable def mTupO (c : Nat) (F : Fn) (a b : ME) : ME := fun en S => (a en S).bind (tupOK1 c F b en)
section
variable {X : Cx} {B : Bas} {W : WX} {a b : Expr} {pos : Pos} {ma mb : ME} {c k j : Nat} {F : Fn}
end
theorem mTupO_ap (c : Nat) (F : Fn) (a b : ME) (en : En) (S : Sto) : mTupO c F a b en S = (a en S).bind (tupOK1 c F b en) := rfl
theorem tupOK1_ap (c : Nat) (F : Fn) (b : ME) (en : En) (x : D) (S : Sto) : tupOK1 c F b en x S = (b en S).bind (tupOK2 c F x) := rfl
end G
end
section
namespace G
open PySem L2 PySem.Spec
open PyProof.Rows hiding St
section
variable {X : Cx} {B : Bas} {W : WX} {k j n c : Nat} {f C : Addr} {fd : FuncData} {ps ks : List Str} {sp : Sp} {F : Fn} {x : Str} {p pos apos kpos : Pos} {o e : Expr} {kws : List Keyword} {me : ME} {mr : MA} {q : List Nat} {nm : Option Str}
end
def dAddK (S : Sto) (a b : D) : Option D := match a, b with
  | .ktp x, .tup y => if x = [] ∧ y.length ≤ sizeLine then some (.tup y) else none
  | a, b => dAdd S a b
theorem dAddK_int (S : Sto) (i j : Int) : dAddK S (.int i) (.int j) = some (.int (i + j)) := rfl
theorem dAddK_tup (S : Sto) (a : List D) (b : D) : dAddK S (.tup a) b = dAdd S (.tup a) b := rfl
end G
end
section
namespace G
open PySem L2 PySem.Spec
open PyProof.Rows hiding St
abbrev lamN : Str := "<lambda>"
def LamAt (h : Heap) (f : Addr) (q : Str) (params : Arguments) (body : Expr) (scope : Scope) (cl : List (Str × Addr)) (c : Addr) : Prop :=
  ∃ pm ctv : Value, h.get? f = some (PySem.W.kla_obj lamN q params body scope cl pm c ctv)
def lamNF (q : Str) (params : Arguments) (scope : Scope) (cl : List (Str × Addr)) (c : Addr) : NdefX.NF := ⟨lamN, q, params, [], scope, cl, c⟩
section
variable {P : Program} {w : World} {K : PySem.W.Frag} {mg : Str → Option Value} {base : Heap} {N ps fr : List Str} {q : Str} {params : Arguments} {body : Expr} {scope : Scope} {cl : List (Str × Addr)} {c f : Addr} {k : Nat}
end
end G
end
section
namespace G
open PySem L2 PySem.Spec
open PyProof.Rows hiding St
section
variable {B : Bas} {m : Mp} {H H1 : Hp} {S : Sto} {j i : Nat} {q : Str}
end
section
variable {B : Bas} {m : Mp}
theorem EnR.app {e1 e2 : En} {s1 s2 : St} (h1 : EnR B m e1 s1) (h2 : EnR B m e2 s2) : EnR B m (e1 ++ e2) (s1 ++ s2) := by
  refine ⟨by rw [List.length_append, List.length_append, h1.1, h2.1], fun i d e => ?_⟩
  by_cases hi : i < e1.length
  · rw [List.getElem?_append_left hi] at e
    obtain ⟨v, a, b⟩ := h1.2 i d e
    exact ⟨v, by rw [List.getElem?_append_left (by rw [← h1.1]; exact hi)]; exact a, b⟩
  · have hi' : e1.length ≤ i := Nat.le_of_not_lt hi
    rw [List.getElem?_append_right hi'] at e
    obtain ⟨v, a, b⟩ := h2.2 _ d e
    exact ⟨v, by rw [List.getElem?_append_right (by rw [← h1.1]; exact hi'), ← h1.1]; exact a, b⟩
end
theorem LamAt.fn {h : Heap} {f : Addr} {q : Str} {params : Arguments} {body : Expr} {scope : Scope} {cl : List (Str × Addr)} {c : Addr} (l : LamAt h f q params body scope cl c) : PySem.W.FnAt f h := by
  obtain ⟨pm, ctv, g⟩ := l
  exact ⟨_, _, _, _, g⟩
section
variable {X : Cx} {B : Bas} {W : WX} {f c : Addr} {q : Str} {us : List V} {ds : List D} {k np n i : Nat} {be : ME} {x : Str} {p pos : Pos} {e : Expr} {es : List Expr} {mr : MA}
end
end G
end
section
namespace G
open PySem L2 PySem.Spec
open PyProof.Rows hiding St
structure LamT (X : Cx) (B : Bas) (k np n : Nat) (be : ME) (js : List Nat) (params : Arguments) (body : Expr) (scope : Scope) (N ps fr : List Str) : Prop where
  S : NdefX.NScope N ps fr scope
  hn : N.length = n
  hp : ps.length = np
  hd : defaultsOf params X.env = ([], [])
  hfree : ∀ y ∈ scope.names, y.2 = .free → X.env.scope.names.lookup y.1 = some .cell ∨ X.env.scope.names.lookup y.1 = some .free
  hfr : ∀ y ∈ fr, (y, NameKind.free) ∈ scope.names
  hjs : js.map (fun j => X.N[j]?) = fr.map some
  hb : ∀ (q : Str) (cl : List (Str × Addr)) (pm cv ctv : Value) (us : List Value), us.length = ps.length → bindArgs (PySem.W.kla_fn lamN q params body scope cl pm cv ctv) ⟨us, []⟩ = pure (ps.zip us)
  hbody : ∀ (q : Str) (cl : List (Str × Addr)) (f c : Addr) (A : Around) (outer : List Env) (s : Shared) (H : Hp) (E : XK), Room k (A.deeper (NdefX.envF (lamNF q params scope cl c) f s.heap.objs.size)) →
    PE (NdefX.ncx (L2.CX X.prog X.w) X.prog X.w X.K X.mg X.base N (lamNF q params scope cl c) f A outer s H E) body (tE B (WE0 E) be)
section
variable {X : Cx} {B : Bas} {W : WX} {k kl j i np n jt it : Nat} {F : (MA → ME) → Fn} {R : (List D → Sto → Res D) → List D → Sto → Res D} {x : Str} {be : ME} {js : List Nat} {params : Arguments} {body o : Expr} {scope : Scope} {N ps fr : List Str} {q : Str} {p lpos pos apos : Pos} {me : ME} {c : Nat}
end
end G
end
section
namespace G
open PySem L2 PySem.Spec
open PyProof.Rows hiding St
end G
end
section
namespace G
open PySem L2 PySem.Spec
open PyProof.Rows hiding St
end G
end
section
namespace G
open PySem L2 PyProof.Rows
section
variable {X : Cx} {pins : List (Addr × Obj)} {σ : L2.St} {H : Hp} {s : Shared}
end
end G
end
section
namespace G
open PySem L2
section
variable {X : Cx} {B : Bas} {W : WX} {e : Expr} {f₀ : Stmt} {fs : List Stmt} {rp pos : Pos} {me : ME} {mf : MS}
end
end G
end
section
namespace G
open PySem L2
section
variable {X : Cx} {B : Bas} {W : WX}
end
end G
end
section
namespace G
open PySem PySem.Spec PyProof.Rows L2
section
variable {X : Cx} {B : Bas} {W : WX}
end
section
variable {B : Bas} {m : Mp}
end
section
variable {X : Cx} {o e : Expr} {apos cpos : Pos} {td ty : TE}
end
section
variable {X : Cx} {B : Bas} {W : WX}
end
end G
end
section
namespace G
open PySem PySem.Spec PyProof.Rows L2
def PEB (X : Cx) (e : Expr) (t : TE) : Prop := ∀ (pins : List (Addr × Obj)) (s : Shared) (σ : L2.St) (H : Hp) (Q : VK), Inv X pins σ H s → t σ H Q → wpAny (model X.prog X.w) X.A (eval e X.env) (fun v s1 => 1 ≤ s1.toks ∧ EP X pins σ Q v s1) X.xe s
def PAB (X : Cx) (es : List Expr) (t : TA) : Prop := ∀ (pos : Pos) (pins : List (Addr × Obj)) (s : Shared) (σ : L2.St) (H : Hp) (Q : List V → Hp → Prop), Inv X pins σ H s → t σ H Q →
  wpAny (model X.prog X.w) X.A (spliced (backTo pos (starEach es X.env))) (fun us s1 => 1 ≤ s1.toks ∧ AP X pins σ Q us s1) X.xe s
def PSB (X : Cx) (st : Stmt) (t : TS) : Prop := ∀ (pins : List (Addr × Obj)) (s : Shared) (σ : L2.St) (H : Hp) (D : Ends), Inv X pins σ H s → t D σ H → wpAny (model X.prog X.w) X.A (exec st X.env) (fun f s1 => 1 ≤ s1.toks ∧ SP X pins D f s1) X.xe s
section
variable {X : Cx} {e a b : Expr} {es : List Expr} {st : Stmt} {sts : List Stmt} {te te' ta' tb' : TE} {ta ta2 : TA} {ts ts' tu : TS} {pos : Pos}
theorem PEB.cut (h : PEB X e te) (i : ∀ σ H Q, te' σ H Q → te σ H Q) : PEB X e te' := fun pins s σ H Q I q => h pins s σ H Q I (i σ H Q q)
theorem PAB.cut (h : PAB X es ta) (i : ∀ σ H Q, ta2 σ H Q → ta σ H Q) : PAB X es ta2 := fun pos pins s σ H Q I q => h pos pins s σ H Q I (i σ H Q q)
theorem PSB.cut (h : PSB X st ts) (i : ∀ D σ H, ts' D σ H → ts D σ H) : PSB X st ts' := fun pins s σ H D I q => h pins s σ H D I (i D σ H q)
theorem PET.cut (h : PET X e te) (i : ∀ σ H Q, te' σ H Q → te σ H Q) : PET X e te' := fun pins s σ H Q h0 I q => h pins s σ H Q h0 I (i σ H Q q)
theorem PAT.cut (h : PAT X es ta) (i : ∀ σ H Q, ta2 σ H Q → ta σ H Q) : PAT X es ta2 := fun pos pins s σ H Q h0 I q => h pos pins s σ H Q h0 I (i σ H Q q)
theorem PST.cut (h : PST X st ts) (i : ∀ D σ H, ts' D σ H → ts D σ H) : PST X st ts' := fun pins s σ H D h0 I q => h pins s σ H D h0 I (i D σ H q)
theorem PSsT.cut (h : PSsT X sts ts) (i : ∀ D σ H, ts' D σ H → ts D σ H) : PSsT X sts ts' := fun pins s σ H D h0 I q => h pins s σ H D h0 I (i D σ H q)
theorem peb_str {c : Str} {j : Nat} {cp : Pos} : PEB X (.Constant (.str c) j cp) (tC (.str c)) := fun pins s σ H Q I h =>
  Calls.Constant_str ⟨by show 1 ≤ s.toks + 1; omega, .str c, H, I.tok _, ⟨_, rfl⟩, h⟩
theorem peb_op {op : Operator} {r : R2} (ho : OpR X (binaryOp op) r) (ha : PE X a ta') (hb : PEB X b tb') : PEB X (.BinOp a op b pos) (tOp r ta' tb') := fun pins s σ H Q I h => by
  refine wpAny_BinOp (thn (ha.run pins s σ H _ I h) fun v s1 ⟨x, H1, I1, r1, q1⟩ => ?_)
  refine thn (hb pins s1 σ H1 _ I1 q1) fun u s2 ⟨hk, y, H2, I2, r2, q2⟩ => ?_
  exact wpAny_mono (wpAny_toks_of hk (ho pins s2 σ H2 x y v u Q I2 r1 r2 q2)) (fun _ _ q => q) fun _ _ z => z.2
theorem pab_here (ha : PEB X e te) (hr : PA X es ta) (hs : starEach (e :: es) X.env = (false, eval e X.env) :: starEach es X.env := by rfl) : PAB X (e :: es) (tCons te ta) := fun pos pins s σ H Q I h => by
  rw [hs]
  show wpAny _ _ (spliced ((false, eval e X.env) :: backTo pos (starEach es X.env))) _ _ s
  refine Calls.spliced_cons (thn (ha pins s σ H _ I h) fun v s1 ⟨hk, x, H1, I1, r1, q1⟩ => ?_)
  exact wpAny_mono (wpAny_toks_of hk (hr.run pos pins s1 σ H1 _ I1 q1)) (fun us s2 ⟨hk2, xs, H2, I2, r2, q2⟩ => ⟨hk2, x :: xs, H2, I2, .cons r1 r2, q2⟩) fun _ _ z => z.2
theorem pab_skip (ha : PE X e te) (hr : PAB X es ta) (hs : starEach (e :: es) X.env = (false, eval e X.env) :: starEach es X.env := by rfl) : PAB X (e :: es) (tCons te ta) := fun pos pins s σ H Q I h => by
  rw [hs]
  show wpAny _ _ (spliced ((false, eval e X.env) :: backTo pos (starEach es X.env))) _ _ s
  refine Calls.spliced_cons (thn (ha.run pins s σ H _ I h) fun v s1 ⟨x, H1, I1, r1, q1⟩ => ?_)
  exact thn (hr pos pins s1 σ H1 _ I1 q1) fun us s2 ⟨hk2, xs, H2, I2, r2, q2⟩ => ⟨hk2, x :: xs, H2, I2, .cons r1 r2, q2⟩
theorem peb_lst (h : PAB X es ta) : PEB X (.List es pos) (tLst ta) := fun pins s σ H Q I hq => by
  refine wpAny_List_spliced (thn (h pos pins s σ H _ I hq) fun us s1 ⟨hk, xs, H1, I1, r, z, q⟩ => ⟨by rw [← r.length]; exact z, hk, ?_⟩)
  have hf : H1 s1.heap.objs.size = none := I1.hok.fresh (Nat.le_refl _)
  refine ⟨.ref s1.heap.objs.size, upd H1 s1.heap.objs.size (.lst xs), I1.laid (t' := s1.toks) (fun b u e => Heap.get?_push_of_some _ e) (Nat.le_refl _) ?_, rfl, q _ hf⟩
  exact ⟨z, us, 0, r, Heap.get?_push_size _ rfl⟩
theorem psb_set {i : Nat} {x : Str} {pos' : Pos} (hN : X.N.Nodup) (hi : X.N[i]? = some x) (hx : Loc X.env.scope x) (he : PEB X e te) (hs : swapsWith e (some (.Name x pos')) pos.line X.env = pure false := by rfl)
    (hf : X.fn x = true ∨ X.env.scope.names.lookup x = some .local := by first | exact .inl rfl | exact .inr rfl | assumption) : PSB X (.Assign [.Name x pos'] e pos) (tAsg te (gName i)) := fun pins s σ H D I h => by
  refine wpAny_Assign_Name (thn (he pins s σ H _ I h) fun v s1 ⟨hk, y, H1, I1, r1, q1⟩ => ?_) hs
  exact wpAny_mono (wpAny_toks_of hk (store_ok I1 hN hi hx r1 (Q := fun f s2 => SP X pins D .next s2) (fun s2 I2 => ⟨_, H1, I2, q1⟩) hf)) (fun _ _ q => q) fun _ _ z => z.2
theorem pss_bump (h1 : PSB X st ts) (h2 : PSsT X sts tu) : PSs X (st :: sts) (tSeq ts tu) := ⟨fun pins s σ H D I h => by
  refine wpAny_execs_cons (thn (h1 pins s σ H { D with nx := tu D } I h) fun f s1 ⟨hk, q⟩ => ?_)
  cases f with
  | next =>
    obtain ⟨σ', H', I', q⟩ := q
    exact h2 pins s1 σ' H' D hk I' q
  | ret v => exact q
  | brk => exact q
  | cont => exact q⟩
end
section
variable {X : Cx} {e : Expr} {es : List Expr} {t : TA} {CX : CXT} {k : Nat} {f : Addr} {fd : FuncData} {ps : List Str} {sp : Sp} {dvs : List V} {ds : List Value} {E : L2.St → XK} {x : Str} {p pos : Pos}
theorem pet_callSD (F : FnOk X.prog X.w X.K X.mg X.base CX k f fd ps sp) (hr : Room k X.A) (hg : Gl X x) (hm : X.mg x = some (.ref f)) (hk : PySem.W.keepIn X.K (.ref f) = true) (hb : Binds X.K fd ps ds) (hd : Vals dvs ds) (hx : ∀ σ, PassesAt CX X σ (E σ))
    (ha : PAT X (e :: es) t) (hdb : (x == ("__debug__" : Str)) = false := by decide) (he : starEach (e :: es) X.env = (false, eval e X.env) :: starEach es X.env := by rfl) (hpl : (backTo pos (starEach es X.env)).any (·.1) = false := by rfl) :
    PET X (.Call (.Name x p) (e :: es) [] pos) (tCallSD sp dvs E t) := fun pins s σ H Q h0 I h =>
  wpAny_Call_Name_kw (ld_glob I hg hm (PySem.W.callWith_K (h₀ := X.base) I.ok.mod.kin hk (thn (ha pos pins s σ H _ h0 I h) fun us s1 ⟨vs, H1, I1, r, q⟩ => ⟨I1.kIn, run_fnSD F hr hb hd (hx σ) I1 r q⟩) he hpl) hdb)
end
section
variable {X : Cx} {B : Bas} {W : WX} {e a b o : Expr} {es : List Expr} {st : Stmt} {sts : List Stmt} {pos p : Pos} {me ma mb mo : ME} {mr : MA} {ms mss : MS} {x : Str}
theorem det_of (h : PE X e (tE B W me)) : PET X e (tE B W me) := CwR.PET.of h
theorem deb_str {c : Str} {j : Nat} {cp : Pos} : PEB X (.Constant (.str c) j cp) (tE B W (mC (.str c))) := PEB.cut peb_str fun σ H Q ⟨m, S, en, s, c, er, p⟩ => p m H _ (Le.refl s) c (rp_str m)
theorem deb_op {op : Operator} {r : R2} {g : Sto → D → D → Option D} (ho : OpR X (binaryOp op) r) (h : Op2 B r g) (ha : PE X a (tE B W ma)) (hb : PEB X b (tE B W mb)) : PEB X (.BinOp a op b pos) (tE B W (mOp g ma mb)) := PEB.cut (peb_op ho ha hb) (tOp_of h)
theorem dab_here (ha : PEB X e (tE B W me)) (hr : PA X es (tA B W mr)) (hs : starEach (e :: es) X.env = (false, eval e X.env) :: starEach es X.env := by rfl) : PAB X (e :: es) (tA B W (aCons me mr)) := PAB.cut (pab_here ha hr hs) tCons_of
theorem dab_skip (ha : PE X e (tE B W me)) (hr : PAB X es (tA B W mr)) (hs : starEach (e :: es) X.env = (false, eval e X.env) :: starEach es X.env := by rfl) : PAB X (e :: es) (tA B W (aCons me mr)) := PAB.cut (pab_skip ha hr hs) tCons_of
theorem deb_lst (h : PAB X es (tA B W mr)) : PEB X (.List es pos) (tE B W (mLst mr)) := PEB.cut (peb_lst h) tLst_of
theorem dsb_set {i : Nat} {x : Str} {pos' : Pos} (hN : X.N.Nodup) (hi : X.N[i]? = some x) (hx : Loc X.env.scope x) (he : PEB X e (tE B W me)) (hs : swapsWith e (some (.Name x pos')) pos.line X.env = pure false := by rfl)
    (hf : X.fn x = true ∨ X.env.scope.names.lookup x = some .local := by first | exact .inl rfl | exact .inr rfl | assumption) : PSB X (.Assign [.Name x pos'] e pos) (tS B W (sAsg me (gN i))) := PSB.cut (psb_set hN hi hx he hs hf) (tAsg_of tg_name)
theorem ds_bump (hW : WI W) (h1 : PSB X st (tS B W ms)) (h2 : PSsT X sts (tS B W mss)) : PSs X (st :: sts) (tS B W (sSeq ms mss)) := PSs.cut (pss_bump h1 h2) (tSeq_of hW)
theorem tRepl_of {y z : Str} (σ : L2.St) (H : Hp) (Q : VK) (t : tE B W (mUn (dRepl y z) mo) σ H Q) : CwR.tReplC (tE B W mo) y z σ H Q := by
  obtain ⟨m, S, en, s, c, er, p⟩ := t
  refine ⟨m, S, en, s, c, er, (Post.bind p).imp ?_⟩
  rintro v H1 ⟨d, S1, m1, _, l1, c1, r1, p1⟩
  cases h1 : dRepl y z S1 d with
  | none => rw [h1] at p1; exact p1.elim
  | some d2 =>
    rw [h1] at p1
    unfold dRepl at h1
    split at h1
    · split at h1
      · rename_i w _ hl
        cases h1
        exact ⟨w, r1.str_eq, hl, p1 m1 H1 _ (Le.refl l1.sub) c1 (rp_str m1)⟩
      · cases h1
    · cases h1
section
variable {y z : Str} {j k : Nat} {c0 c1 apos : Pos}
theorem det_repl (hp : PE X o (tE B W mo)) (hyz : (y == z) = false := by decide)
    (hst : starEach [.Constant (.str y) j c0, .Constant (.str z) k c1] X.env = [(false, eval (.Constant (.str y) j c0) X.env), (false, eval (.Constant (.str z) k c1) X.env)] := by rfl)
    (hbase : attributeBase o "replace" X.env (eval o X.env) = eval o X.env := by rfl) (hline : (apos.endLine == pos.line) = true := by rfl) :
    PET X (.Call (.Attribute o "replace" apos) [.Constant (.str y) j c0, .Constant (.str z) k c1] [] pos) (tE B W (mUn (dRepl y z) mo)) := PET.cut (CwR.pet_replC hp hyz hst hbase hline) tRepl_of
end
theorem det_op {op : Operator} {r : R2} {g : Sto → D → D → Option D} (ho : OpR X (binaryOp op) r) (h : Op2 B r g) (ha : PET X a (tE B W ma)) (hb : PET X b (tE B W mb)) : PET X (.BinOp a op b pos) (tE B W (mOp g ma mb)) := PET.cut (CwR.pet_op ho ha hb) (tOp_of h)
theorem dat_of (h : PA X es (tA B W mr)) : PAT X es (tA B W mr) := fun pos pins s σ H Q _ I q => h.run pos pins s σ H Q I q
theorem dat_cons (ha : PET X e (tE B W me)) (hr : PAT X es (tA B W mr)) (hs : starEach (e :: es) X.env = (false, eval e X.env) :: starEach es X.env := by rfl) : PAT X (e :: es) (tA B W (aCons me mr)) := PAT.cut (pat_cons ha hr hs) tCons_of
theorem det_lst (h : PAT X es (tA B W mr)) : PET X (.List es pos) (tE B W (mLst mr)) := PET.cut (pet_lst h) tLst_of
theorem det_fn {k j : Nat} {F : Fn} (c : Cal X.prog X.w X.K X.mg X.base B x k F) (hr : Room j X.A) (hk : k ≤ j) (tk : Takes X W) (ha : PAT X (e :: es) (tA B W mr)) (hg : Gl X x := by rfl) (hdb : (x == ("__debug__" : Str)) = false := by decide)
    (he : starEach (e :: es) X.env = (false, eval e X.env) :: starEach es X.env := by rfl) (hpl : (backTo pos (starEach es X.env)).any (·.1) = false := by rfl) : PET X (.Call (.Name x p) (e :: es) [] pos) (tE B W (mCall F mr)) := by
  obtain ⟨f, fd, ps, h1, h2, h3, h4⟩ := c
  exact PET.cut (pet_callSD h1 (hr.mono hk) hg h2 h3 h4 .nil (fun σ => passAt tk σ) ha hdb he hpl) tCall_of
theorem dst_ret (he : PET X e (tE B W me)) : PST X (.Return (some e) pos) (tS B W (sRet me)) := PST.cut (CwR.pst_ret he) fun D σ H ⟨m, S, en, s, c, er, p⟩ => ⟨m, S, en, s, c, er, (Post.bind p).imp (by
  rintro v H1 ⟨d, S1, m1, _, l1, c1, r1, p1⟩
  exact p1 m1 H1 (.rt v) (Le.refl l1.sub) c1 r1)⟩
theorem dst_one (h : PST X st (tS B W ms)) : PSsT X [st] (tS B W ms) := fun pins s σ H D h0 I q => by
  refine wpAny_execs_cons (thn (h pins s σ H D h0 I q) fun f s1 q => ?_)
  cases f with
  | next => exact wpAny_execs_nil q
  | ret v => exact q
  | brk => exact q
  | cont => exact q
end
end G
end
section
namespace G
open PySem PySem.Spec PyProof.Rows L2 RZ
def dUp (_ : Sto) : D → Option D
  | .str a => if a.length ≤ 5592405 then some (.str (Txt.upper a)) else none
  | _ => none
theorem de_upper {X : Cx} {B : Bas} {W : WX} {o : Expr} {apos pos : Pos} {mo : ME} (ho : PE X o (tE B W mo)) (hbase : attributeBase o "upper" X.env (eval o X.env) = eval o X.env := by rfl) (hline : (apos.endLine == pos.line) = true := by rfl) :
    PE X (.Call (.Attribute o "upper" apos) [] [] pos) (tE B W (mUn dUp mo)) := PE.cut (pe_upper ho hbase hline) fun σ H Q ⟨m, S, en, s, c, er, p⟩ => by
  refine ⟨m, S, en, s, c, er, (Post.bind p).imp ?_⟩
  rintro v H1 ⟨d, S1, m1, _, l1, c1, r1, p1⟩
  cases h1 : dUp S1 d with
  | none => rw [h1] at p1; exact p1.elim
  | some d2 =>
    rw [h1] at p1
    unfold dUp at h1
    split at h1
    · split at h1
      · rename_i a _ hl
        cases h1
        exact ⟨⟨a, r1.str_eq⟩, a, r1.str_eq, rfl, hl, p1 m1 H1 _ (Le.refl l1.sub) c1 (rp_str m1)⟩
      · cases h1
    · cases h1
def repS (a : Str) (n : Nat) : Str := ⟨(List.replicate n a.cps).foldl (· ++ ·) #[]⟩
theorem foldl_size (c : Array Nat) : ∀ (n : Nat) (acc : Array Nat), ((List.replicate n c).foldl (· ++ ·) acc).size = acc.size + n * c.size
  | 0, acc => by simp
  | n + 1, acc => by
    rw [List.replicate_succ, List.foldl_cons, foldl_size c n, Array.size_append, Nat.add_mul]
    omega
theorem repS_len (a : Str) (n : Nat) : (repS a n).length = n * a.length := by
  show ((List.replicate n a.cps).foldl (· ++ ·) #[]).size = _
  rw [foldl_size]
  simp [Str.length]
def rMulS : R2 := fun x y H Q => ∃ (a : Str) (n : Nat), x = .str a ∧ y = .int (n : Int) ∧ 2 ≤ n ∧ n ≤ 1000 ∧ 1 ≤ a.length ∧ a.length ≤ 1000 ∧ Q (.str (repS a n)) H
theorem op_mulS {X : Cx} : OpR X (binaryOp .Mult) rMulS := by
  intro pins s σ H x y v u Q I rx ry h
  obtain ⟨a, n, rfl, rfl, n2, n1, a1, a2, q⟩ := h
  obtain ⟨t, rfl⟩ := rx
  obtain ⟨t', rfl⟩ := ry
  have h1 : ¬ ((n : Int) < 1) := by omega
  have h2 : (((n : Int) == 1) || (a.length == 0)) = false := by
    rw [Bool.or_eq_false_iff]
    exact ⟨beq_eq_false_iff_ne.mpr (by omega), beq_eq_false_iff_ne.mpr (by omega)⟩
  have big : a.length * n ≤ 1000 * 1000 := Nat.mul_le_mul a2 n1
  have lng : Builtin.Str.tooLong (a.length * n) = false := by
    unfold Builtin.Str.tooLong
    exact decide_eq_false (by have : (1000 : Nat) * 1000 ≤ sizeLine := by decide
                              omega)
  refine P.mul_str (n := (n : Int)) ?_ (fun _ _ => ?_) (fun _ _ => by rw [Int.toNat_natCast]; exact lng) ?_
  · rw [decide_eq_false (by omega), decide_eq_false (by omega)]
    rfl
  · have : (1000 : Int) ≤ (2 ^ 63 - 1) / (n : Int) := by
      rw [Int.le_ediv_iff_mul_le (by omega)]
      omega
    omega
  · rw [if_neg h1, if_neg (by rw [h2]; exact Bool.false_ne_true), Int.toNat_natCast]
    refine ⟨?_, .str (repS a n), H, I.tok _, ⟨_, rfl⟩, q⟩
    show (repS a n).length ≤ sizeLine
    rw [repS_len, Nat.mul_comm]
    have : (1000 : Nat) * 1000 ≤ sizeLine := by decide
    omega
def dMulS (_ : Sto) (x y : D) : Option D := match x, y with
  | .str a, .int i => if 2 ≤ i ∧ i ≤ 1000 ∧ 1 ≤ a.length ∧ a.length ≤ 1000 then some (.str (repS a i.toNat)) else none
  | _, _ => none
theorem op2_mulS {B : Bas} : Op2 B rMulS dMulS := fun m S H x y d1 d2 d s c r1 r2 e Q q => by
  unfold dMulS at e
  split at e
  · rename_i a i
    split at e
    · rename_i h
      cases e
      refine ⟨a, i.toNat, r1.str_eq, ?_, by omega, by omega, h.2.2.1, h.2.2.2, q_val s c q (rp_str m)⟩
      rw [r2.int_eq, Int.toNat_of_nonneg (by omega)]
    · cases e
  · cases e
theorem drawsS {prog : Program} {w : World} {A : Around} (hh : A.handled = none) (it : Addr) (x : Str) (t : Tok) :
    Draws prog w A it [it] x.cps.size (fun i v => ∃ c u, x.cps[i]? = some c ∧ v = .str ⟨#[c]⟩ u) (fun i h => h.IsStrIter it (strIterType x) x t i) := by
  unfold strIterType
  split
  · exact Draws.strAscii hh it x t
  · exact Draws.strWide hh it x t
def IteS (x : Str) : It where
  go := fun i _ => i < x.cps.size
  yld := fun i H v H' => ∃ T c, x.cps[i]? = some c ∧ (v = .ref T ∧ H T = none) ∧ H' = upd H T (.tup [.int (i : Nat), .str ⟨#[c]⟩])
  stop := fun i _ => x.cps.size ≤ i
structure EsAt (x : Str) (t : Tok) (e it : Addr) (i : Nat) (h : Heap) : Prop where
  le : i ≤ x.cps.size
  apart : e ≠ it
  inner : h.IsStrIter it (strIterType x) x t i
  outer : ∃ old, IsEnum h e it ((i : Nat) : Int) old
theorem EsAt.objs {x : Str} {t : Tok} {e it : Addr} {i : Nat} {h : Heap} (st : EsAt x t e it i h) {c : Addr} (hc : c ∈ [e, it]) : ∃ o, h.get? c = some o ∧ ∀ v, o.data ≠ .cell v := by
  obtain ⟨old, e1⟩ := st.outer
  obtain ⟨o2, e2, _, d2⟩ := st.inner
  simp only [List.mem_cons, List.not_mem_nil, or_false] at hc
  rcases hc with rfl | rfl
  · exact ⟨_, e1, by intro v z; cases z⟩
  · exact ⟨o2, e2, by intro v z; rw [d2] at z; cases z⟩
theorem EsAt.lt {x : Str} {t : Tok} {e it : Addr} {i : Nat} {h : Heap} (st : EsAt x t e it i h) {c : Addr} (hc : c ∈ [e, it]) : c < h.objs.size := by
  obtain ⟨_, z, _⟩ := st.objs hc
  exact Heap.lt_size z
theorem turn_enumS {P : Program} {w : World} {K : PySem.W.Frag} {elts : List Expr} {kk : Nat} {tpos : Pos} (x : Str) (t : Tok) (e it : Addr) : Turn P w K (.Tuple elts kk tpos) (IteS x) [e, it] e (EsAt x t e it) where
  mem := List.mem_cons_self
  obj := fun _ _ st _ hc => st.objs hc
  keep := fun _ _ _ st k => by
    obtain ⟨old, e1⟩ := st.outer
    obtain ⟨o2, e2, r2⟩ := st.inner
    exact ⟨st.le, st.apart, ⟨o2, k it (by simp) _ e2, r2⟩, old, k e (by simp) _ e1⟩
  self := fun _ _ _ _ _ st q => by
    obtain ⟨_, e1⟩ := st.outer
    exact wpAny_pyIter_enum e1 q
  item := by
    rintro X rfl rfl rfl hc i pins s σ H E I hf st lt
    obtain ⟨old, e1⟩ := st.outer
    have n1 := st.apart
    have el := st.lt (c := e) (by simp)
    refine wpAny_pyNext_enum_itemD (drawsS (A := X.A.in1) (I.ok.hd hc) it x t) e1 st.inner lt n1 (by simp [n1]) fun u h' tk hu out inner new _ hk => ?_
    obtain ⟨c, tc, ec, rfl⟩ := hu
    refine ⟨_, rfl, wpAny_letOwnedTupleGo_enum (s := { s with heap := h', toks := tk + 1 }) out fun h2 e3 sb => ?_⟩
    have pair : h2.get? s.heap.objs.size = some { cls := .type "tuple", data := .seq #[.int i tk, .str ⟨#[c]⟩ tc] } := (sb.2 _ (Nat.ne_of_gt el)).trans new
    have J : Inv X pins σ (upd H s.heap.objs.size (.tup [.int (i : Nat), .str ⟨#[c]⟩])) { s with heap := h2, toks := tk + 1 } := by
      refine I.turnedNew (ch := [e, it]) (fun c o hb q => ?_) hf (Nat.le_refl _) ⟨by show 2 ≤ sizeLine; decide, [.int i tk, .str ⟨#[c]⟩ tc], .cons ⟨_, rfl⟩ (.cons ⟨_, rfl⟩ .nil), _, pair, rfl, _, rfl⟩
      simp only [List.mem_cons, List.not_mem_nil, or_false, not_or] at hb
      exact (sb.2 c hb.1).trans (hk c o hb.1 hb.2 q)
    have lt' : i < x.cps.size := lt
    obtain ⟨o2, e2, r2⟩ := inner
    refine ⟨.ref s.heap.objs.size, _, J, rfl, ⟨_, c, ec, ⟨rfl, I.hok.fresh (Nat.le_refl _)⟩, rfl⟩, ⟨by omega, n1, ⟨o2, (sb.2 it n1.symm).trans e2, r2⟩, .str ⟨#[c]⟩ tc, ?_⟩, fun c hb => (upd_ne (Nat.ne_of_lt (st.lt hb))).trans (hf c hb).1⟩
    rw [show ((i + 1 : Nat) : Int) = (i : Int) + 1 from rfl]
    exact e3
  done := by
    rintro X rfl rfl rfl hc i pins s σ H E I hf st le
    have here : i = x.cps.size := Nat.le_antisymm st.le le
    obtain ⟨old, e1⟩ := st.outer
    have f := hf it (by simp)
    refine wpAny_pyNext_enum_endD (drawsS (A := X.A.in1) (I.ok.hd hc) it x t) e1 (here ▸ st.inner) fun h' eb => ⟨rfl, ?_⟩
    exact I.turned (t' := s.toks) (fun c o hb q => eb c o hb q) f.1 f.2.1 f.2.2.2.1 f.2.2.2.2.1 f.2.2.2.2.2
def iEnumT (ta : TA) : TI := fun σ H R => ta σ H fun vs H1 => ∃ x, vs = [.str x] ∧ R (IteS x) H1
theorem pi_enumS {X : Cx} {e : Expr} {ta : TA} {p pos tpos : Pos} {elts : List Expr} {kk : Nat} (hg : Gl X "enumerate") (hm : X.mg "enumerate" = none) (ha : PA X [e] ta) (hs : starEach [e] X.env = [(false, eval e X.env)] := by rfl) :
    PI X (.Tuple elts kk tpos) (.Call (.Name "enumerate" p) [e] [] pos) (iEnumT ta) := ⟨fun pins s σ H R I h => by
  refine Call_ (ld_blt I hg hm boot_enumerate (PyProof.Rows.callWith_type1 (thn (ha.run pos pins s σ H _ I h) fun us s1 ⟨vs, H1, I1, r1, x, ev, q⟩ => ?_) hs rfl))
  subst ev
  cases r1 with
  | cons r1 r2 =>
    cases r2
    obtain ⟨t, rfl⟩ := r1
    have new : ∀ c ∈ [s1.heap.objs.size + 1, s1.heap.objs.size], FpOk X pins H1 c := fun c hc => by
      have le : s1.heap.objs.size ≤ c := by
        simp only [List.mem_cons, List.not_mem_nil, or_false] at hc
        rcases hc with rfl | rfl
        · exact Nat.le_succ _
        · exact Nat.le_refl _
      exact I1.fpOk le (I1.hok.fresh le)
    exact call_enumT (begins_text x t) trivial fun h' ⟨e1, e2⟩ hk => wpAny_pyIter_enum e1
      ⟨_, _, _, _, H1, rfl, I1.kept (t' := s1.toks) hk, turn_enumS x t _ _, ⟨Nat.zero_le _, Nat.succ_ne_self _, ⟨_, e2, rfl, rfl⟩, .none, e1⟩, new, q⟩⟩
def sgs (x : Str) : List D := x.cps.toList.map fun c => D.str ⟨#[c]⟩
def iEnumS (e : ME) : MI := fun en S => (e en S).bind fun d S1 => match d with
  | .str x => .ok ⟨enumD 0 (sgs x), fun _ => True⟩ S1
  | _ => .bad
theorem itr_enumS {B : Bas} {m : Mp} (x : Str) : ItR B m ⟨enumD 0 (sgs x), fun _ => True⟩ (IteS x) := fun m' H' S k s c _ => by
  have ln : (sgs x).length = x.cps.size := by simp [sgs]
  refine ⟨fun i d hx => ?_, fun i hi => ?_⟩
  · have hi := enum_at hx
    refine ⟨by show i < x.cps.size; omega, ?_⟩
    rintro y H'' ⟨T, ch, hz, ⟨rfl, hT⟩, rfl⟩
    rw [enumD_get] at hx
    have e : (sgs x)[i]? = some (.str ⟨#[ch]⟩) := by
      unfold sgs
      rw [List.getElem?_map, Array.getElem?_toList, hz]
      rfl
    rw [e] at hx
    simp only [Option.map_some, Option.some.injEq, Nat.zero_add] at hx
    subst hx
    exact ⟨_, Le.new c s hT, Cor.new c s hT, rp_tup c s hT (Reps.cons (rp_int _) (Reps.cons (rp_str _) Reps.nil))⟩
  · show x.cps.size ≤ i
    have : (enumD 0 (sgs x)).length ≤ i := hi
    rw [enumD_len, ln] at this
    exact this
theorem di_enumS {X : Cx} {B : Bas} {W : WX} {e : Expr} {me : ME} {p pos tpos : Pos} {elts : List Expr} {kk : Nat} (hm : X.mg "enumerate" = none) (he : PE X e (tE B W me)) (hg : Gl X "enumerate" := by rfl) (hs : starEach [e] X.env = [(false, eval e X.env)] := by rfl) :
    PI X (.Tuple elts kk tpos) (.Call (.Name "enumerate" p) [e] [] pos) (tI B W (iEnumS me)) :=
  PI.cut (pi_enumS hg hm (da_cons he da_nil (by rw [hs]; rfl)) hs) fun σ H R ⟨m, S, en, s, c, er, q⟩ => by
    refine ⟨m, S, en, s, c, er, ?_⟩
    have q1 : Post B (ItR B) (at' W σ) m H R ((aCons me aNil en S).bind fun xs S1 => match xs with
        | [.str x] => .ok ⟨enumD 0 (sgs x), fun _ => True⟩ S1
        | _ => .bad) := by
      simp only [aCons, aNil]
      unfold iEnumS at q
      cases h : me en S with
      | ok d S1 =>
        rw [h] at q
        simp only [Res.bind_ok] at q ⊢
        cases d <;> exact q
      | ex c ns vs S1 => rw [h] at q; exact q
      | bad => rw [h] at q; exact q
    refine (Post.bind q1).imp ?_
    rintro vs H1 ⟨ds, S1, m1, _, l1, c1, r1, p1⟩
    split at p1
    · rename_i x _
      obtain ⟨v, rfl, rv⟩ := r1.one
      exact ⟨x, by rw [rv.str_eq], p1 m1 H1 _ (Le.refl l1.sub) c1 (itr_enumS x)⟩
    · exact p1.elim
def rNeL (K : PySem.W.Frag) : R2 := fun x y H Q => ∃ a b xs, x = .ref a ∧ y = .ref b ∧ SqL K H a xs ∧ SqL K H b [] ∧ Q (.bl (!decide (xs = []))) H
theorem op_neL {X : Cx} (hu : X.A.units + 64 < cLine) : OpR X (compareOp .NotEq) (rNeL X.K) := by
  intro pins s σ H x y v u Q I rx ry h
  obtain ⟨a, b, xs, rfl, rfl, h1, h2, q⟩ := h
  cases rx
  cases ry
  obtain ⟨its, r1, t1, _⟩ := I.list h1
  obtain ⟨its2, r2, t2, _⟩ := I.list h2
  cases r2
  have len : its.length = xs.length := r1.length.symm
  cases xs with
  | nil =>
    have e : its = [] := List.eq_nil_of_length_eq_zero len
    subst e
    exact SeqAt.RcNeAt.lists (e := fun _ => true) t1.isList t2.isList rfl (by omega) (fun j h => absurd h (by simp)) _ _ _ _ ⟨.bl _, H, I, rfl, q⟩
  | cons z zs =>
    refine SeqAt.RcNeAt.lists_lengths t1.isList t2.isList ?_ (by omega) _ _ _ _ ⟨.bl _, H, I, rfl, q⟩
    simp [List.size_toArray, len]
def dNeL (S : Sto) (x y : D) : Option D := match seqL S x, y with
  | some xs, .lst [] => some (.bl (!xs.isEmpty))
  | _, _ => none
theorem op2_neL {B : Bas} : Op2 B (rNeL B.K) dNeL := fun m S H x y d1 d2 d s c r1 r2 e Q q => by
  unfold dNeL at e
  split at e
  · rename_i xs hx
    cases e
    obtain ⟨a, vs, rfl, h1, q1⟩ := repL s c r1 hx
    obtain ⟨b, us, rfl, h2, q2⟩ := repL s c r2 (show seqL S (.lst []) = some [] from rfl)
    obtain rfl : us = [] := q2.nil_iff.mpr rfl
    refine ⟨a, b, vs, rfl, rfl, h1, h2, ?_⟩
    have e : decide (vs = []) = xs.isEmpty := by
      cases xs with
      | nil => rw [q1.nil_iff.mpr rfl]; rfl
      | cons z zs => exact decide_eq_false fun h => by have := q1.nil_iff.mp h; cases this
    rw [e]
    exact q_val s c q (rp_bl m)
  · cases e
end G
end
section
set_option maxHeartbeats 0
namespace T51
open PySem L2 G
def topS (i : Nat) : Stmt := PySem.Challenge.pw_grantsgrow_k51_texts_of_no_grants.main.body.getD i (.Pass ⟨0, 0, 0, 0⟩)
abbrev s_BadText_init : Stmt := (inClass (topS 2) 0)
abbrev s_words_of : Stmt := (topS 6)
abbrev s_numbers_in : Stmt := (topS 7)
abbrev s_check_words : Stmt := (topS 8)
abbrev s_body_in : Stmt := (topS 9)
abbrev s_grant_in : Stmt := (topS 10)
abbrev s_read_grant : Stmt := (topS 11)
abbrev s_law_deck_v2 : Stmt := (topS 13)
abbrev s_law_take_v2 : Stmt := (topS 14)
abbrev s_law_pick : Stmt := (topS 15)
abbrev s_law_odd_v2 : Stmt := (topS 16)
abbrev s_law_role_v2 : Stmt := (topS 17)
abbrev s_law_grant : Stmt := (topS 18)
abbrev s_law_role_text : Stmt := (topS 19)
abbrev s_law_grant_text : Stmt := (topS 20)
abbrev s_law_numbersx : Stmt := (topS 21)
abbrev s_law_read_grantx : Stmt := (topS 22)
abbrev s_law_words : Stmt := (topS 23)
abbrev s_law_torn : Stmt := (topS 24)
abbrev s_law_told_v8 : Stmt := (topS 25)
abbrev s_law_k51 : Stmt := (topS 26)
def d_words_of : He.DefD := ⟨("words_of", none), "words_of", "words_of", defArgs s_words_of, defBody s_words_of, defScope s_words_of, [], []⟩
def d_numbers_in : He.DefD := ⟨("numbers_in", none), "numbers_in", "numbers_in", defArgs s_numbers_in, defBody s_numbers_in, defScope s_numbers_in, [], []⟩
def d_check_words : He.DefD := ⟨("check_words", none), "check_words", "check_words", defArgs s_check_words, defBody s_check_words, defScope s_check_words, [], []⟩
def d_body_in : He.DefD := ⟨("body_in", none), "body_in", "body_in", defArgs s_body_in, defBody s_body_in, defScope s_body_in, [], []⟩
def d_grant_in : He.DefD := ⟨("grant_in", none), "grant_in", "grant_in", defArgs s_grant_in, defBody s_grant_in, defScope s_grant_in, [], []⟩
def d_read_grant : He.DefD := ⟨("read_grant", none), "read_grant", "read_grant", defArgs s_read_grant, defBody s_read_grant, defScope s_read_grant, [], []⟩
def d_law_deck_v2 : He.DefD := ⟨("_law_deck", none), "_law_deck", "_law_deck", defArgs s_law_deck_v2, defBody s_law_deck_v2, defScope s_law_deck_v2, [], []⟩
def d_law_take_v2 : He.DefD := ⟨("_law_take", none), "_law_take", "_law_take", defArgs s_law_take_v2, defBody s_law_take_v2, defScope s_law_take_v2, [], []⟩
def d_law_pick : He.DefD := ⟨("_law_pick", none), "_law_pick", "_law_pick", defArgs s_law_pick, defBody s_law_pick, defScope s_law_pick, [], []⟩
def d_law_odd_v2 : He.DefD := ⟨("_law_odd", none), "_law_odd", "_law_odd", defArgs s_law_odd_v2, defBody s_law_odd_v2, defScope s_law_odd_v2, [], []⟩
def d_law_role_v2 : He.DefD := ⟨("_law_role", none), "_law_role", "_law_role", defArgs s_law_role_v2, defBody s_law_role_v2, defScope s_law_role_v2, [], []⟩
def d_law_grant : He.DefD := ⟨("_law_grant", none), "_law_grant", "_law_grant", defArgs s_law_grant, defBody s_law_grant, defScope s_law_grant, [], []⟩
def d_law_role_text : He.DefD := ⟨("_law_role_text", none), "_law_role_text", "_law_role_text", defArgs s_law_role_text, defBody s_law_role_text, defScope s_law_role_text, [], []⟩
def d_law_grant_text : He.DefD := ⟨("_law_grant_text", none), "_law_grant_text", "_law_grant_text", defArgs s_law_grant_text, defBody s_law_grant_text, defScope s_law_grant_text, [], []⟩
def d_law_numbersx : He.DefD := ⟨("_law_numbers", none), "_law_numbers", "_law_numbers", defArgs s_law_numbersx, defBody s_law_numbersx, defScope s_law_numbersx, [], []⟩
def d_law_read_grantx : He.DefD := ⟨("_law_read_grant", none), "_law_read_grant", "_law_read_grant", defArgs s_law_read_grantx, defBody s_law_read_grantx, defScope s_law_read_grantx, [], []⟩
def d_law_words : He.DefD := ⟨("_law_words", none), "_law_words", "_law_words", defArgs s_law_words, defBody s_law_words, defScope s_law_words, [], []⟩
def d_law_torn : He.DefD := ⟨("_law_torn", none), "_law_torn", "_law_torn", defArgs s_law_torn, defBody s_law_torn, defScope s_law_torn, [], []⟩
def d_law_told_v8 : He.DefD := ⟨("_law_told", none), "_law_told", "_law_told", defArgs s_law_told_v8, defBody s_law_told_v8, defScope s_law_told_v8, [], []⟩
def d_law_k51 : He.DefD := ⟨("law", none), "law", "law", defArgs s_law_k51, defBody s_law_k51, defScope s_law_k51, [], []⟩
def d_BadText_init : He.DefD := ⟨("BadText", some "__init__"), "__init__", "BadText.__init__", defArgs s_BadText_init, defBody s_BadText_init, defScope s_BadText_init, [], []⟩
def clA (K : PySem.W.Frag) : Nat → Addr
  | 15 => He.ga K "BadText"
  | _ => 0
def fnl : List He.DefD := ([d_words_of, d_numbers_in, d_check_words, d_body_in, d_grant_in, d_read_grant, d_law_deck_v2, d_law_take_v2, d_law_pick, d_law_odd_v2, d_law_role_v2, d_law_grant, d_law_role_text, d_law_grant_text, d_law_numbersx, d_law_read_grantx, d_law_words, d_law_torn, d_law_told_v8, d_law_k51, d_BadText_init] : List _)
def gel : List GetD := []
def fal : List He.Fa := ([.glo "words_of", .glo "numbers_in", .glo "check_words", .glo "body_in", .glo "grant_in", .glo "read_grant", .glo "_law_deck", .glo "_law_take", .glo "_law_pick", .glo "_law_odd", .glo "_law_role", .glo "_law_grant", .glo "_law_role_text", .glo "_law_grant_text", .glo "_law_numbers", .glo "_law_read_grant", .glo "_law_words", .glo "_law_torn", .glo "_law_told", .glo "law", .free "abs", .free "all", .free "enumerate", .free "int", .free "isinstance"] : List _) ++ ([.free "len", .free "max", .free "min", .free "range", .free "repr", .free "str", .free "tuple", .glo "BadText", .noat "BadText" "line", .noat "BadText" "number", .str "FIGURES" "0123456789", .int "MOST_WORDS" 99999] : List _)
def exl : List (PySem.W.Frag → Bool) := ([(fun K => iniB K "BadText"), (fun K => smB K), (fun K => xcB K (He.ga K "BadText")), (fun K => decide (PySem.W.subIn K (.ref (He.ga K "BadText")) (.ref (He.ga K "BadText")) = some true)), (fun K => decide (PySem.W.findIn K (.ref (He.ga K "BadText")) "line" = some none)), (fun K => decide (PySem.W.findIn K (.ref (He.ga K "BadText")) "number" = some none))] : List _)
theorem ex_0 {K : PySem.W.Frag} (h : exAll K exl = true) : (iniB K "BadText") = true := exAt h 0 (f := fun K => iniB K "BadText") rfl
theorem ex_1 {K : PySem.W.Frag} (h : exAll K exl = true) : (smB K) = true := exAt h 1 (f := fun K => smB K) rfl
theorem ex_2 {K : PySem.W.Frag} (h : exAll K exl = true) : (xcB K (He.ga K "BadText")) = true := exAt h 2 (f := fun K => xcB K (He.ga K "BadText")) rfl
theorem ex_3 {K : PySem.W.Frag} (h : exAll K exl = true) : (decide (PySem.W.subIn K (.ref (He.ga K "BadText")) (.ref (He.ga K "BadText")) = some true)) = true := exAt h 3 (f := fun K => decide (PySem.W.subIn K (.ref (He.ga K "BadText")) (.ref (He.ga K "BadText")) = some true)) rfl
theorem ex_4 {K : PySem.W.Frag} (h : exAll K exl = true) : (decide (PySem.W.findIn K (.ref (He.ga K "BadText")) "line" = some none)) = true := exAt h 4 (f := fun K => decide (PySem.W.findIn K (.ref (He.ga K "BadText")) "line" = some none)) rfl
theorem ex_5 {K : PySem.W.Frag} (h : exAll K exl = true) : (decide (PySem.W.findIn K (.ref (He.ga K "BadText")) "number" = some none)) = true := exAt h 5 (f := fun K => decide (PySem.W.findIn K (.ref (He.ga K "BadText")) "number" = some none)) rfl
def asl : List Addr := ([3, 6, 4, 24, 44, 51, 56, 63, 70, 77, 84, 91, 98, 105, 112, 119, 126, 133, 140, 145, 150, 155, 162, 169, 176, 0, 23, 43, 50, 55, 62, 69, 76, 83, 90, 97, 104, 111, 118, 125, 132, 139, 144, 149, 154, 161, 168, 175, 22, 25, 41, 42, 47, 48, 49, 52, 53, 54, 57, 58, 59, 60, 61, 64, 65, 66, 67, 68, 71, 72, 73, 74, 75, 78, 79, 80, 81, 82, 85, 86, 87, 88, 89, 92, 93, 94, 95, 96, 99, 100, 101, 102, 103, 106, 107, 108, 109, 110, 113, 114] : List _) ++ ([115, 116, 117, 120, 121, 122, 123, 124, 127, 128, 129, 130, 131, 134, 135, 136, 137, 138, 141, 142, 143, 146, 147, 148, 151, 152, 153, 156, 157, 158, 159, 160, 163, 164, 165, 166, 167, 170, 171, 172, 173, 174, 40, 35, 36, 37, 38, 39, 1] : List _)
def loose : List PySem.Str := ([("BadText" : PySem.Str), ("FIGURES" : PySem.Str), ("GrantError" : PySem.Str), ("MOST_WORDS" : PySem.Str), ("_law_deck" : PySem.Str), ("_law_grant" : PySem.Str), ("_law_grant_text" : PySem.Str), ("_law_numbers" : PySem.Str), ("_law_odd" : PySem.Str), ("_law_pick" : PySem.Str), ("_law_read_grant" : PySem.Str), ("_law_role" : PySem.Str), ("_law_role_text" : PySem.Str), ("_law_take" : PySem.Str), ("_law_told" : PySem.Str), ("_law_torn" : PySem.Str), ("_law_words" : PySem.Str), ("body_in" : PySem.Str), ("check_words" : PySem.Str), ("grant_in" : PySem.Str), ("numbers_in" : PySem.Str), ("read_grant" : PySem.Str), ("words_of" : PySem.Str)] : List _)
abbrev R : PySem.W.OpenRow := PySem.W.OpenLaw.row PySem.Challenge.rw_grantsgrow_k51_texts_of_no_grants
abbrev hk : PySem.W.Hook := hookL asl fal fnl gel exl
def ob (s : PySem.W.SharedT) : AlL := obL asl fal fnl gel exl s
theorem ob_eq (s : PySem.W.SharedT) : ob s = hk.obs s.abs := obL_eq s
theorem runA (w : World) (os : OsState) : (HandSHeadRun.endF (HandSHeadRun.stepQ (HandSHeadRun.denQ HandSHeadRun.tabQ) R.prog w) 40000 R.prog w os).map (fun s => HandSHeadRun.looksF R.prog (PySem.W.boot_heap w.params) s.abs) = some true := by kernel_rfl
theorem runB (w : World) (os : OsState) : (HandSHeadRun.endF (HandSHeadRun.stepQ (HandSHeadRun.denQ HandSHeadRun.tabQ) R.prog w) 40000 R.prog w os).map (fun s => HandSHeadRun.seenQ (PySem.W.view R.prog [26]) loose (importedModules R.prog.main.body) (fun s => PySem.W.xlAt (PySem.W.view R.prog [26]) [] s && PySem.W.recOk R.toRowW.records s) s.abs) = some (PySem.W.openGood (PySem.W.view R.prog [26]) loose) := by kernel_rfl
theorem runC (w : World) (os : OsState) : (HandSHeadRun.endF (HandSHeadRun.stepQ (HandSHeadRun.denQ HandSHeadRun.tabQ) R.prog w) 40000 R.prog w os).map (fun s => obL1 asl fal fnl gel exl (HandSHeadRun.getT s)) = some true := by kernel_rfl
theorem runD (w : World) (os : OsState) : (HandSHeadRun.endF (HandSHeadRun.stepQ (HandSHeadRun.denQ HandSHeadRun.tabQ) R.prog w) 40000 R.prog w os).map (fun s => obL2 asl fnl (HandSHeadRun.getT s)) = some (valWs fnl) := by kernel_rfl
theorem runE (w : World) (os : OsState) : (HandSHeadRun.endF (HandSHeadRun.stepQ (HandSHeadRun.denQ HandSHeadRun.tabQ) R.prog w) 40000 R.prog w os).map (fun s => obL3 asl gel (HandSHeadRun.getT s)) = some (gtVs gel) := by kernel_rfl
theorem run (w : World) : HandSHeadRun.RunEq R (PySem.W.view R.prog [26]) hk ob 40000 loose w := fun os => map3 (runA w os) (runB w os) (map3 (runC w os) (runD w os) (runE w os))
end T51
end
section
open PySem L2 G
namespace G
def evB0 := And.intro @mDisp1_ap (And.intro @mListN_ap (And.intro @Res.bind_ok (And.intro @Res.bind_bad (And.intro @Res.bind_ex (And.intro @optR_some (And.intro @optR_none (And.intro @varR_some (And.intro @mVar_ap (And.intro @mC_ap (And.intro @mOp_ap (And.intro @opK1_ap (And.intro @opK2_ap (And.intro @mUn_ap (And.intro @unK_ap (And.intro @mTest_ap (And.intro @testK_bl (And.intro @mAnd_ap (And.intro @andK_t (And.intro @andK_f (And.intro @mOr_ap (And.intro @orK_t (And.intro @orK_f (And.intro @mNot_ap (And.intro @notK_ap (And.intro @mIf_ap (And.intro @ifK_t (And.intro @ifK_f (And.intro @mAndV_ap (And.intro @andVK_t (And.intro @andVK_f (And.intro @mOrV_ap (And.intro @orVK_t (And.intro @orVK_f (And.intro @mNotV_ap (And.intro @notVK_bl (And.intro @aNil_ap (And.intro @aCons_ap (And.intro @consK1_ap (And.intro @consK2_ap (And.intro @mTup_ap (And.intro @mLst_ap (And.intro @mNew_ap (And.intro @tupK_ok (And.intro @lstK_ok (And.intro @newK_ok (And.intro @mCB_ap (And.intro @cbK_ap (And.intro @mCall_ap (And.intro @callK_ok (True.intro))))))))))))))))))))))))))))))))))))))))))))))))))
def evB1 := And.intro @sNil_ap (And.intro @sSeq_ap (And.intro @seqK_nx (And.intro @seqK_rt (And.intro @seqK_bk (And.intro @seqK_ct (And.intro @sIf_ap (And.intro @ifSK_t (And.intro @ifSK_f (And.intro @sRet_ap (And.intro @retK_ap (And.intro @sRetN_ap (And.intro @sDrop_ap (And.intro @dropK_ap (And.intro @enR_some (And.intro @sAsg_ap (And.intro @asgK_ap (And.intro @gN_ap (And.intro @gsNil_ap (And.intro @gsCons_ap (And.intro @gT_ap (And.intro @sPar_ap (And.intro @parK_ap (And.intro @sBk_ap (And.intro @sCt_ap (And.intro @sFor_ap (And.intro @forK_ap (And.intro @iSeq_ap (And.intro @seqIK_lst (And.intro @seqIK_tup (And.intro @seqIK_ktp (And.intro @iRg1_ap (And.intro @iRg2_ap (And.intro @fnB_run (And.intro @endK_nx (And.intro @endK_rt (And.intro @dropF_run (And.intro @fnB_n (And.intro @dropF_n (And.intro @Wp_ok (And.intro @Wp_bind (And.intro @cItems_ap (And.intro @itK_ap (And.intro @mLc_ap (And.intro @mLcN_ap (And.intro @lcK_ap (And.intro @lcNK_ap (And.intro @tYesM_ap (And.intro @dAdd_int (And.intro @dSub_int (True.intro))))))))))))))))))))))))))))))))))))))))))))))))))
def evB2 := And.intro @dMod_int (And.intro @dDiv_int (And.intro @dMul_l (And.intro @dMul_r (And.intro @dPow_int (And.intro @dAnd_int (And.intro @dOr_int (And.intro @idxO_lst (And.intro @ixK3_ref (And.intro @ixO_lst (And.intro @ixO2_some (And.intro @ixN_0 (And.intro @ixN_1 (And.intro @ixN_2 (And.intro @appO1_lst (And.intro @extO1_lst (And.intro @rg1K_ok (And.intro @dLe0_int (And.intro @dGt0_int (And.intro @dGe0_int (And.intro @dLt_int (And.intro @dEq_int (And.intro @dNe_int (And.intro @dIs_non (And.intro @dIsNot_non (And.intro @dNeg_int (And.intro @dIdx_tup (And.intro @dIdx_lst (And.intro @dIdx_scr (And.intro @atI_0 (And.intro @atI_1 (And.intro @atI_2 (And.intro @atI_3 (And.intro @atI_4 (And.intro @dLen_lst (And.intro @dLen_scr (And.intro @dLen_tup (And.intro @dInt_int (And.intro @dInt_bl (And.intro @dAbs_int (And.intro @dStr_str (And.intro @dTuple_lst (And.intro @dTuple_tup (And.intro @dList_tup (And.intro @dList_lst (And.intro @dAll_lst (And.intro @dAny_lst (And.intro @mBMs_ap (And.intro @bmsK1_str (And.intro @bmsK2_ap (True.intro))))))))))))))))))))))))))))))))))))))))))))))))))
def evB3 := And.intro @oNone_ap (And.intro @oSome_ap (And.intro @oSomeK_int (And.intro @mSl_ap (And.intro @slK1_ap (And.intro @slK2_ap (And.intro @slK3_ap (And.intro @dSl_lst (And.intro @dSl_scr (And.intro @dSl_tup (And.intro @sIx_ap (And.intro @ixK1_ap (And.intro @ixK2_ap (And.intro @sApp_ap (And.intro @sExt_ap (And.intro @mFs_ap (And.intro @fsAll_nil (And.intro @fsAll_cons (And.intro @cK0_some (And.intro @cK1_f (And.intro @cK1_t (And.intro @cK2_ap (And.intro @noex_ok (And.intro @noex_ok' (And.intro @Res.drop_self (And.intro @bel_int (And.intro @bel_str (And.intro @bel_tup (And.intro @bel_lst (And.intro @bels_nil (And.intro @bels_cons (And.intro @loop_nil (And.intro @loop_cons (And.intro @stepR_some (And.intro @turnK_nx (And.intro @turnK_ct (And.intro @turnK_bk (And.intro @turnK_rt (And.intro @nc0 (And.intro @nc1 (And.intro @nc2 (And.intro @nc3 (And.intro @nc4 (And.intro @nc5 (And.intro @mDisp_ap (And.intro @mDispD_ap (And.intro @dispK_ap (And.intro @dispDK_ap (And.intro @mDEmp_ap (And.intro @mDNew_ap (True.intro))))))))))))))))))))))))))))))))))))))))))))))))))
def evB4 := And.intro @mDictOf_ap (And.intro @dicOf_dic (And.intro @dicO_dic (And.intro @mDGet2_ap (And.intro @g2K0_emp (And.intro @g2K1_ap (And.intro @g2K2_ap (And.intro @mDcN_ap (And.intro @dcK0_ap (And.intro @dcK2_ap (And.intro @sKPutS_ap (And.intro @kpK1_ap (And.intro @kpK2_ap (And.intro @sDPutS_ap (And.intro @dpK1_ap (And.intro @dpK2_ap (And.intro @mProp_ap (And.intro @mMeth_ap (And.intro @mMake_ap (And.intro @sFldS_ap (And.intro @fsK0_ap (And.intro @iEnum_ap (And.intro @enumK_tup (And.intro @iZip_ap (And.intro @zipK_tup (And.intro @chK1_ap (And.intro @chK2_ap (And.intro @chK3_t (And.intro @chK3_f (And.intro @chK4_ap (And.intro @sPar3_ap (And.intro @par3K_ap (And.intro @sRaise_ap (And.intro @frzF_run (And.intro @frzF_n (And.intro @dIdxA_tup (And.intro @dIdxA_lst (And.intro @tkey2 (And.intro @isi_int_int (And.intro @isi_str_str (And.intro @sWhile_ap (And.intro @dNe_same (And.intro @rg1K_nat (And.intro @mLenO_ap (And.intro @mRg1_ap (And.intro @mRg2_ap (And.intro @rgK2a_ap (And.intro @mCmpO_ap (And.intro @cmpOK1_ap (And.intro @mIsiO_ap (True.intro))))))))))))))))))))))))))))))))))))))))))))))))))
end G
end
section
open PySem L2 G
namespace Q
open PySem L2 G P
def evSVG2_0 := And.intro @raiK_2 (And.intro @sTry1_ap (And.intro @tryK_ok (And.intro @sSeqN_ap (And.intro @seqNK_nx (And.intro @mMakeD_ap (And.intro @dEqE_nil (And.intro @dEqE_cons (True.intro))))))))
end Q
end
section
open PySem L2 G
namespace Q
open PySem L2 G P
def evSVG3_0 := And.intro @cvS_0 (And.intro @cvS_1 (True.intro))
end Q
end
section
open PySem L2 G
namespace Q
open PySem L2 G P
def evSVG4_0 := And.intro @sNPutS_ap (And.intro @npK1_ap (And.intro @npK2_ap (And.intro @mNNew_ap (And.intro @mSortSc_ap (And.intro @scK1_ap (And.intro @gTL_ap (True.intro)))))))
end Q
end
section
open PySem L2 G
namespace Q
open PySem L2 G P
def evSVG5_0 := And.intro @mPop_ap (And.intro @popK_ref (And.intro @sTryG_ap (And.intro @tryGK_ok (And.intro @mGetO_ap (And.intro @goK1_ap (And.intro @mStrO_ap (And.intro @mCmpA_ap (And.intro @cmpAK1_ap (True.intro)))))))))
end Q
end
section
open PySem L2 G
namespace Q
open PySem L2 G P
def evSVG6_0 := And.intro @iRg3_ap (And.intro @mTupO_ap (And.intro @tupOK1_ap (True.intro)))
end Q
end
section
open PySem L2 G
namespace Q
open PySem L2 G P
def evSVG7_0 := And.intro @dAddK_int (And.intro @dAddK_tup (True.intro))
end Q
end
section
namespace P
open PySem L2 G
noncomputable def ms_law_deck_v2 : MS :=
    (sSeq (sPar 1 2 (aCons (mC (.int 0)) (aCons (mOp dAdd (mC (.int 11227)) (mOp dMul (mC (.int 37)) (mCB dLen (aCons (mVar 0) aNil)))) aNil)))
    (sSeq (sFor (iSeq (mSl (mVar 0) oNone (oSome (mC (.int 63))))) (gN 3)
    (sIf (mTest (mOp dGe0 (mVar 3) (mOp dPow (mC (.int 10)) (mC (.int 18))))) (sAsg (mOp dSub (mOp dAdd (mOp dMul (mVar 1) (mC (.int 43))) (mVar 3)) (mOp dPow (mC (.int 10)) (mC (.int 18)))) (gN 1)) (sSeq (sAsg (mOp dAdd (mOp dMul (mVar 2) (mC (.int 3202034522624059733))) (mOp dMul (mC (.int 2)) (mCB dAbs (aCons (mVar 3) aNil)))) (gN 4))
    (sAsg (mOp dMod (mCB dInt (aCons (mOp dAdd (mVar 4) (mCB dInt (aCons (mOp dLt (mVar 3) (mC (.int 0))) aNil))) aNil)) (mC (.int 2305843009213693951))) (gN 2)))))
    (sRet (mNew (aCons (mVar 1) (aCons (mVar 2) (aCons (mC (.int 0)) aNil)))))))
noncomputable def fn_law_deck_v2 : Fn := (fnB 1 5 ms_law_deck_v2)
theorem n_law_deck_v2 : fn_law_deck_v2.n = 1 := Nat.le_antisymm (Nat.le_refl _) (Nat.le_refl _)
noncomputable def ms_law_take_v2 : MS :=
    (sSeq (sIf (mTest (mOp dGt0 (mOp dIdxA (mVar 0) (mC (.int 0))) (mC (.int 0)))) (sSeq (sAsg (mOp dMod (mCB dInt (aCons (mOp dIdxA (mVar 0) (mC (.int 0))) aNil)) (mVar 1)) (gN 2))
    (sSeq (sIx (mVar 0) (mC (.int 0)) (mOp dDiv (mOp dIdxA (mVar 0) (mC (.int 0))) (mVar 1)))
    (sRet (mVar 2)))) sNil)
    (sSeq (sIx (mVar 0) (mC (.int 2)) (mOp dAdd (mOp dIdxA (mVar 0) (mC (.int 2))) (mC (.int 1))))
    (sSeq (sAsg (mOp dAdd (mOp dMul (mOp dIdxA (mVar 0) (mC (.int 1))) (mC (.int 3202034522624059733))) (mOp dMul (mC (.int 1181783497276652981)) (mOp dIdxA (mVar 0) (mC (.int 2))))) (gN 3))
    (sSeq (sIx (mVar 0) (mC (.int 1)) (mOp dMod (mCB dInt (aCons (mVar 3) aNil)) (mC (.int 2305843009213693951))))
    (sRet (mOp dMod (mOp dDiv (mOp dMod (mCB dInt (aCons (mOp dMul (mOp dIdxA (mVar 0) (mC (.int 1))) (mOp dIdxA (mVar 0) (mC (.int 1)))) aNil)) (mC (.int 2305843009213693921))) (mC (.int 4096))) (mVar 1)))))))
noncomputable def fn_law_take_v2 : Fn := dropF (fnB 2 4 ms_law_take_v2)
theorem n_law_take_v2 : fn_law_take_v2.n = 2 := Nat.le_antisymm (Nat.le_refl _) (Nat.le_refl _)
noncomputable def ms_law_pick : MS :=
    (sRet (mOp dIdxA (mVar 1) (mCall fn_law_take_v2 (aCons (mVar 0) (aCons (mCB dLen (aCons (mVar 1) aNil)) aNil)))))
noncomputable def fn_law_pick : Fn := dropF (fnB 2 2 ms_law_pick)
theorem n_law_pick : fn_law_pick.n = 2 := Nat.le_antisymm (Nat.le_refl _) (Nat.le_refl _)
noncomputable def ms_law_odd_v2 : MS :=
    (sSeq (sAsg (mLst (aCons (mC .non) (aCons (mC (.bl true)) (aCons (mC (.bl false)) (aCons (mC (.int 0)) (aCons (mC (.int 1)) (aCons (mC (.int 3)) (aCons (mUn dNeg (mC (.int 1))) (aCons (mOp dPow (mC (.int 10)) (mC (.int 40))) (aCons (mC (.str "")) (aCons (mC (.str "0")) (aCons (mC (.str "0.0")) (aCons (mC (.str "owner")) (aCons (mTup aNil) (aCons (mTup (aCons (mC (.int 0)) aNil)) (aCons (mTup (aCons (mC (.int 0)) (aCons (mC (.int 0)) aNil))) (aCons (mTup (aCons (mC (.int 0)) (aCons (mC (.bl true)) aNil))) (aCons (mTup (aCons (mC (.bl false)) (aCons (mC (.int 0)) aNil))) aNil)))))))))))))))))) (gN 1))
    (sSeq (sAsg (mOp dAdd (mVar 1) (mLst (aCons (mTup (aCons (mC (.int 9)) (aCons (mC (.int 9)) aNil))) (aCons (mTup (aCons (mUn dNeg (mC (.int 1))) (aCons (mC (.int 0)) aNil))) (aCons (mLst (aCons (mC (.int 0)) (aCons (mC (.int 0)) aNil))) (aCons (mLst aNil) (aCons mDEmp (aCons (mDispD ["0"] (aCons (mC (.int 0)) aNil)) (aCons (mTup (aCons (mTup (aCons (mC (.int 0)) (aCons (mC (.int 0)) aNil))) aNil)) (aCons (mTup (aCons (mTup (aCons (mC (.int 0)) (aCons (mC (.int 0)) aNil))) (aCons (mTup (aCons (mC (.str "owner")) aNil)) aNil))) (aCons (mTup (aCons (mTup (aCons (mC (.int 0)) (aCons (mC (.int 0)) aNil))) (aCons (mTup (aCons (mC (.str "owner")) (aCons (mC (.int 99)) aNil))) aNil))) (aCons (mTup (aCons (mLst (aCons (mC (.int 0)) aNil)) (aCons (mC (.int 0)) aNil))) aNil)))))))))))) (gN 1))
    (sRet (mCall fn_law_pick (aCons (mVar 0) (aCons (mOp dAdd (mVar 1) (mLst (aCons (mTup (aCons (mTup (aCons (mC (.int 0)) (aCons (mC (.int 0)) aNil))) (aCons (mLst (aCons (mC (.str "owner")) (aCons (mC (.int 0)) aNil))) aNil))) (aCons (mTup (aCons (mTup (aCons (mC (.int 0)) (aCons (mC (.int 0)) aNil))) (aCons (mTup (aCons (mC (.str "role")) (aCons (mC (.int 0)) aNil))) aNil))) (aCons (mTup (aCons (mTup (aCons (mC (.int 0)) (aCons (mC (.int 0)) aNil))) (aCons (mTup (aCons (mC (.str "both")) (aCons (mTup (aCons (mC (.int 0)) (aCons (mC (.int 0)) aNil))) (aCons (mTup (aCons (mC (.int 0)) (aCons (mC (.int 0)) aNil))) aNil)))) aNil))) (aCons (mTup (aCons (mTup (aCons (mC (.str "a")) aNil)) aNil)) aNil)))))) aNil))))))
noncomputable def fn_law_odd_v2 : Fn := dropF (fnB 1 2 ms_law_odd_v2)
theorem n_law_odd_v2 : fn_law_odd_v2.n = 1 := Nat.le_antisymm (Nat.le_refl _) (Nat.le_refl _)
noncomputable def ms_law_role_v2 : MS :=
    (sRet (mTup (aCons (mCall fn_law_take_v2 (aCons (mVar 0) (aCons (mVar 1) aNil))) (aCons (mCall fn_law_take_v2 (aCons (mVar 0) (aCons (mVar 2) aNil))) aNil))))
noncomputable def fn_law_role_v2 : Fn := dropF (fnB 3 3 ms_law_role_v2)
theorem n_law_role_v2 : fn_law_role_v2.n = 3 := Nat.le_antisymm (Nat.le_refl _) (Nat.le_refl _)
noncomputable def ms_law_grant : MS :=
    (sSeq (sPar 3 4 (aCons (mCall fn_law_role_v2 (aCons (mVar 0) (aCons (mVar 1) (aCons (mVar 2) aNil)))) (aCons (mCall fn_law_role_v2 (aCons (mVar 0) (aCons (mVar 1) (aCons (mVar 2) aNil)))) aNil)))
    (sSeq (sAsg (mCall fn_law_take_v2 (aCons (mVar 0) (aCons (mC (.int 8)) aNil))) (gN 5))
    (sSeq (sIf (mTest (mOp dLt (mVar 5) (mC (.int 3)))) (sRet (mTup (aCons (mVar 3) (aCons (mTup (aCons (mC (.str "owner")) (aCons (mCall fn_law_take_v2 (aCons (mVar 0) (aCons (mVar 1) aNil))) aNil))) aNil)))) sNil)
    (sSeq (sIf (mTest (mOp dLt (mVar 5) (mC (.int 5)))) (sRet (mTup (aCons (mVar 3) (aCons (mTup (aCons (mC (.str "role")) (aCons (mVar 4) aNil))) aNil)))) sNil)
    (sSeq (sIf (mTest (mOp dLt (mVar 5) (mC (.int 7)))) (sRet (mTup (aCons (mVar 3) (aCons (mTup (aCons (mC (.str "through")) (aCons (mVar 4) (aCons (mCall fn_law_take_v2 (aCons (mVar 0) (aCons (mVar 2) aNil))) aNil)))) aNil)))) sNil)
    (sSeq (sAsg (mCall fn_law_role_v2 (aCons (mVar 0) (aCons (mVar 1) (aCons (mVar 2) aNil)))) (gN 6))
    (sSeq (sIf (mTest (mOp dEq (mVar 4) (mVar 6))) (sRet (mTup (aCons (mVar 3) (aCons (mTup (aCons (mC (.str "role")) (aCons (mVar 4) aNil))) aNil)))) sNil)
    (sRet (mTup (aCons (mVar 3) (aCons (mTup (aCons (mC (.str "both")) (aCons (mCB dMin2 (aCons (mVar 4) (aCons (mVar 6) aNil))) (aCons (mCB dMax2 (aCons (mVar 4) (aCons (mVar 6) aNil))) aNil)))) aNil)))))))))))
noncomputable def fn_law_grant : Fn := dropF (fnB 3 7 ms_law_grant)
theorem n_law_grant : fn_law_grant.n = 3 := Nat.le_antisymm (Nat.le_refl _) (Nat.le_refl _)
noncomputable def ms_words_of : MS :=
    (sRet (mLc (iSeq (mBMs dSplit (mVar 0) (aCons (mC (.str " ")) aNil))) (gN 1) (mTest (mOp dNe (mVar 1) (mC (.str "")))) (mVar 1) [1]))
noncomputable def fn_words_of : Fn := dropF (fnB 1 2 ms_words_of)
theorem n_words_of : fn_words_of.n = 1 := Nat.le_antisymm (Nat.le_refl _) (Nat.le_refl _)
noncomputable def ms_numbers_in : MS :=
    (sSeq (sAsg (mBMs dSplit (mVar 0) (aCons (mC (.str ".")) aNil)) (gN 2))
    (sSeq (sIf (mOr (mTest (mOp dNe (mCB dLen (aCons (mVar 2) aNil)) (mVar 1))) (mNot (mTest (mCB dAll (aCons (mLc (iSeq (mVar 2)) (gN 3) tYesM (mAndV (mOp dEq (mCB dLen (aCons (mVar 3) aNil)) (mC (.int 1))) (mOp dIn (mVar 3) (mC (.str "0123456789")))) [3]) aNil))))) (sRet (mC .non)) sNil)
    (sRet (mCB dTuple (aCons (mLc (iSeq (mVar 2)) (gN 3) tYesM (mCB dInt (aCons (mVar 3) aNil)) [3]) aNil)))))
noncomputable def fn_numbers_in : Fn := dropF (fnB 2 4 ms_numbers_in)
theorem n_numbers_in : fn_numbers_in.n = 2 := Nat.le_antisymm (Nat.le_refl _) (Nat.le_refl _)
noncomputable def ms_check_words : MS :=
    (sIf (mOr (mTest (mOp dGe0 (mVar 2) (mCB dLen (aCons (mVar 0) aNil)))) (mTest (mOp dGt0 (mCB dLen (aCons (mVar 0) aNil)) (mVar 3)))) (sRaise 15 ["number", "line"] (aCons (mVar 1) (aCons (mCB dMin2 (aCons (mCB dLen (aCons (mVar 0) aNil)) (aCons (mVar 3) aNil))) aNil))) sNil)
noncomputable def fn_check_words : Fn := dropF (fnB 4 4 ms_check_words)
theorem n_check_words : fn_check_words.n = 4 := Nat.le_antisymm (Nat.le_refl _) (Nat.le_refl _)
noncomputable def ms_body_in : MS :=
    (sSeq (sAsg (mOp dIdxA (mVar 0) (mC (.int 2))) (gN 2))
    (sSeq (sFor (iSeq (mLst (aCons (mTup (aCons (mC (.int 1)) (aCons (mC (.str "owner")) aNil))) (aCons (mTup (aCons (mC (.int 3)) (aCons (mC (.str "through")) aNil))) aNil)))) (gT 2 (gsCons (gN 3) (gsCons (gN 4) gsNil)))
    (sSeq (sAsg (mCall fn_numbers_in (aCons (mVar 2) (aCons (mVar 3) aNil))) (gN 5))
    (sIf (mTest (mOp dIsNot (mVar 5) (mC .non))) (sSeq (sDrop (mCall fn_check_words (aCons (mVar 0) (aCons (mVar 1) (aCons (mC (.int 2)) (aCons (mC (.int 3)) aNil))))))
    (sRet (mIf (mTest (mOp dEq (mVar 4) (mC (.str "owner")))) (mTup (aCons (mC (.str "owner")) (aCons (mOp dIdxA (mVar 5) (mC (.int 0))) aNil))) (mTup (aCons (mC (.str "through")) (aCons (mSl (mVar 5) oNone (oSome (mC (.int 2)))) (aCons (mOp dIdxA (mVar 5) (mC (.int 2))) aNil))))))) sNil)))
    (sSeq (sAsg (mCall fn_numbers_in (aCons (mVar 2) (aCons (mC (.int 2)) aNil))) (gN 6))
    (sSeq (sIf (mTest (mOp dIs (mVar 6) (mC .non))) (sRaise 15 ["number", "line"] (aCons (mVar 1) (aCons (mC (.int 2)) aNil))) sNil)
    (sSeq (sIf (mTest (mOp dEq (mCB dLen (aCons (mVar 0) aNil)) (mC (.int 3)))) (sRet (mTup (aCons (mC (.str "role")) (aCons (mVar 6) aNil)))) sNil)
    (sSeq (sIf (mTest (mOp dNe (mOp dIdxA (mVar 0) (mC (.int 3))) (mC (.str "&")))) (sRaise 15 ["number", "line"] (aCons (mVar 1) (aCons (mC (.int 3)) aNil))) sNil)
    (sSeq (sDrop (mCall fn_check_words (aCons (mVar 0) (aCons (mVar 1) (aCons (mC (.int 4)) (aCons (mC (.int 99999)) aNil))))))
    (sSeq (sAsg (mCall fn_numbers_in (aCons (mOp dIdxA (mVar 0) (mC (.int 4))) (aCons (mC (.int 2)) aNil))) (gN 7))
    (sSeq (sIf (mTest (mOp dIs (mVar 7) (mC .non))) (sRaise 15 ["number", "line"] (aCons (mVar 1) (aCons (mC (.int 4)) aNil))) sNil)
    (sSeq (sDrop (mCall fn_check_words (aCons (mVar 0) (aCons (mVar 1) (aCons (mC (.int 4)) (aCons (mC (.int 5)) aNil))))))
    (sRet (mTup (aCons (mC (.str "both")) (aCons (mVar 6) (aCons (mVar 7) aNil)))))))))))))))
noncomputable def fn_body_in : Fn := dropF (fnB 2 8 ms_body_in)
theorem n_body_in : fn_body_in.n = 2 := Nat.le_antisymm (Nat.le_refl _) (Nat.le_refl _)
noncomputable def ms_grant_in : MS :=
    (sSeq (sDrop (mCall fn_check_words (aCons (mVar 0) (aCons (mVar 1) (aCons (mC (.int 0)) (aCons (mC (.int 99999)) aNil))))))
    (sSeq (sAsg (mCall fn_numbers_in (aCons (mOp dIdxA (mVar 0) (mC (.int 0))) (aCons (mC (.int 2)) aNil))) (gN 2))
    (sSeq (sIf (mTest (mOp dIs (mVar 2) (mC .non))) (sRaise 15 ["number", "line"] (aCons (mVar 1) (aCons (mC (.int 0)) aNil))) sNil)
    (sSeq (sDrop (mCall fn_check_words (aCons (mVar 0) (aCons (mVar 1) (aCons (mC (.int 1)) (aCons (mC (.int 99999)) aNil))))))
    (sSeq (sIf (mTest (mOp dNe (mOp dIdxA (mVar 0) (mC (.int 1))) (mC (.str "<")))) (sRaise 15 ["number", "line"] (aCons (mVar 1) (aCons (mC (.int 1)) aNil))) sNil)
    (sSeq (sDrop (mCall fn_check_words (aCons (mVar 0) (aCons (mVar 1) (aCons (mC (.int 2)) (aCons (mC (.int 99999)) aNil))))))
    (sRet (mTup (aCons (mVar 2) (aCons (mCall fn_body_in (aCons (mVar 0) (aCons (mVar 1) aNil))) aNil))))))))))
noncomputable def fn_grant_in : Fn := dropF (fnB 2 3 ms_grant_in)
theorem n_grant_in : fn_grant_in.n = 2 := Nat.le_antisymm (Nat.le_refl _) (Nat.le_refl _)
noncomputable def ms_read_grant : MS :=
    (sSeq (sIf (mNot (mTest (mCB dIsi (aCons (mVar 0) (aCons (mC (.ty "str")) aNil))))) (sRaise 15 ["number", "line"] (aCons (mC .non) (aCons (mC .non) aNil))) sNil)
    (sRet (mCall fn_grant_in (aCons (mCall fn_words_of (aCons (mVar 0) aNil)) (aCons (mC (.int 0)) aNil)))))
noncomputable def fn_read_grant : Fn := dropF (fnB 1 1 ms_read_grant)
theorem n_read_grant : fn_read_grant.n = 1 := Nat.le_antisymm (Nat.le_refl _) (Nat.le_refl _)
noncomputable def ms_law_role_text : MS :=
    (sRet (mOp dAdd (mOp dAdd (mCB dStr (aCons (mOp dIdxA (mVar 0) (mC (.int 0))) aNil)) (mC (.str "."))) (mCB dStr (aCons (mOp dIdxA (mVar 0) (mC (.int 1))) aNil))))
noncomputable def fn_law_role_text : Fn := dropF (fnB 1 1 ms_law_role_text)
theorem n_law_role_text : fn_law_role_text.n = 1 := Nat.le_antisymm (Nat.le_refl _) (Nat.le_refl _)
noncomputable def ms_law_grant_text : MS :=
    (sSeq (sAsg (mVar 0) (gT 2 (gsCons (gN 1) (gsCons (gN 2) gsNil))))
    (sSeq (sAsg (mOp dAdd (mCall fn_law_role_text (aCons (mVar 1) aNil)) (mC (.str " < "))) (gN 3))
    (sSeq (sIf (mTest (mOp dEq (mOp dIdxA (mVar 2) (mC (.int 0))) (mC (.str "owner")))) (sRet (mOp dAdd (mVar 3) (mCB dStr (aCons (mOp dIdxA (mVar 2) (mC (.int 1))) aNil)))) sNil)
    (sSeq (sIf (mTest (mOp dEq (mOp dIdxA (mVar 2) (mC (.int 0))) (mC (.str "role")))) (sRet (mOp dAdd (mVar 3) (mCall fn_law_role_text (aCons (mOp dIdxA (mVar 2) (mC (.int 1))) aNil)))) sNil)
    (sSeq (sIf (mTest (mOp dEq (mOp dIdxA (mVar 2) (mC (.int 0))) (mC (.str "through")))) (sRet (mOp dAdd (mOp dAdd (mOp dAdd (mVar 3) (mCall fn_law_role_text (aCons (mOp dIdxA (mVar 2) (mC (.int 1))) aNil))) (mC (.str "."))) (mCB dStr (aCons (mOp dIdxA (mVar 2) (mC (.int 2))) aNil)))) sNil)
    (sRet (mOp dAdd (mOp dAdd (mOp dAdd (mVar 3) (mCall fn_law_role_text (aCons (mOp dIdxA (mVar 2) (mC (.int 1))) aNil))) (mC (.str " & "))) (mCall fn_law_role_text (aCons (mOp dIdxA (mVar 2) (mC (.int 2))) aNil)))))))))
noncomputable def fn_law_grant_text : Fn := dropF (fnB 1 4 ms_law_grant_text)
theorem n_law_grant_text : fn_law_grant_text.n = 1 := Nat.le_antisymm (Nat.le_refl _) (Nat.le_refl _)
noncomputable def ms_law_numbersx : MS :=
    (sSeq (sIf (mTest (mOp dNe (mCB dLen (aCons (mVar 0) aNil)) (mOp dSub (mOp dMul (mC (.int 2)) (mVar 1)) (mC (.int 1))))) (sRet (mC .non)) sNil)
    (sSeq (sFor (iEnumS (mVar 0)) (gT 2 (gsCons (gN 2) (gsCons (gN 3) gsNil)))
    (sIf (mTest (mOp dNotIn (mVar 3) (mOp dIdxA (mTup (aCons (mC (.str ".")) (aCons (mC (.str "0123456789")) aNil))) (mCB dInt (aCons (mOp dEq (mOp dMod (mVar 2) (mC (.int 2))) (mC (.int 0))) aNil))))) (sRet (mC .non)) sNil))
    (sRet (mCB dTuple (aCons (mLc (iRg1 (aCons (mVar 1) aNil)) (gN 2) tYesM (mCB dInt (aCons (mOp dIdxA (mVar 0) (mOp dMul (mC (.int 2)) (mVar 2))) aNil)) [2]) aNil)))))
noncomputable def fn_law_numbersx : Fn := dropF (fnB 2 4 ms_law_numbersx)
theorem n_law_numbersx : fn_law_numbersx.n = 2 := Nat.le_antisymm (Nat.le_refl _) (Nat.le_refl _)
noncomputable def ms_law_read_grantx : MS :=
    (sSeq (sAsg (mIf (mTest (mOp dNeL (mVar 0) (mLst aNil))) (mCall fn_law_numbersx (aCons (mOp dIdxA (mVar 0) (mC (.int 0))) (aCons (mC (.int 2)) aNil))) (mC .non)) (gN 1))
    (sSeq (sIf (mTest (mOp dIs (mVar 1) (mC .non))) (sRet (mC (.int 0))) sNil)
    (sSeq (sIf (mOr (mTest (mOp dLt (mCB dLen (aCons (mVar 0) aNil)) (mC (.int 2)))) (mTest (mOp dNe (mOp dIdxA (mVar 0) (mC (.int 1))) (mC (.str "<"))))) (sRet (mC (.int 1))) sNil)
    (sSeq (sIf (mTest (mOp dLt (mCB dLen (aCons (mVar 0) aNil)) (mC (.int 3)))) (sRet (mC (.int 2))) sNil)
    (sSeq (sAsg (mLc (iSeq (mTup (aCons (mC (.int 1)) (aCons (mC (.int 2)) (aCons (mC (.int 3)) aNil))))) (gN 6) tYesM (mCall fn_law_numbersx (aCons (mOp dIdxA (mVar 0) (mC (.int 2))) (aCons (mVar 6) aNil))) [6]) (gTL 3 (gsCons (gN 2) (gsCons (gN 3) (gsCons (gN 4) gsNil)))))
    (sSeq (sIf (mAnd (mTest (mOp dIs (mVar 2) (mC .non))) (mAnd (mTest (mOp dIs (mVar 3) (mC .non))) (mTest (mOp dIs (mVar 4) (mC .non))))) (sRet (mC (.int 2))) sNil)
    (sSeq (sIf (mOr (mTest (mOp dIs (mVar 3) (mC .non))) (mTest (mOp dEq (mCB dLen (aCons (mVar 0) aNil)) (mC (.int 3))))) (sSeq (sIf (mTest (mOp dGt0 (mCB dLen (aCons (mVar 0) aNil)) (mC (.int 3)))) (sRet (mC (.int 3))) sNil)
    (sSeq (sIf (mTest (mOp dIsNot (mVar 2) (mC .non))) (sRet (mTup (aCons (mVar 1) (aCons (mTup (aCons (mC (.str "owner")) (aCons (mOp dIdxA (mVar 2) (mC (.int 0))) aNil))) aNil)))) sNil)
    (sRet (mTup (aCons (mVar 1) (aCons (mIf (mTest (mOp dIsNot (mVar 3) (mC .non))) (mTup (aCons (mC (.str "role")) (aCons (mVar 3) aNil))) (mTup (aCons (mC (.str "through")) (aCons (mSl (mVar 4) oNone (oSome (mC (.int 2)))) (aCons (mOp dIdxA (mVar 4) (mC (.int 2))) aNil))))) aNil)))))) sNil)
    (sSeq (sIf (mTest (mOp dNe (mOp dIdxA (mVar 0) (mC (.int 3))) (mC (.str "&")))) (sRet (mC (.int 3))) sNil)
    (sSeq (sAsg (mIf (mTest (mOp dGt0 (mCB dLen (aCons (mVar 0) aNil)) (mC (.int 4)))) (mCall fn_law_numbersx (aCons (mOp dIdxA (mVar 0) (mC (.int 4))) (aCons (mC (.int 2)) aNil))) (mC .non)) (gN 5))
    (sSeq (sIf (mTest (mOp dIs (mVar 5) (mC .non))) (sRet (mC (.int 4))) sNil)
    (sRet (mIf (mTest (mOp dGt0 (mCB dLen (aCons (mVar 0) aNil)) (mC (.int 5)))) (mC (.int 5)) (mTup (aCons (mVar 1) (aCons (mTup (aCons (mC (.str "both")) (aCons (mVar 3) (aCons (mVar 5) aNil)))) aNil)))))))))))))))
noncomputable def fn_law_read_grantx : Fn := dropF (fnB 1 7 ms_law_read_grantx)
theorem n_law_read_grantx : fn_law_read_grantx.n = 1 := Nat.le_antisymm (Nat.le_refl _) (Nat.le_refl _)
noncomputable def ms_law_words : MS :=
    (sRet (mLc (iSeq (mBMs dSplit (mVar 0) (aCons (mC (.str " ")) aNil))) (gN 1) (mTest (mOp dNe (mVar 1) (mC (.str "")))) (mVar 1) [1]))
noncomputable def fn_law_words : Fn := dropF (fnB 1 2 ms_law_words)
theorem n_law_words : fn_law_words.n = 1 := Nat.le_antisymm (Nat.le_refl _) (Nat.le_refl _)
noncomputable def ms_law_torn : MS :=
    (sSeq (sPar 2 3 (aCons (mCall fn_law_take_v2 (aCons (mVar 0) (aCons (mOp dAdd (mCB dLen (aCons (mVar 1) aNil)) (mC (.int 1))) aNil))) (aCons (mCall fn_law_pick (aCons (mVar 0) (aCons (mLst (aCons (mC (.str "0")) (aCons (mC (.str "9")) (aCons (mC (.str " ")) (aCons (mC (.str ".")) (aCons (mC (.str "<")) (aCons (mC (.str "&")) (aCons (mC (.str "-")) (aCons (mC (.str "\n")) (aCons (mC (.str "x")) (aCons (mC (.str "owners")) (aCons (mC (.str " 0.0")) aNil)))))))))))) aNil))) aNil)))
    (sSeq (sAsg (mLst (aCons (mOp dAdd (mOp dAdd (mSl (mVar 1) oNone (oSome (mVar 2))) (mVar 3)) (mSl (mVar 1) (oSome (mVar 2)) oNone)) (aCons (mOp dAdd (mOp dAdd (mSl (mVar 1) oNone (oSome (mVar 2))) (mVar 3)) (mSl (mVar 1) (oSome (mOp dAdd (mVar 2) (mC (.int 1)))) oNone)) (aCons (mSl (mVar 1) oNone (oSome (mVar 2))) (aCons (mOp dAdd (mVar 1) (mC (.str " "))) (aCons (mOp dAdd (mC (.str " ")) (mVar 1)) (aCons (mSl (mVar 1) (oSome (mVar 2)) oNone) aNil))))))) (gN 4))
    (sRet (mCall fn_law_pick (aCons (mVar 0) (aCons (mOp dAdd (mVar 4) (mLst (aCons (mUn (dRepl " " "  ") (mVar 1)) (aCons (mOp dAdd (mVar 1) (mC (.str " 1"))) (aCons (mUn dUp (mVar 1)) (aCons (mOp dAdd (mVar 1) (mC (.str "\n"))) (aCons (mUn (dRepl "<" "=") (mVar 1)) aNil))))))) aNil))))))
noncomputable def fn_law_torn : Fn := dropF (fnB 2 5 ms_law_torn)
theorem n_law_torn : fn_law_torn.n = 2 := Nat.le_antisymm (Nat.le_refl _) (Nat.le_refl _)
noncomputable def ms_law_told_v8 : MS :=
    (sTry1 [15] 15 1 (sRet (mLst (aCons (mC (.str "ok")) (aCons (mCall fn_read_grant (aCons (mVar 0) aNil)) aNil)))) (xRet (xLst (xCons (xC (.str "text")) (xCons (xF "line") (xCons (xF "number") xNil))))))
noncomputable def fn_law_told_v8 : Fn := dropF (fnB 1 2 ms_law_told_v8)
theorem n_law_told_v8 : fn_law_told_v8.n = 1 := Nat.le_antisymm (Nat.le_refl _) (Nat.le_refl _)
noncomputable def ms_law_k51 : MS :=
    (sSeq (sAsg (mCall fn_law_deck_v2 (aCons (mVar 0) aNil)) (gN 1))
    (sSeq (sFor (iRg1 (aCons (mC (.int 16)) aNil)) (gN 2)
    (sSeq (sAsg (mCall fn_law_grant_text (aCons (mCall fn_law_grant (aCons (mVar 1) (aCons (mC (.int 4)) (aCons (mC (.int 3)) aNil)))) aNil)) (gN 3))
    (sSeq (sAsg (mBMs dSplit (mVar 3) (aCons (mC (.str " ")) aNil)) (gN 4))
    (sSeq (sAsg (mCall fn_law_take_v2 (aCons (mVar 1) (aCons (mCB dLen (aCons (mVar 4) aNil)) aNil))) (gN 5))
    (sSeq (sAsg (mCall fn_law_pick (aCons (mVar 1) (aCons (mLst (aCons (mC (.str "0")) (aCons (mC (.str "0.0")) (aCons (mC (.str "0.0.0")) (aCons (mC (.str "<")) (aCons (mC (.str "&")) (aCons (mC (.str "a")) (aCons (mC (.str "10")) (aCons (mC (.str "0.10")) (aCons (mC (.str ".0")) (aCons (mC (.str "0.")) (aCons (mC (.str "0..0")) (aCons (mC (.str "-1")) (aCons (mC (.str "00")) (aCons (mC (.str "0.0.0.0")) (aCons (mC (.str "\n")) aNil)))))))))))))))) aNil))) (gN 6))
    (sSeq (sAsg (mLst (aCons (mVar 3) (aCons (mCall fn_law_torn (aCons (mVar 1) (aCons (mVar 3) aNil))) (aCons (mCall fn_law_torn (aCons (mVar 1) (aCons (mCall fn_law_torn (aCons (mVar 1) (aCons (mVar 3) aNil))) aNil))) (aCons (mBMs dJoin (mC (.str " ")) (aCons (mSl (mVar 4) oNone (oSome (mVar 5))) aNil)) aNil))))) (gN 7))
    (sSeq (sAsg (mOp dAdd (mVar 7) (mLst (aCons (mBMs dJoin (mC (.str " ")) (aCons (mOp dAdd (mOp dAdd (mSl (mVar 4) oNone (oSome (mVar 5))) (mLst (aCons (mVar 6) aNil))) (mSl (mVar 4) (oSome (mVar 5)) oNone)) aNil)) (aCons (mBMs dJoin (mC (.str " ")) (aCons (mOp dAdd (mOp dAdd (mSl (mVar 4) oNone (oSome (mVar 5))) (mLst (aCons (mVar 6) aNil))) (mSl (mVar 4) (oSome (mOp dAdd (mVar 5) (mC (.int 1)))) oNone)) aNil)) (aCons (mOp dAdd (mOp dAdd (mVar 3) (mC (.str " "))) (mVar 6)) aNil))))) (gN 7))
    (sSeq (sAsg (mLst (aCons (mOp dAdd (mVar 3) (mOp dMulS (mC (.str " 0.0")) (mC (.int 120)))) (aCons (mOp dAdd (mOp dAdd (mVar 3) (mOp dMulS (mC (.str " 0")) (mC (.int 98)))) (mC (.str " x"))) (aCons (mOp dAdd (mC (.str "0.0 < 0.0 & 0.0")) (mOp dMulS (mC (.str " 1.1")) (mC (.int 120)))) (aCons (mOp dAdd (mC (.str "0.0 <")) (mOp dMulS (mC (.str " x")) (mC (.int 120)))) (aCons (mOp dMulS (mC (.str "x ")) (mC (.int 130))) aNil)))))) (gN 8))
    (sSeq (sFor (iSeq (mOp dAdd (mOp dAdd (mVar 7) (mVar 8)) (mLst (aCons (mC (.str "")) (aCons (mC (.str "  ")) (aCons (mC (.str "0.0 < 0.0 & 0.0")) (aCons (mC (.str "0.0 < 0.0 &")) (aCons (mC (.str "0.0 < 0 & 0.0")) (aCons (mC (.str "0.0 < 0.0 0.0")) aNil))))))))) (gN 9)
    (sSeq (sAsg (mCall fn_law_read_grantx (aCons (mCall fn_law_words (aCons (mVar 9) aNil)) aNil)) (gN 10))
    (sSeq (sAsg (mIf (mTest (mCB dIsi (aCons (mVar 10) (aCons (mC (.ty "int")) aNil)))) (mLst (aCons (mC (.str "text")) (aCons (mC (.int 0)) (aCons (mVar 10) aNil)))) (mLst (aCons (mC (.str "ok")) (aCons (mVar 10) aNil)))) (gN 11))
    (sIf (mTest (mOp dNe (mCB dReprZ (aCons (mLst (aCons (mCall fn_law_told_v8 (aCons (mVar 9) aNil)) (aCons (mCall fn_law_told_v8 (aCons (mVar 9) aNil)) aNil))) aNil)) (mCB dReprZ (aCons (mLst (aCons (mVar 11) (aCons (mVar 11) aNil))) aNil)))) (sRet (mC (.bl false))) sNil))))
    (sFor (iSeq (mLst (aCons (mC .non) (aCons (mC (.int 0)) (aCons (mC (.bl true)) (aCons (mVar 4) (aCons (mTup (aCons (mVar 3) aNil)) (aCons (mCall fn_law_odd_v2 (aCons (mVar 1) aNil)) aNil)))))))) (gN 9)
    (sIf (mAnd (mNot (mTest (mCB dIsi (aCons (mVar 9) (aCons (mC (.ty "str")) aNil))))) (mTest (mOp dNe (mCB dReprZ (aCons (mCall fn_law_told_v8 (aCons (mVar 9) aNil)) aNil)) (mCB dReprZ (aCons (mLst (aCons (mC (.str "text")) (aCons (mC .non) (aCons (mC .non) aNil)))) aNil))))) (sRet (mC (.bl false))) sNil)))))))))))
    (sRet (mC (.bl true)))))
noncomputable def fn_law_k51 : Fn := (fnB 1 12 ms_law_k51)
theorem n_law_k51 : fn_law_k51.n = 1 := Nat.le_antisymm (Nat.le_refl _) (Nat.le_refl _)
end P
namespace P
open PySem L2 G
def evN0 := And.intro @n_law_deck_v2 (And.intro @n_law_take_v2 (And.intro @n_law_pick (And.intro @n_law_odd_v2 (And.intro @n_law_role_v2 (And.intro @n_law_grant (And.intro @n_words_of (And.intro @n_numbers_in (And.intro @n_check_words (And.intro @n_body_in (And.intro @n_grant_in (And.intro @n_read_grant (And.intro @n_law_role_text (And.intro @n_law_grant_text (And.intro @n_law_numbersx (And.intro @n_law_read_grantx (And.intro @n_law_words (And.intro @n_law_torn (And.intro @n_law_told_v8 (And.intro @n_law_k51 (True.intro))))))))))))))))))))
end P
end
section
open PySem L2 G P
local macro_rules | `(tactic| walk_at "ev") => `(tactic| simp (config := { decide := false }) only [seval, G.evB0, G.evB1, G.evB2, G.evB3, G.evB4, List.getElem?_set_self, List.length_set, List.set_set, List.map_cons, List.map_nil, List.length_cons, List.length_nil, List.replicate, List.cons_append, List.nil_append, List.getElem?_cons_zero, List.getElem?_cons_succ, List.set_cons_zero, List.set_cons_succ, Option.map_some, Option.map_none, Option.bind_some, Bool.not_true, Bool.not_false, if_true, if_false, decide_true, decide_false, Bool.false_eq_true, true_and, and_true, false_and, and_false, List.foldl_cons, List.foldl_nil, List.all_cons, List.all_nil, id_eq, Bool.and_true, Bool.true_and, eq_self, Bool.or_true, Bool.true_or, Bool.or_false, Bool.false_or, G.isNon, G.startE, G.bls, G.wipeE, Q.evSVG2_0, Q.evSVG3_0, Q.evSVG4_0, Q.evSVG5_0, Q.evSVG6_0, Q.evSVG7_0, P.evN0, Option.some.injEq, List.cons.injEq, List.nil_eq])
local macro_rules | `(tactic| walk_at "evs") => `(tactic| simp (config := { decide := false }) only [seval, G.evB0, G.evB1, G.evB2, G.evB3, G.evB4, List.getElem?_set_self, List.length_set, List.set_set, List.map_cons, List.map_nil, List.length_cons, List.length_nil, List.replicate, List.cons_append, List.nil_append, List.getElem?_cons_zero, List.getElem?_cons_succ, List.set_cons_zero, List.set_cons_succ, Option.map_some, Option.map_none, Option.bind_some, Bool.not_true, Bool.not_false, if_true, if_false, decide_true, decide_false, Bool.false_eq_true, true_and, and_true, false_and, and_false, List.foldl_cons, List.foldl_nil, List.all_cons, List.all_nil, id_eq, Bool.and_true, Bool.true_and, eq_self, Bool.or_true, Bool.true_or, Bool.or_false, Bool.false_or, G.isNon, G.startE, G.bls, G.wipeE, Q.evSVG2_0, Q.evSVG3_0, Q.evSVG4_0, Q.evSVG5_0, Q.evSVG6_0, Q.evSVG7_0, P.evN0, Option.some.injEq, List.cons.injEq, List.nil_eq, *])
namespace Q
abbrev Rl := Nat × Nat
inductive Bd where
  | own (c : Nat) | rol (r : Rl) | thr (r : Rl) (l : Nat) | bot (r s : Rl)
  deriving DecidableEq
abbrev Gr := Rl × Bd
def rD (r : Rl) : D := .tup [.int r.1, .int r.2]
def Bd.d : Bd → D
  | .own c => .tup [.str "owner", .int c]
  | .rol r => .tup [.str "role", rD r]
  | .thr r l => .tup [.str "through", rD r, .int l]
  | .bot r s => .tup [.str "both", rD r, rD s]
def gD (g : Gr) : D := .tup [rD g.1, g.2.d]
theorem w_ro : (Str.ofString "role" = Str.ofString "owner") = False := by decide +kernel
theorem w_to : (Str.ofString "through" = Str.ofString "owner") = False := by decide +kernel
theorem w_tr : (Str.ofString "through" = Str.ofString "role") = False := by decide +kernel
theorem w_bo : (Str.ofString "both" = Str.ofString "owner") = False := by decide +kernel
theorem w_br : (Str.ofString "both" = Str.ofString "role") = False := by decide +kernel
theorem w_bt : (Str.ofString "both" = Str.ofString "through") = False := by decide +kernel
theorem ok_o : PyData.strOk (Str.ofString "owner") = true := by decide +kernel
theorem ok_r : PyData.strOk (Str.ofString "role") = true := by decide +kernel
theorem ok_t : PyData.strOk (Str.ofString "through") = true := by decide +kernel
theorem ok_b : PyData.strOk (Str.ofString "both") = true := by decide +kernel
def rK (r : Rl) : NK := .tup [.num r.1, .num r.2]
def Bd.k : Bd → NK
  | .own c => .tup [.text "owner", .num c]
  | .rol r => .tup [.text "role", rK r]
  | .thr r l => .tup [.text "through", rK r, .num l]
  | .bot r s => .tup [.text "both", rK r, rK s]
theorem nkDs_map {α : Type} (f : α → D) (k : α → NK) (h : ∀ a, nkD (f a) = some (k a)) : ∀ l : List α, nkDs (l.map f) = some (l.map k)
  | [] => rfl
  | a :: l => by simp only [List.map_cons, nkDs, h, nkDs_map f k h l]
theorem dOfs_mapK {α : Type} (f : α → D) (k : α → NK) (h : ∀ a, dOf (k a) = f a) (l : List α) : dOfs (l.map k) = l.map f := by
  rw [dOfs_map, List.map_map]
  exact List.map_congr_left fun a _ => h a
theorem rK_inj {r s : Rl} (h : rK r = rK s) : r = s := by
  unfold rK at h
  simp only [NestedKey.tup.injEq, List.cons.injEq, NestedKey.num.injEq, Int.ofNat_inj, and_true] at h
  exact Prod.ext h.1 h.2
mutual
theorem pLe_flip : ∀ p q : PyData, pLe p q = (pLt q p).map (!·)
  | .int i, q => by
    cases q <;> simp only [pLe, pLt, Option.map_some, Option.map_none]
    rename_i j
    congr 1
    by_cases h : i ≤ j
    · have : ¬ j < i := by omega
      simp [h, this]
    · have : j < i := by omega
      simp [h, this]
  | .str x, q => by cases q <;> simp only [pLe, pLt, Option.map_some, Option.map_none]
  | .tuple xs, q => by
    cases q <;> simp only [pLe, pLt, Option.map_none]
    exact pLes_flip _ _
  | .none, q => by cases q <;> simp only [pLe, pLt, Option.map_none]
  | .bool _, q => by cases q <;> simp only [pLe, pLt, Option.map_none]
  | .list _, q => by cases q <;> simp only [pLe, pLt, Option.map_none]
  | .dict _, q => by cases q <;> simp only [pLe, pLt, Option.map_none]
theorem pLes_flip : ∀ xs ys : List PyData, pLes xs ys = (pLts ys xs).map (!·)
  | [], [] => rfl
  | [], _ :: _ => rfl
  | _ :: _, [] => rfl
  | x :: xs, y :: ys => by
    simp only [pLes, pLts]
    rw [eqv_flip x y, pLes_flip xs ys, pLe_flip x y]
    split <;> rfl
end
theorem eqv_self_of (k : NK) : PyData.eqv k.data k.data = true := by
  rw [eqv_key]
  exact NestedKey.beq_self k
theorem pLts_self : ∀ ks : List NK, pLts (NestedKey.datas ks) (NestedKey.datas ks) = some false
  | [] => rfl
  | k :: ks => by
    simp only [NestedKey.datas, pLts]
    rw [if_pos (eqv_self_of k), pLts_self ks]
theorem pLt_self (ks : List NK) : pLt (NestedKey.tup ks).data (NestedKey.tup ks).data = some false := by
  simp only [NestedKey.data, pLt]
  exact pLts_self ks
theorem cmp_rK : ∀ a b : Rl, ∃ c, pLt (rK a).data (rK b).data = some c := fun a b => by
  unfold rK
  simp only [NestedKey.data, NestedKey.datas, pLt, pLts]
  split
  · split
    · exact ⟨_, rfl⟩
    · exact ⟨_, rfl⟩
  · exact ⟨_, rfl⟩
abbrev rLt (a b : Rl) : Prop := ltK (rK a) (rK b) = true
theorem ltK_of {a b : NK} {c : Bool} (h : pLt a.data b.data = some c) (ne : a ≠ b) : ltK a b = c := pLt_data h (eqv_ne ne)
theorem pLt_rK (a b : Rl) : pLt (rK a).data (rK b).data = some (ltK (rK a) (rK b)) := by
  by_cases e : a = b
  · subst e
    rw [ltK_irr]
    exact pLt_self _
  · obtain ⟨c, h⟩ := cmp_rK a b
    rw [h, ltK_of h fun z => e (rK_inj z)]
theorem rLt_total {a b : Rl} (h : a ≠ b) : rLt a b ∨ rLt b a :=
  ltK_total (ks := [rK a, rK b]) (fun x hx y hy => by
    simp only [List.mem_cons, List.not_mem_nil, or_false] at hx hy
    rcases hx with rfl | rfl <;> rcases hy with rfl | rfl <;> exact cmp_rK _ _) (by simp) (by simp) fun z => h (rK_inj z)
theorem rLt_iff (a b : Rl) : rLt a b ↔ a.1 < b.1 ∨ a.1 = b.1 ∧ a.2 < b.2 := by
  obtain ⟨a1, a2⟩ := a
  obtain ⟨b1, b2⟩ := b
  have h := pLt_rK (a1, a2) (b1, b2)
  have e : pLt (rK (a1, a2)).data (rK (b1, b2)).data = some (decide (a1 < b1 ∨ a1 = b1 ∧ a2 < b2)) := by
    unfold rK
    simp only [NestedKey.data, NestedKey.datas, pLt, pLts, PyData.eqv]
    by_cases e1 : a1 = b1
    · subst e1
      by_cases e2 : a2 = b2
      · subst e2
        simp
      · have e3 : ¬ ((a2 : Int) = (b2 : Int)) := by omega
        simp [e3]
    · have e3 : ¬ ((a1 : Int) = (b1 : Int)) := by omega
      simp [e3, e1]
  rw [e] at h
  have h := Option.some.inj h
  show ltK (rK (a1, a2)) (rK (b1, b2)) = true ↔ _
  rw [← h]
  simp
theorem pd_rD (r : Rl) : pd (rD r) = some (rK r).data := rfl
theorem lay_rK (r : Rl) : (rK r).data.canLay0 = true := by simp [rK, NestedKey.data, NestedKey.datas, PyData.canLay0, PyData.canLayAll0]
theorem dep_rK (r : Rl) : (rK r).data.depth = 1 := by simp [rK, NestedKey.data, NestedKey.datas, PyData.depth, PyData.depthAll]
end Q
end
section
open PySem L2 G P
local macro_rules | `(tactic| walk_at "ev") => `(tactic| simp (config := { decide := false }) only [seval, G.evB0, G.evB1, G.evB2, G.evB3, G.evB4, List.getElem?_set_self, List.length_set, List.set_set, List.map_cons, List.map_nil, List.length_cons, List.length_nil, List.replicate, List.cons_append, List.nil_append, List.getElem?_cons_zero, List.getElem?_cons_succ, List.set_cons_zero, List.set_cons_succ, Option.map_some, Option.map_none, Option.bind_some, Bool.not_true, Bool.not_false, if_true, if_false, decide_true, decide_false, Bool.false_eq_true, true_and, and_true, false_and, and_false, List.foldl_cons, List.foldl_nil, List.all_cons, List.all_nil, id_eq, Bool.and_true, Bool.true_and, eq_self, Bool.or_true, Bool.true_or, Bool.or_false, Bool.false_or, G.isNon, G.startE, G.bls, G.wipeE, Q.evSVG2_0, Q.evSVG3_0, Q.evSVG4_0, Q.evSVG5_0, Q.evSVG6_0, Q.evSVG7_0, P.evN0, Option.some.injEq, List.cons.injEq, List.nil_eq])
local macro_rules | `(tactic| walk_at "evs") => `(tactic| simp (config := { decide := false }) only [seval, G.evB0, G.evB1, G.evB2, G.evB3, G.evB4, List.getElem?_set_self, List.length_set, List.set_set, List.map_cons, List.map_nil, List.length_cons, List.length_nil, List.replicate, List.cons_append, List.nil_append, List.getElem?_cons_zero, List.getElem?_cons_succ, List.set_cons_zero, List.set_cons_succ, Option.map_some, Option.map_none, Option.bind_some, Bool.not_true, Bool.not_false, if_true, if_false, decide_true, decide_false, Bool.false_eq_true, true_and, and_true, false_and, and_false, List.foldl_cons, List.foldl_nil, List.all_cons, List.all_nil, id_eq, Bool.and_true, Bool.true_and, eq_self, Bool.or_true, Bool.true_or, Bool.or_false, Bool.false_or, G.isNon, G.startE, G.bls, G.wipeE, Q.evSVG2_0, Q.evSVG3_0, Q.evSVG4_0, Q.evSVG5_0, Q.evSVG6_0, Q.evSVG7_0, P.evN0, Option.some.injEq, List.cons.injEq, List.nil_eq, *])
namespace Q
structure Enc {α : Type} (f : α → D) (k : α → NK) : Prop where
  pd : ∀ a, pd (f a) = some (k a).data
  lay : ∀ a, (k a).data.canLay0 = true
  dep : ∀ a, (k a).data.depth ≤ 8
  inj : ∀ a b, k a = k b → a = b
  nol : ∀ S a, seqL S (f a) = none
section
variable {α : Type} {f : α → D} {k : α → NK} (h : Enc f k)
include h
theorem Enc.pdv (S : Sto) (a : α) : pdv S (f a) = some (k a).data := by
  unfold G.pdv
  rw [h.nol S a]
  exact h.pd a
theorem Enc.sh (a : α) : SeqAt.shaped (k a).data = true := by
  have h1 := h.lay a
  have h2 := h.dep a
  simp only [SeqAt.shaped, h1, Bool.true_and, decide_eq_true_eq]
  omega
theorem Enc.pds : ∀ l : List α, pds (l.map f) = some (l.map fun a => (k a).data)
  | [] => rfl
  | a :: l => by simp only [List.map_cons, G.pds, h.pd, Enc.pds l]
theorem Enc.eqv [DecidableEq α] (a b : α) : PyData.eqv (k a).data (k b).data = decide (a = b) := by
  by_cases e : a = b
  · subst e
    rw [eqv_self_of]
    simp
  · rw [eqv_ne fun z => e (h.inj a b z)]
    simp [e]
theorem Enc.any [DecidableEq α] (a : α) (l : List α) : ((l.map fun a => (k a).data).any fun z => PyData.eqv z (k a).data) = decide (a ∈ l) := by
  induction l with
  | nil => rfl
  | cons b l ih =>
    rw [List.map_cons, List.any_cons, ih, h.eqv]
    by_cases e : b = a
    · subst e; simp
    · have : ¬ a = b := fun z => e z.symm
      simp [e, this]
theorem Enc.eqB [DecidableEq α] (S : Sto) (a b : α) (hs : ∀ x, f a ≠ .str x) : dEqB S (f a) (f b) = some (decide (a = b)) := by
  unfold dEqB
  split
  · rename_i x y e1 e2
    exact absurd e1 (hs _)
  · simp only [h.pdv]
    rw [if_pos ⟨h.sh a, h.sh b⟩, h.eqv]
theorem Enc.eq [DecidableEq α] (S : Sto) (a b : α) (hs : ∀ x, f a ≠ .str x) : dEq S (f a) (f b) = some (.bl (decide (a = b))) := by
  unfold dEq
  rw [h.eqB S a b hs]
  rfl
theorem Enc.ne [DecidableEq α] (S : Sto) (a b : α) (hs : ∀ x, f a ≠ .str x) : dNe S (f a) (f b) = some (.bl (!decide (a = b))) := by
  unfold dNe
  rw [h.eqB S a b hs]
  rfl
theorem Enc.eqvAll [DecidableEq α] : ∀ l m : List α, PyData.eqvAll (l.map fun a => (k a).data) (m.map fun a => (k a).data) = decide (l = m)
  | [], [] => rfl
  | [], _ :: _ => rfl
  | _ :: _, [] => rfl
  | a :: l, b :: m => by
    simp only [List.map_cons, PyData.eqvAll, h.eqv, Enc.eqvAll l m, List.cons.injEq]
    by_cases e1 : a = b <;> by_cases e2 : l = m <;> simp [e1, e2]
end
def iD (n : Nat) : D := .int n
theorem encN : Enc iD (fun n => .num n) := ⟨fun _ => rfl, fun _ => by simp [NestedKey.data, PyData.canLay0], fun _ => by simp [NestedKey.data, PyData.depth], fun a b e => Int.ofNat_inj.mp (by simpa using e), fun _ _ => rfl⟩
theorem encR : Enc rD rK := ⟨pd_rD, lay_rK, fun a => by rw [dep_rK]; omega, fun _ _ => rK_inj, fun _ _ => rfl⟩
theorem dEq_r (S : Sto) (a b : Rl) : dEq S (rD a) (rD b) = some (.bl (decide (a = b))) := encR.eq S a b fun _ z => by cases z
theorem gT_g (gs : MGs) (g : Gr) (en : En) : gT 2 gs (gD g) en = gs [rD g.1, g.2.d] en := rfl
theorem gT_r (gs : MGs) (r : Rl) (en : En) : gT 2 gs (rD r) en = gs [.int r.1, .int r.2] en := rfl
theorem len_r (S : Sto) (r : Rl) : dLen S [rD r] = some (.int 2) := rfl
theorem len_g (S : Sto) (r : Gr) : dLen S [gD r] = some (.int 2) := rfl
theorem bel_r (n : Nat) (r : Rl) : D.bel n (rD r) = True := by simp [rD, D.bel, D.bels]
theorem bel_b (n : Nat) (b : Bd) : D.bel n b.d = True := by cases b <;> simp [Bd.d, D.bel, D.bels, bel_r]
theorem bel_g (n : Nat) (g : Gr) : D.bel n (gD g) = True := by simp [gD, D.bel, D.bels, bel_r, bel_b]
theorem bels_map {α : Type} (n : Nat) (f : α → D) (h : ∀ a, D.bel n (f a) = True) : ∀ l : List α, D.bels n (l.map f) = True
  | [] => by simp only [List.map_nil, D.bels]
  | a :: l => by simp only [List.map_cons, D.bels, h a, bels_map n f h l, and_self]
theorem bels_i (n : Nat) (l : List Nat) : D.bels n (l.map iD) = True := bels_map n _ (fun _ => by simp [iD, D.bel]) l
end Q
local macro_rules | `(tactic| walk_at "ev") => `(tactic| simp (config := { decide := false }) only [seval, G.evB0, G.evB1, G.evB2, G.evB3, G.evB4, List.getElem?_set_self, List.length_set, List.set_set, List.map_cons, List.map_nil, List.length_cons, List.length_nil, List.replicate, List.cons_append, List.nil_append, List.getElem?_cons_zero, List.getElem?_cons_succ, List.set_cons_zero, List.set_cons_succ, Option.map_some, Option.map_none, Option.bind_some, Bool.not_true, Bool.not_false, if_true, if_false, decide_true, decide_false, Bool.false_eq_true, true_and, and_true, false_and, and_false, List.foldl_cons, List.foldl_nil, List.all_cons, List.all_nil, id_eq, Bool.and_true, Bool.true_and, eq_self, Bool.or_true, Bool.true_or, Bool.or_false, Bool.false_or, G.isNon, G.startE, G.bls, G.wipeE, Q.evSVG2_0, Q.evSVG3_0, Q.evSVG4_0, Q.evSVG5_0, Q.evSVG6_0, Q.evSVG7_0, P.evN0, dEq_str, dNe_str, w_ro, w_to, w_tr, w_bo, w_br, w_bt, ok_o, ok_r, ok_t, ok_b, len_r, len_g, bel_r, bel_b, bel_g, bels_i, dEq_r, gT_g, gT_r, Option.some.injEq, List.cons.injEq, List.nil_eq])
local macro_rules | `(tactic| walk_at "evs") => `(tactic| simp (config := { decide := false }) only [seval, G.evB0, G.evB1, G.evB2, G.evB3, G.evB4, List.getElem?_set_self, List.length_set, List.set_set, List.map_cons, List.map_nil, List.length_cons, List.length_nil, List.replicate, List.cons_append, List.nil_append, List.getElem?_cons_zero, List.getElem?_cons_succ, List.set_cons_zero, List.set_cons_succ, Option.map_some, Option.map_none, Option.bind_some, Bool.not_true, Bool.not_false, if_true, if_false, decide_true, decide_false, Bool.false_eq_true, true_and, and_true, false_and, and_false, List.foldl_cons, List.foldl_nil, List.all_cons, List.all_nil, id_eq, Bool.and_true, Bool.true_and, eq_self, Bool.or_true, Bool.true_or, Bool.or_false, Bool.false_or, G.isNon, G.startE, G.bls, G.wipeE, Q.evSVG2_0, Q.evSVG3_0, Q.evSVG4_0, Q.evSVG5_0, Q.evSVG6_0, Q.evSVG7_0, P.evN0, dEq_str, dNe_str, w_ro, w_to, w_tr, w_bo, w_br, w_bt, ok_o, ok_r, ok_t, ok_b, len_r, len_g, bel_r, bel_b, bel_g, bels_i, dEq_r, gT_g, gT_r, Option.some.injEq, List.cons.injEq, List.nil_eq, *])
namespace Q
def evQ2_0 := And.intro @dEq_str (And.intro @dNe_str (And.intro @w_ro (And.intro @w_to (And.intro @w_tr (And.intro @w_bo (And.intro @w_br (And.intro @w_bt (And.intro @ok_o (And.intro @ok_r (And.intro @ok_t (And.intro @ok_b (And.intro @len_r (And.intro @len_g (And.intro @bel_r (And.intro @bel_b (And.intro @bel_g (And.intro @bels_i (And.intro @dEq_r (And.intro @gT_g (And.intro @gT_r (True.intro)))))))))))))))))))))
end Q
end
section
open PySem L2 G P
open Q
local macro_rules | `(tactic| walk_at "ev") => `(tactic| simp (config := { decide := false }) only [seval, G.evB0, G.evB1, G.evB2, G.evB3, G.evB4, List.getElem?_set_self, List.length_set, List.set_set, List.map_cons, List.map_nil, List.length_cons, List.length_nil, List.replicate, List.cons_append, List.nil_append, List.getElem?_cons_zero, List.getElem?_cons_succ, List.set_cons_zero, List.set_cons_succ, Option.map_some, Option.map_none, Option.bind_some, Bool.not_true, Bool.not_false, if_true, if_false, decide_true, decide_false, Bool.false_eq_true, true_and, and_true, false_and, and_false, List.foldl_cons, List.foldl_nil, List.all_cons, List.all_nil, id_eq, Bool.and_true, Bool.true_and, eq_self, Bool.or_true, Bool.true_or, Bool.or_false, Bool.false_or, G.isNon, G.startE, G.bls, G.wipeE, Q.evSVG2_0, Q.evSVG3_0, Q.evSVG4_0, Q.evSVG5_0, Q.evSVG6_0, Q.evSVG7_0, P.evN0, Q.evQ2_0, Option.some.injEq, List.cons.injEq, List.nil_eq])
local macro_rules | `(tactic| walk_at "evs") => `(tactic| simp (config := { decide := false }) only [seval, G.evB0, G.evB1, G.evB2, G.evB3, G.evB4, List.getElem?_set_self, List.length_set, List.set_set, List.map_cons, List.map_nil, List.length_cons, List.length_nil, List.replicate, List.cons_append, List.nil_append, List.getElem?_cons_zero, List.getElem?_cons_succ, List.set_cons_zero, List.set_cons_succ, Option.map_some, Option.map_none, Option.bind_some, Bool.not_true, Bool.not_false, if_true, if_false, decide_true, decide_false, Bool.false_eq_true, true_and, and_true, false_and, and_false, List.foldl_cons, List.foldl_nil, List.all_cons, List.all_nil, id_eq, Bool.and_true, Bool.true_and, eq_self, Bool.or_true, Bool.true_or, Bool.or_false, Bool.false_or, G.isNon, G.startE, G.bls, G.wipeE, Q.evSVG2_0, Q.evSVG3_0, Q.evSVG4_0, Q.evSVG5_0, Q.evSVG6_0, Q.evSVG7_0, P.evN0, Q.evQ2_0, Option.some.injEq, List.cons.injEq, List.nil_eq, *])
namespace Q
def Rl.ok (o l : Nat) (r : Rl) : Prop := r.1 < o ∧ r.2 < l
def Bd.ok (o l : Nat) : Bd → Prop
  | .own c => c < o
  | .rol r => Rl.ok o l r
  | .thr r m => Rl.ok o l r ∧ m < l
  | .bot r s => Rl.ok o l r ∧ Rl.ok o l s ∧ rLt r s
def Gr.ok (o l : Nat) (g : Gr) : Prop := Rl.ok o l g.1 ∧ g.2.ok o l
end Q
end
section
open PySem L2 G P
open Q
local macro_rules | `(tactic| walk_at "ev") => `(tactic| simp (config := { decide := false }) only [seval, G.evB0, G.evB1, G.evB2, G.evB3, G.evB4, List.getElem?_set_self, List.length_set, List.set_set, List.map_cons, List.map_nil, List.length_cons, List.length_nil, List.replicate, List.cons_append, List.nil_append, List.getElem?_cons_zero, List.getElem?_cons_succ, List.set_cons_zero, List.set_cons_succ, Option.map_some, Option.map_none, Option.bind_some, Bool.not_true, Bool.not_false, if_true, if_false, decide_true, decide_false, Bool.false_eq_true, true_and, and_true, false_and, and_false, List.foldl_cons, List.foldl_nil, List.all_cons, List.all_nil, id_eq, Bool.and_true, Bool.true_and, eq_self, Bool.or_true, Bool.true_or, Bool.or_false, Bool.false_or, G.isNon, G.startE, G.bls, G.wipeE, Q.evSVG2_0, Q.evSVG3_0, Q.evSVG4_0, Q.evSVG5_0, Q.evSVG6_0, Q.evSVG7_0, P.evN0, Q.evQ2_0])
local macro_rules | `(tactic| walk_at "evs") => `(tactic| simp (config := { decide := false }) only [seval, G.evB0, G.evB1, G.evB2, G.evB3, G.evB4, List.getElem?_set_self, List.length_set, List.set_set, List.map_cons, List.map_nil, List.length_cons, List.length_nil, List.replicate, List.cons_append, List.nil_append, List.getElem?_cons_zero, List.getElem?_cons_succ, List.set_cons_zero, List.set_cons_succ, Option.map_some, Option.map_none, Option.bind_some, Bool.not_true, Bool.not_false, if_true, if_false, decide_true, decide_false, Bool.false_eq_true, true_and, and_true, false_and, and_false, List.foldl_cons, List.foldl_nil, List.all_cons, List.all_nil, id_eq, Bool.and_true, Bool.true_and, eq_self, Bool.or_true, Bool.true_or, Bool.or_false, Bool.false_or, G.isNon, G.startE, G.bls, G.wipeE, Q.evSVG2_0, Q.evSVG3_0, Q.evSVG4_0, Q.evSVG5_0, Q.evSVG6_0, Q.evSVG7_0, P.evN0, Q.evQ2_0, *])
namespace Q
def DkO (cells : List Int) (t g : Int) : Ob := .dic [.str (Str.ofString "cells"), .str (Str.ofString "turn"), .str (Str.ofString "great")] [.lst (cells.map .int), .int t, .int g]
def At (n : Nat) (S : Sto) (i : Nat) (S' : Sto) : Prop := i < S.length ∧ ∃ (cells : List Int) (t g : Int), S' = S.set i (DkO cells t g) ∧ cells ≠ [] ∧ 0 ≤ t ∧ t ≤ n
theorem At.len {n : Nat} {S : Sto} {i : Nat} {S' : Sto} (h : At n S i S') : S'.length = S.length := by
  obtain ⟨_, c, t, g, rfl, _⟩ := h
  simp
theorem At.mono {n m : Nat} {S : Sto} {i : Nat} {S' : Sto} (h : At n S i S') (hn : n ≤ m) : At m S i S' := by
  obtain ⟨a, c, t, g, b, d, e, f⟩ := h
  exact ⟨a, c, t, g, b, d, e, by omega⟩
theorem bel_DkO (n : Nat) (c : List Int) (t g : Int) : (DkO c t g).bel n := by
  have : D.bels n (c.map D.int) = True := bels_map n _ (fun _ => by simp [D.bel]) c
  simp only [DkO, Ob.bel, D.bels, D.bel, this, and_self]
theorem At.trans {n m : Nat} {S : Sto} {i : Nat} {S1 S2 : Sto} (h : At n S i S1) (h2 : At m S1 i S2) : At m S i S2 := by
  obtain ⟨a, c, t, g, rfl, _⟩ := h
  obtain ⟨a2, c2, t2, g2, rfl, x, y, z⟩ := h2
  exact ⟨a, c2, t2, g2, by rw [List.set_set], x, y, z⟩
theorem At.self {n : Nat} {S : Sto} {i : Nat} {S1 : Sto} (h : At n S i S1) : At n S1 i S1 := by
  obtain ⟨a, c, t, g, rfl, x, y, z⟩ := h
  exact ⟨by simpa using a, c, t, g, by rw [List.set_set], x, y, z⟩
theorem At.get {n : Nat} {S : Sto} {i : Nat} {S1 : Sto} (h : At n S i S1) : ∃ (cells : List Int) (t g : Int), S1[i]? = some (DkO cells t g) ∧ cells ≠ [] ∧ 0 ≤ t ∧ t ≤ n := by
  obtain ⟨a, c, t, g, rfl, x, y, z⟩ := h
  exact ⟨c, t, g, List.getElem?_set_self a, x, y, z⟩
theorem At.of {n : Nat} {S : Sto} {i : Nat} {c : List Int} {t g : Int} (h : S[i]? = some (DkO c t g)) (hc : c ≠ []) (h0 : 0 ≤ t) (hn : t ≤ n) : At n S i S := by
  obtain ⟨hi, e⟩ := List.getElem?_eq_some_iff.mp h
  exact ⟨hi, c, t, g, by rw [← e, List.set_getElem_self], hc, h0, hn⟩
theorem At.app {n : Nat} {S : Sto} {i : Nat} {S1 : Sto} (h : At n S i S1) (T : Sto) : At n (S ++ T) i (S1 ++ T) := by
  obtain ⟨a, c, t, g, rfl, x⟩ := h
  exact ⟨by rw [List.length_append]; omega, c, t, g, by rw [setB a], x⟩
theorem At.cl {n m : Nat} {S : Sto} {i : Nat} {S1 S2 : Sto} (h : At n S i S1) (h2 : At m S1 i S2) : Cl S1 S2 := by
  obtain ⟨a2, c2, t2, g2, rfl, x, y, z⟩ := h2
  exact Cl.set (bel_DkO _ _ _ _)
theorem mod_nat {x : Int} {m : Nat} (hm : 0 < m) : ∃ r : Nat, x % (m : Int) = (r : Int) ∧ r < m := by
  have h1 := Int.emod_nonneg x (show (m : Int) ≠ 0 by omega)
  have h2 := Int.emod_lt_of_pos x (show (0 : Int) < m by omega)
  exact ⟨(x % m).toNat, by omega, by omega⟩
end Q
end
section
open PySem L2 G P
open Q
local macro_rules | `(tactic| walk_at "ev") => `(tactic| simp (config := { decide := false }) only [seval, G.evB0, G.evB1, G.evB2, G.evB3, G.evB4, List.getElem?_set_self, List.length_set, List.set_set, List.map_cons, List.map_nil, List.length_cons, List.length_nil, List.replicate, List.cons_append, List.nil_append, List.getElem?_cons_zero, List.getElem?_cons_succ, List.set_cons_zero, List.set_cons_succ, Option.map_some, Option.map_none, Option.bind_some, Bool.not_true, Bool.not_false, if_true, if_false, decide_true, decide_false, Bool.false_eq_true, true_and, and_true, false_and, and_false, List.foldl_cons, List.foldl_nil, List.all_cons, List.all_nil, id_eq, Bool.and_true, Bool.true_and, eq_self, Bool.or_true, Bool.true_or, Bool.or_false, Bool.false_or, G.isNon, G.startE, G.bls, G.wipeE, Q.evSVG2_0, Q.evSVG3_0, Q.evSVG4_0, Q.evSVG5_0, Q.evSVG6_0, Q.evSVG7_0, P.evN0, Q.evQ2_0])
local macro_rules | `(tactic| walk_at "evs") => `(tactic| simp (config := { decide := false }) only [seval, G.evB0, G.evB1, G.evB2, G.evB3, G.evB4, List.getElem?_set_self, List.length_set, List.set_set, List.map_cons, List.map_nil, List.length_cons, List.length_nil, List.replicate, List.cons_append, List.nil_append, List.getElem?_cons_zero, List.getElem?_cons_succ, List.set_cons_zero, List.set_cons_succ, Option.map_some, Option.map_none, Option.bind_some, Bool.not_true, Bool.not_false, if_true, if_false, decide_true, decide_false, Bool.false_eq_true, true_and, and_true, false_and, and_false, List.foldl_cons, List.foldl_nil, List.all_cons, List.all_nil, id_eq, Bool.and_true, Bool.true_and, eq_self, Bool.or_true, Bool.true_or, Bool.or_false, Bool.false_or, G.isNon, G.startE, G.bls, G.wipeE, Q.evSVG2_0, Q.evSVG3_0, Q.evSVG4_0, Q.evSVG5_0, Q.evSVG6_0, Q.evSVG7_0, P.evN0, Q.evQ2_0, *])
namespace Q
theorem At.rel {n m : Nat} {S : Sto} {i : Nat} {S1 S2 : Sto} (h : At n S i S1) (h2 : At m S i S2) : At m S1 i S2 := by
  obtain ⟨x, c, t, g, rfl, y⟩ := h
  obtain ⟨x3, c3, t3, g3, rfl, y3⟩ := h2
  exact ⟨by simpa using x, c3, t3, g3, by rw [List.set_set], y3⟩
theorem add_lst {S : Sto} {a b : List D} (h : a.length + b.length ≤ 1000000) : dAdd S (.lst a) (.lst b) = some (.lst (a ++ b)) := by
  rw [dAdd_lst, if_pos (sz_small h)]
theorem ltP_r (a b : Rl) : ltP (a.1 : Nat) (a.2 : Nat) (b.1 : Nat) (b.2 : Nat) = true ↔ rLt a b := by
  rw [ltP_eq, rLt_iff, decide_eq_true_eq]
  omega
theorem min_r (S : Sto) (a b : Rl) : dMin2 S [rD a, rD b] = some (rD (if ltK (rK b) (rK a) = true then b else a)) := by
  unfold rD
  rw [dMin2_t2]
  by_cases z : ltK (rK b) (rK a) = true
  · rw [if_pos z, if_pos ((ltP_r b a).mpr z), if_pos ((ltP_r b a).mpr z)]
  · have y : ¬ ltP (b.1 : Nat) (b.2 : Nat) (a.1 : Nat) (a.2 : Nat) = true := fun y => z ((ltP_r b a).mp y)
    rw [if_neg z, if_neg y, if_neg y]
theorem max_r (S : Sto) (a b : Rl) : dMax2 S [rD a, rD b] = some (rD (if ltK (rK a) (rK b) = true then b else a)) := by
  unfold rD
  rw [dMax2_t2]
  by_cases z : ltK (rK a) (rK b) = true
  · rw [if_pos z, if_pos ((ltP_r a b).mpr z), if_pos ((ltP_r a b).mpr z)]
  · have y : ¬ ltP (a.1 : Nat) (a.2 : Nat) (b.1 : Nat) (b.2 : Nat) = true := fun y => z ((ltP_r a b).mp y)
    rw [if_neg z, if_neg y, if_neg y]
theorem minmax {o l : Nat} {a b : Rl} (h : a ≠ b) (ha : Rl.ok o l a) (hb : Rl.ok o l b) : (Bd.bot (if ltK (rK b) (rK a) = true then b else a) (if ltK (rK a) (rK b) = true then b else a)).ok o l := by
  rcases rLt_total h with z | z
  · have y := ltK_asym z
    rw [if_neg (by rw [y]; decide), if_pos z]
    exact ⟨ha, hb, z⟩
  · have y := ltK_asym z
    rw [if_pos z, if_neg (by rw [y]; decide)]
    exact ⟨hb, ha, z⟩
local macro_rules | `(tactic| walk_at "ev") => `(tactic| simp (config := { decide := false }) only [seval, G.evB0, G.evB1, G.evB2, G.evB3, G.evB4, List.getElem?_set_self, List.length_set, List.set_set, List.map_cons, List.map_nil, List.length_cons, List.length_nil, List.replicate, List.cons_append, List.nil_append, List.getElem?_cons_zero, List.getElem?_cons_succ, List.set_cons_zero, List.set_cons_succ, Option.map_some, Option.map_none, Option.bind_some, Bool.not_true, Bool.not_false, if_true, if_false, decide_true, decide_false, Bool.false_eq_true, true_and, and_true, false_and, and_false, List.foldl_cons, List.foldl_nil, List.all_cons, List.all_nil, id_eq, Bool.and_true, Bool.true_and, eq_self, Bool.or_true, Bool.true_or, Bool.or_false, Bool.false_or, G.isNon, G.startE, G.bls, G.wipeE, Q.evSVG2_0, Q.evSVG3_0, Q.evSVG4_0, Q.evSVG5_0, Q.evSVG6_0, Q.evSVG7_0, P.evN0, Q.evQ2_0, add_lst, min_r, max_r])
local macro_rules | `(tactic| walk_at "evs") => `(tactic| simp (config := { decide := false }) only [seval, G.evB0, G.evB1, G.evB2, G.evB3, G.evB4, List.getElem?_set_self, List.length_set, List.set_set, List.map_cons, List.map_nil, List.length_cons, List.length_nil, List.replicate, List.cons_append, List.nil_append, List.getElem?_cons_zero, List.getElem?_cons_succ, List.set_cons_zero, List.set_cons_succ, Option.map_some, Option.map_none, Option.bind_some, Bool.not_true, Bool.not_false, if_true, if_false, decide_true, decide_false, Bool.false_eq_true, true_and, and_true, false_and, and_false, List.foldl_cons, List.foldl_nil, List.all_cons, List.all_nil, id_eq, Bool.and_true, Bool.true_and, eq_self, Bool.or_true, Bool.true_or, Bool.or_false, Bool.false_or, G.isNon, G.startE, G.bls, G.wipeE, Q.evSVG2_0, Q.evSVG3_0, Q.evSVG4_0, Q.evSVG5_0, Q.evSVG6_0, Q.evSVG7_0, P.evN0, Q.evQ2_0, add_lst, min_r, max_r, *])
def Bd.plain : Bd → Prop
  | .thr _ _ => False
  | _ => True
end Q
end
section
open PySem L2 G P
open Q
local macro_rules | `(tactic| walk_at "ev") => `(tactic| simp (config := { decide := false }) only [seval, G.evB0, G.evB1, G.evB2, G.evB3, G.evB4, List.getElem?_set_self, List.length_set, List.set_set, List.map_cons, List.map_nil, List.length_cons, List.length_nil, List.replicate, List.cons_append, List.nil_append, List.getElem?_cons_zero, List.getElem?_cons_succ, List.set_cons_zero, List.set_cons_succ, Option.map_some, Option.map_none, Option.bind_some, Bool.not_true, Bool.not_false, if_true, if_false, decide_true, decide_false, Bool.false_eq_true, true_and, and_true, false_and, and_false, List.foldl_cons, List.foldl_nil, List.all_cons, List.all_nil, id_eq, Bool.and_true, Bool.true_and, eq_self, Bool.or_true, Bool.true_or, Bool.or_false, Bool.false_or, G.isNon, G.startE, G.bls, G.wipeE, Q.evSVG2_0, Q.evSVG3_0, Q.evSVG4_0, Q.evSVG5_0, Q.evSVG6_0, Q.evSVG7_0, P.evN0, Q.evQ2_0, add_lst, min_r, max_r])
local macro_rules | `(tactic| walk_at "evs") => `(tactic| simp (config := { decide := false }) only [seval, G.evB0, G.evB1, G.evB2, G.evB3, G.evB4, List.getElem?_set_self, List.length_set, List.set_set, List.map_cons, List.map_nil, List.length_cons, List.length_nil, List.replicate, List.cons_append, List.nil_append, List.getElem?_cons_zero, List.getElem?_cons_succ, List.set_cons_zero, List.set_cons_succ, Option.map_some, Option.map_none, Option.bind_some, Bool.not_true, Bool.not_false, if_true, if_false, decide_true, decide_false, Bool.false_eq_true, true_and, and_true, false_and, and_false, List.foldl_cons, List.foldl_nil, List.all_cons, List.all_nil, id_eq, Bool.and_true, Bool.true_and, eq_self, Bool.or_true, Bool.true_or, Bool.or_false, Bool.false_or, G.isNon, G.startE, G.bls, G.wipeE, Q.evSVG2_0, Q.evSVG3_0, Q.evSVG4_0, Q.evSVG5_0, Q.evSVG6_0, Q.evSVG7_0, P.evN0, Q.evQ2_0, add_lst, min_r, max_r, *])
namespace Q
theorem cut_lo (xs : List D) (k : Nat) : cutD xs (some (k : Int)) none = xs.drop k := by
  unfold cutD HT.sIx
  simp only []
  have e : ((k : Int) < 0) = False := by simp
  simp only [e, if_false]
  rw [List.take_of_length_le (by rw [List.length_drop]; omega)]
  by_cases h : k ≤ xs.length
  · congr 1
    omega
  · rw [List.drop_of_length_le (by omega), List.drop_of_length_le (by omega)]
theorem cut_hi (xs : List D) (k : Nat) : cutD xs none (some (k : Int)) = xs.take k := by
  unfold cutD HT.sIx
  have e : ((k : Int) < 0) = False := by simp
  simp only [e, if_false, List.drop_zero, Nat.sub_zero]
  by_cases h : k ≤ xs.length
  · congr 1
    omega
  · rw [List.take_of_length_le (by omega), List.take_of_length_le (by omega)]
end Q
end
section
open PySem L2 G P
open Q
local macro_rules | `(tactic| walk_at "ev") => `(tactic| simp (config := { decide := false }) only [seval, G.evB0, G.evB1, G.evB2, G.evB3, G.evB4, List.getElem?_set_self, List.length_set, List.set_set, List.map_cons, List.map_nil, List.length_cons, List.length_nil, List.replicate, List.cons_append, List.nil_append, List.getElem?_cons_zero, List.getElem?_cons_succ, List.set_cons_zero, List.set_cons_succ, Option.map_some, Option.map_none, Option.bind_some, Bool.not_true, Bool.not_false, if_true, if_false, decide_true, decide_false, Bool.false_eq_true, true_and, and_true, false_and, and_false, List.foldl_cons, List.foldl_nil, List.all_cons, List.all_nil, id_eq, Bool.and_true, Bool.true_and, eq_self, Bool.or_true, Bool.true_or, Bool.or_false, Bool.false_or, G.isNon, G.startE, G.bls, G.wipeE, Q.evSVG2_0, Q.evSVG3_0, Q.evSVG4_0, Q.evSVG5_0, Q.evSVG6_0, Q.evSVG7_0, P.evN0, Q.evQ2_0])
local macro_rules | `(tactic| walk_at "evs") => `(tactic| simp (config := { decide := false }) only [seval, G.evB0, G.evB1, G.evB2, G.evB3, G.evB4, List.getElem?_set_self, List.length_set, List.set_set, List.map_cons, List.map_nil, List.length_cons, List.length_nil, List.replicate, List.cons_append, List.nil_append, List.getElem?_cons_zero, List.getElem?_cons_succ, List.set_cons_zero, List.set_cons_succ, Option.map_some, Option.map_none, Option.bind_some, Bool.not_true, Bool.not_false, if_true, if_false, decide_true, decide_false, Bool.false_eq_true, true_and, and_true, false_and, and_false, List.foldl_cons, List.foldl_nil, List.all_cons, List.all_nil, id_eq, Bool.and_true, Bool.true_and, eq_self, Bool.or_true, Bool.true_or, Bool.or_false, Bool.false_or, G.isNon, G.startE, G.bls, G.wipeE, Q.evSVG2_0, Q.evSVG3_0, Q.evSVG4_0, Q.evSVG5_0, Q.evSVG6_0, Q.evSVG7_0, P.evN0, Q.evQ2_0, *])
namespace Q
structure Sm (w p : Nat) (d : D) : Prop where
  sm : smD d = true
  dp : dpD d ≤ p
  wd : wD d ≤ w
theorem Sm.mono {w p w' p' : Nat} {d : D} (h : Sm w p d) (h1 : w ≤ w') (h2 : p ≤ p') : Sm w' p' d := ⟨h.sm, Nat.le_trans h.dp h2, Nat.le_trans h.wd h1⟩
theorem Sm.int {n : Nat} (h : n ≤ 1000000) : Sm 64 0 (.int (n : Nat)) := ⟨by simp only [smD, Bool.and_eq_true, decide_eq_true_eq]; omega, by simp [dpD], by simp [wD]⟩
theorem sms {w p : Nat} : ∀ {ds : List D}, (∀ d ∈ ds, Sm w p d) → smDs ds = true ∧ dpDs ds ≤ p ∧ wDs ds ≤ ds.length * (w + 1)
  | [], _ => ⟨by simp [smDs], by simp [dpDs], by simp [wDs]⟩
  | d :: ds, h => by
    obtain ⟨a, b, c⟩ := h d (by simp)
    obtain ⟨a2, b2, c2⟩ := sms (ds := ds) fun x hx => h x (by simp [hx])
    refine ⟨by simp only [smDs, a, a2]; rfl, by simp only [dpDs]; omega, ?_⟩
    simp only [wDs, List.length_cons, Nat.succ_mul]
    omega
theorem Sm.tup {w p n : Nat} {ds : List D} (h : ∀ d ∈ ds, Sm w p d) (hn : ds.length ≤ n) : Sm (n * (w + 1)) (p + 1) (.tup ds) := by
  obtain ⟨a, b, c⟩ := sms h
  have := Nat.mul_le_mul_right (w + 1) hn
  exact ⟨by simp only [smD]; exact a, by simp only [dpD]; omega, by simp only [wD]; omega⟩
theorem Sm.lst {w p n : Nat} {ds : List D} (h : ∀ d ∈ ds, Sm w p d) (hn : ds.length ≤ n) : Sm (n * (w + 1)) (p + 1) (.lst ds) := by
  obtain ⟨a, b, c⟩ := sms h
  have := Nat.mul_le_mul_right (w + 1) hn
  exact ⟨by simp only [smD]; exact a, by simp only [dpD]; omega, by simp only [wD]; omega⟩
theorem Sm.repr {w p : Nat} {d : D} (h : Sm w p d) (h1 : w ≤ 1000000) (h2 : p ≤ 60) (hp : plainK d = true) : ∃ z, ∀ S, dRepr S [d] = some (.str z) := repr_sm h.sm (by have := h.dp; omega) (by have := h.wd; omega) hp
theorem sm_r {r : Rl} (h1 : r.1 ≤ 1000) (h2 : r.2 ≤ 1000) : Sm 200 1 (rD r) := (Sm.tup (w := 64) (p := 0) (n := 2) (fun d hd => by
  simp only [List.mem_cons, List.not_mem_nil, or_false] at hd
  rcases hd with rfl | rfl
  · exact Sm.int (by omega)
  · exact Sm.int (by omega)) (by simp)).mono (by decide) (by decide)
theorem sm_word {x : Str} (h : PyData.strOk x = true) (hl : x.length ≤ 60) : Sm 64 0 (.str x) := ⟨by simp only [smD]; exact h, by simp [dpD], by simp only [wD]; omega⟩
theorem len_o : (Str.ofString "owner").length ≤ 60 := by decide +kernel
theorem len_r' : (Str.ofString "role").length ≤ 60 := by decide +kernel
theorem len_t : (Str.ofString "through").length ≤ 60 := by decide +kernel
theorem len_b : (Str.ofString "both").length ≤ 60 := by decide +kernel
theorem sm_b {o l : Nat} {b : Bd} (h : b.ok o l) (ho : o ≤ 1000) (hl : l ≤ 1000) : Sm 700 2 b.d := by
  have r1 : ∀ {r : Rl}, Rl.ok o l r → Sm 200 1 (rD r) := fun {r} hr => sm_r (by have := hr.1; omega) (by have := hr.2; omega)
  cases b with
  | own c =>
    have : c < o := h
    refine (Sm.tup (w := 200) (p := 1) (n := 2) (fun d hd => ?_) (by simp)).mono (by decide) (by decide)
    simp only [List.mem_cons, List.not_mem_nil, or_false] at hd
    rcases hd with rfl | rfl
    · exact (sm_word ok_o len_o).mono (by decide) (by decide)
    · exact (Sm.int (by omega)).mono (by decide) (by decide)
  | rol r =>
    refine (Sm.tup (w := 200) (p := 1) (n := 2) (fun d hd => ?_) (by simp)).mono (by decide) (by decide)
    simp only [List.mem_cons, List.not_mem_nil, or_false] at hd
    rcases hd with rfl | rfl
    · exact (sm_word ok_r len_r').mono (by decide) (by decide)
    · exact r1 h
  | thr r m =>
    have : m < l := h.2
    refine (Sm.tup (w := 200) (p := 1) (n := 3) (fun d hd => ?_) (by simp)).mono (by decide) (by decide)
    simp only [List.mem_cons, List.not_mem_nil, or_false] at hd
    rcases hd with rfl | rfl | rfl
    · exact (sm_word ok_t len_t).mono (by decide) (by decide)
    · exact r1 h.1
    · exact (Sm.int (by omega)).mono (by decide) (by decide)
  | bot r s =>
    refine (Sm.tup (w := 200) (p := 1) (n := 3) (fun d hd => ?_) (by simp)).mono (by decide) (by decide)
    simp only [List.mem_cons, List.not_mem_nil, or_false] at hd
    rcases hd with rfl | rfl | rfl
    · exact (sm_word ok_b len_b).mono (by decide) (by decide)
    · exact r1 h.1
    · exact r1 h.2.1
theorem sm_two {w p : Nat} {a b : D} (ha : Sm w p a) (hb : Sm w p b) : Sm (2 * (w + 1)) (p + 1) (.lst [a, b]) := Sm.lst (fun d hd => by
  simp only [List.mem_cons, List.not_mem_nil, or_false] at hd
  rcases hd with rfl | rfl
  · exact ha
  · exact hb) (by simp)
end Q
end
section
open PySem L2 G P
open Q
local macro_rules | `(tactic| walk_at "ev") => `(tactic| simp (config := { decide := false }) only [seval, G.evB0, G.evB1, G.evB2, G.evB3, G.evB4, List.getElem?_set_self, List.length_set, List.set_set, List.map_cons, List.map_nil, List.length_cons, List.length_nil, List.replicate, List.cons_append, List.nil_append, List.getElem?_cons_zero, List.getElem?_cons_succ, List.set_cons_zero, List.set_cons_succ, Option.map_some, Option.map_none, Option.bind_some, Bool.not_true, Bool.not_false, if_true, if_false, decide_true, decide_false, Bool.false_eq_true, true_and, and_true, false_and, and_false, List.foldl_cons, List.foldl_nil, List.all_cons, List.all_nil, id_eq, Bool.and_true, Bool.true_and, eq_self, Bool.or_true, Bool.true_or, Bool.or_false, Bool.false_or, G.isNon, G.startE, G.bls, G.wipeE, Q.evSVG2_0, Q.evSVG3_0, Q.evSVG4_0, Q.evSVG5_0, Q.evSVG6_0, Q.evSVG7_0, P.evN0, Q.evQ2_0])
local macro_rules | `(tactic| walk_at "evs") => `(tactic| simp (config := { decide := false }) only [seval, G.evB0, G.evB1, G.evB2, G.evB3, G.evB4, List.getElem?_set_self, List.length_set, List.set_set, List.map_cons, List.map_nil, List.length_cons, List.length_nil, List.replicate, List.cons_append, List.nil_append, List.getElem?_cons_zero, List.getElem?_cons_succ, List.set_cons_zero, List.set_cons_succ, Option.map_some, Option.map_none, Option.bind_some, Bool.not_true, Bool.not_false, if_true, if_false, decide_true, decide_false, Bool.false_eq_true, true_and, and_true, false_and, and_false, List.foldl_cons, List.foldl_nil, List.all_cons, List.all_nil, id_eq, Bool.and_true, Bool.true_and, eq_self, Bool.or_true, Bool.true_or, Bool.or_false, Bool.false_or, G.isNon, G.startE, G.bls, G.wipeE, Q.evSVG2_0, Q.evSVG3_0, Q.evSVG4_0, Q.evSVG5_0, Q.evSVG6_0, Q.evSVG7_0, P.evN0, Q.evQ2_0, *])
namespace Q
theorem At.other {n : Nat} {S : Sto} {i j : Nat} {S1 : Sto} (h : At n S i S1) (hj : j ≠ i) : S1[j]? = S[j]? := by
  obtain ⟨_, c, t, g, rfl, _⟩ := h
  exact List.getElem?_set_ne hj.symm
theorem idx_ref {S : Sto} {j : Nat} {ds : List D} (h : S[j]? = some (.lst ds)) {k : Int} {d : D} (hk : atI ds k = some d) : dIdxA S (.ref j) (.int k) = some d := by
  have e : seqL S (.ref j) = some ds := by simp only [seqL, h]
  refine dIdxA_idx ?_
  unfold dIdx
  first | simp only [e, hk] | simp [e, hk]
end Q
end
section
open PySem L2 G P
open Q
local macro_rules | `(tactic| walk_at "ev") => `(tactic| simp (config := { decide := false }) only [seval, G.evB0, G.evB1, G.evB2, G.evB3, G.evB4, List.getElem?_set_self, List.length_set, List.set_set, List.map_cons, List.map_nil, List.length_cons, List.length_nil, List.replicate, List.cons_append, List.nil_append, List.getElem?_cons_zero, List.getElem?_cons_succ, List.set_cons_zero, List.set_cons_succ, Option.map_some, Option.map_none, Option.bind_some, Bool.not_true, Bool.not_false, if_true, if_false, decide_true, decide_false, Bool.false_eq_true, true_and, and_true, false_and, and_false, List.foldl_cons, List.foldl_nil, List.all_cons, List.all_nil, id_eq, Bool.and_true, Bool.true_and, eq_self, Bool.or_true, Bool.true_or, Bool.or_false, Bool.false_or, G.isNon, G.startE, G.bls, G.wipeE, Q.evSVG2_0, Q.evSVG3_0, Q.evSVG4_0, Q.evSVG5_0, Q.evSVG6_0, Q.evSVG7_0, P.evN0, Q.evQ2_0])
local macro_rules | `(tactic| walk_at "evs") => `(tactic| simp (config := { decide := false }) only [seval, G.evB0, G.evB1, G.evB2, G.evB3, G.evB4, List.getElem?_set_self, List.length_set, List.set_set, List.map_cons, List.map_nil, List.length_cons, List.length_nil, List.replicate, List.cons_append, List.nil_append, List.getElem?_cons_zero, List.getElem?_cons_succ, List.set_cons_zero, List.set_cons_succ, Option.map_some, Option.map_none, Option.bind_some, Bool.not_true, Bool.not_false, if_true, if_false, decide_true, decide_false, Bool.false_eq_true, true_and, and_true, false_and, and_false, List.foldl_cons, List.foldl_nil, List.all_cons, List.all_nil, id_eq, Bool.and_true, Bool.true_and, eq_self, Bool.or_true, Bool.true_or, Bool.or_false, Bool.false_or, G.isNon, G.startE, G.bls, G.wipeE, Q.evSVG2_0, Q.evSVG3_0, Q.evSVG4_0, Q.evSVG5_0, Q.evSVG6_0, Q.evSVG7_0, P.evN0, Q.evQ2_0, *])
namespace Q
def Hid (p : Prop) : Prop := p
theorem Wp_cut {A B : MS} {en : En} {S : Sto} {Q : Fl → Sto → Prop} (h : ∀ K : Fl → Sto → Prop, Hid (∀ en1 S1, Wp (B en1 S1) Q → K (.nx en1) S1) → Wp (A en S) K) : Wp (sSeq A B en S) Q := by
  rw [sSeq_ap, Wp_bind]
  exact h (fun f S1 => Wp (seqK B f S1) Q) fun en1 S1 k => k
structure Ord {α : Type} (f : α → D) (k : α → NK) : Prop where
  enc : Enc f k
  cmp : ∀ a b, ∃ c, pLt (k a).data (k b).data = some c
  nk : ∀ a, nkD (f a) = some (k a)
  of : ∀ a, dOf (k a) = f a
  form : (∀ a, ∃ x r, k a = .tup (.tup x :: r)) ∨ ∀ a, ∃ i r, k a = .tup (.num i :: r)
  dep : ∀ a, (k a).depth ≤ 8
section
variable {α : Type} {f : α → D} {k : α → NK}
abbrev kLt (k : α → NK) (a b : α) : Prop := ltK (k a) (k b) = true
theorem Ord.sortK (h : Ord f k) (gs : List α) : ∃ ms : List α, G.sortK (gs.map k) = ms.map k ∧ ms.Pairwise (kLt k) ∧ ∀ g, g ∈ ms ↔ g ∈ gs := by
  have cmp : CmpK (gs.map k) := fun a ha b hb => by
    obtain ⟨x, _, rfl⟩ := List.mem_map.mp ha
    obtain ⟨y, _, rfl⟩ := List.mem_map.mp hb
    exact h.cmp x y
  have asc := sortK_asc cmp
  have mem := fun z => mem_sortK z (gs.map k)
  have ex : ∀ l : List NK, (∀ z ∈ l, ∃ g ∈ gs, z = k g) → ∃ ms : List α, l = ms.map k ∧ ∀ g ∈ ms, g ∈ gs := by
    intro l
    induction l with
    | nil => exact fun _ => ⟨[], rfl, fun g hg => by simp at hg⟩
    | cons z l ih =>
      intro h
      obtain ⟨g, hg, rfl⟩ := h z (by simp)
      obtain ⟨ms, rfl, hm⟩ := ih fun z hz => h z (by simp [hz])
      refine ⟨g :: ms, rfl, fun x hx => ?_⟩
      rcases List.mem_cons.mp hx with rfl | hx
      · exact hg
      · exact hm x hx
  obtain ⟨ms, e, hm⟩ := ex (G.sortK (gs.map k)) fun z hz => by
    obtain ⟨g, hg, rfl⟩ := List.mem_map.mp ((mem z).mp hz)
    exact ⟨g, hg, rfl⟩
  refine ⟨ms, e, ?_, fun g => ⟨hm g, fun hg => ?_⟩⟩
  · rw [e, List.pairwise_map] at asc
    exact asc
  · have : k g ∈ G.sortK (gs.map k) := (mem _).mpr (List.mem_map.mpr ⟨g, hg, rfl⟩)
    rw [e] at this
    obtain ⟨x, hx, z⟩ := List.mem_map.mp this
    rw [← h.enc.inj _ _ z]
    exact hx
noncomputable def Ord.srt (h : Ord f k) (gs : List α) : List α := (h.sortK gs).choose
theorem Ord.srt_asc (h : Ord f k) (gs : List α) : (h.srt gs).Pairwise (kLt k) := (h.sortK gs).choose_spec.2.1
theorem Ord.mem_srt (h : Ord f k) {gs : List α} {g : α} : g ∈ h.srt gs ↔ g ∈ gs := (h.sortK gs).choose_spec.2.2 g
theorem Ord.nd (h : Ord f k) (gs : List α) : (h.srt gs).Nodup := (h.srt_asc gs).imp fun {a b} z e => by subst e; rw [kLt, ltK_irr] at z; cases z
theorem Ord.len [DecidableEq α] (h : Ord f k) (gs : List α) : (h.srt gs).length ≤ gs.length := nodup_len _ _ (h.nd gs) fun x hx => h.mem_srt.mp hx
theorem Ord.set (h : Ord f k) {S : Sto} {x : D} {gs : List α} (hx : seqA S x = some (gs.map f)) (hl : gs.length < 306) : dSortSet S [x] = some (.lst ((h.srt gs).map f)) := by
  have e := (h.sortK gs).choose_spec.1
  simp only [dSortSet, hx]
  simp only [nkDs_map f k h.nk]
  rw [if_pos, e, dOfs_mapK f k h.of]
  · rfl
  refine ⟨by rw [List.length_map]; exact hl, ?_, fun z hz => ?_, fun z hz => ?_, fun a ha b hb => ?_⟩
  · rcases h.form with q | q
    · refine .inl fun z hz => ?_
      obtain ⟨g, _, rfl⟩ := List.mem_map.mp hz
      exact q g
    · refine .inr fun z hz => ?_
      obtain ⟨g, _, rfl⟩ := List.mem_map.mp hz
      exact q g
  · obtain ⟨g, _, rfl⟩ := List.mem_map.mp hz
    exact h.enc.lay g
  · obtain ⟨g, _, rfl⟩ := List.mem_map.mp hz
    exact ⟨by have := h.enc.dep g; omega, h.dep g⟩
  · obtain ⟨x, _, rfl⟩ := List.mem_map.mp ha
    obtain ⟨y, _, rfl⟩ := List.mem_map.mp hb
    exact h.cmp x y
end
end Q
end
section
open PySem L2 G P
open Q
local macro_rules | `(tactic| walk_at "ev") => `(tactic| simp (config := { decide := false }) only [seval, G.evB0, G.evB1, G.evB2, G.evB3, G.evB4, List.getElem?_set_self, List.length_set, List.set_set, List.map_cons, List.map_nil, List.length_cons, List.length_nil, List.replicate, List.cons_append, List.nil_append, List.getElem?_cons_zero, List.getElem?_cons_succ, List.set_cons_zero, List.set_cons_succ, Option.map_some, Option.map_none, Option.bind_some, Bool.not_true, Bool.not_false, if_true, if_false, decide_true, decide_false, Bool.false_eq_true, true_and, and_true, false_and, and_false, List.foldl_cons, List.foldl_nil, List.all_cons, List.all_nil, id_eq, Bool.and_true, Bool.true_and, eq_self, Bool.or_true, Bool.true_or, Bool.or_false, Bool.false_or, G.isNon, G.startE, G.bls, G.wipeE, Q.evSVG2_0, Q.evSVG3_0, Q.evSVG4_0, Q.evSVG5_0, Q.evSVG6_0, Q.evSVG7_0, P.evN0, Q.evQ2_0])
local macro_rules | `(tactic| walk_at "evs") => `(tactic| simp (config := { decide := false }) only [seval, G.evB0, G.evB1, G.evB2, G.evB3, G.evB4, List.getElem?_set_self, List.length_set, List.set_set, List.map_cons, List.map_nil, List.length_cons, List.length_nil, List.replicate, List.cons_append, List.nil_append, List.getElem?_cons_zero, List.getElem?_cons_succ, List.set_cons_zero, List.set_cons_succ, Option.map_some, Option.map_none, Option.bind_some, Bool.not_true, Bool.not_false, if_true, if_false, decide_true, decide_false, Bool.false_eq_true, true_and, and_true, false_and, and_false, List.foldl_cons, List.foldl_nil, List.all_cons, List.all_nil, id_eq, Bool.and_true, Bool.true_and, eq_self, Bool.or_true, Bool.true_or, Bool.or_false, Bool.false_or, G.isNon, G.startE, G.bls, G.wipeE, Q.evSVG2_0, Q.evSVG3_0, Q.evSVG4_0, Q.evSVG5_0, Q.evSVG6_0, Q.evSVG7_0, P.evN0, Q.evQ2_0, *])
namespace Q
theorem bls_map {α : Type} (p : α → Bool) : ∀ l : List α, bls (l.map fun a => D.bl (p a)) = some (l.map p)
  | [] => rfl
  | a :: l => by simp only [List.map_cons, bls, bls_map p l]; rfl
def Later (o l : Nat) (gs : List Gr) (fx kp : List Rl) (o' l' : Nat) (gs' : List Gr) : Prop := l' = l ∧ o ≤ o' ∧ (∀ g ∈ gs', g.1 ∈ fx → g ∈ gs) ∧ ∀ g ∈ gs, g.1 ∈ kp → g ∈ gs'
instance (o l : Nat) (gs : List Gr) (fx kp : List Rl) (o' l' : Nat) (gs' : List Gr) : Decidable (Later o l gs fx kp o' l' gs') := by unfold Later; exact inferInstance
end Q
namespace Q
end Q
end
section
open PySem L2 G P
open Q
local macro_rules | `(tactic| walk_at "ev") => `(tactic| simp (config := { decide := false }) only [seval, G.evB0, G.evB1, G.evB2, G.evB3, G.evB4, List.getElem?_set_self, List.length_set, List.set_set, List.map_cons, List.map_nil, List.length_cons, List.length_nil, List.replicate, List.cons_append, List.nil_append, List.getElem?_cons_zero, List.getElem?_cons_succ, List.set_cons_zero, List.set_cons_succ, Option.map_some, Option.map_none, Option.bind_some, Bool.not_true, Bool.not_false, if_true, if_false, decide_true, decide_false, Bool.false_eq_true, true_and, and_true, false_and, and_false, List.foldl_cons, List.foldl_nil, List.all_cons, List.all_nil, id_eq, Bool.and_true, Bool.true_and, eq_self, Bool.or_true, Bool.true_or, Bool.or_false, Bool.false_or, G.isNon, G.startE, G.bls, G.wipeE, Q.evSVG2_0, Q.evSVG3_0, Q.evSVG4_0, Q.evSVG5_0, Q.evSVG6_0, Q.evSVG7_0, P.evN0, Q.evQ2_0, Bool.false_and])
local macro_rules | `(tactic| walk_at "evs") => `(tactic| simp (config := { decide := false }) only [seval, G.evB0, G.evB1, G.evB2, G.evB3, G.evB4, List.getElem?_set_self, List.length_set, List.set_set, List.map_cons, List.map_nil, List.length_cons, List.length_nil, List.replicate, List.cons_append, List.nil_append, List.getElem?_cons_zero, List.getElem?_cons_succ, List.set_cons_zero, List.set_cons_succ, Option.map_some, Option.map_none, Option.bind_some, Bool.not_true, Bool.not_false, if_true, if_false, decide_true, decide_false, Bool.false_eq_true, true_and, and_true, false_and, and_false, List.foldl_cons, List.foldl_nil, List.all_cons, List.all_nil, id_eq, Bool.and_true, Bool.true_and, eq_self, Bool.or_true, Bool.true_or, Bool.or_false, Bool.false_or, G.isNon, G.startE, G.bls, G.wipeE, Q.evSVG2_0, Q.evSVG3_0, Q.evSVG4_0, Q.evSVG5_0, Q.evSVG6_0, Q.evSVG7_0, P.evN0, Q.evQ2_0, Bool.false_and, *])
namespace Q
theorem Wp_cutR {A B : MS} {en : En} {S : Sto} {Q : Fl → Sto → Prop} (h : ∀ K : Fl → Sto → Prop, Hid (∀ en1 S1, Wp (B en1 S1) Q → K (.nx en1) S1) → Hid (∀ d S1, Q (.rt d) S1 → K (.rt d) S1) → Wp (A en S) K) : Wp (sSeq A B en S) Q := by
  rw [sSeq_ap, Wp_bind]
  exact h (fun f S1 => Wp (seqK B f S1) Q) (fun en1 S1 k => k) fun d S1 k => k
end Q
namespace Q
end Q
end
section
open PySem L2 G P
open Q
local macro_rules | `(tactic| walk_at "ev") => `(tactic| simp (config := { decide := false }) only [seval, G.evB0, G.evB1, G.evB2, G.evB3, G.evB4, List.getElem?_set_self, List.length_set, List.set_set, List.map_cons, List.map_nil, List.length_cons, List.length_nil, List.replicate, List.cons_append, List.nil_append, List.getElem?_cons_zero, List.getElem?_cons_succ, List.set_cons_zero, List.set_cons_succ, Option.map_some, Option.map_none, Option.bind_some, Bool.not_true, Bool.not_false, if_true, if_false, decide_true, decide_false, Bool.false_eq_true, true_and, and_true, false_and, and_false, List.foldl_cons, List.foldl_nil, List.all_cons, List.all_nil, id_eq, Bool.and_true, Bool.true_and, eq_self, Bool.or_true, Bool.true_or, Bool.or_false, Bool.false_or, G.isNon, G.startE, G.bls, G.wipeE, Q.evSVG2_0, Q.evSVG3_0, Q.evSVG4_0, Q.evSVG5_0, Q.evSVG6_0, Q.evSVG7_0, P.evN0, Q.evQ2_0, Bool.false_and])
local macro_rules | `(tactic| walk_at "evs") => `(tactic| simp (config := { decide := false }) only [seval, G.evB0, G.evB1, G.evB2, G.evB3, G.evB4, List.getElem?_set_self, List.length_set, List.set_set, List.map_cons, List.map_nil, List.length_cons, List.length_nil, List.replicate, List.cons_append, List.nil_append, List.getElem?_cons_zero, List.getElem?_cons_succ, List.set_cons_zero, List.set_cons_succ, Option.map_some, Option.map_none, Option.bind_some, Bool.not_true, Bool.not_false, if_true, if_false, decide_true, decide_false, Bool.false_eq_true, true_and, and_true, false_and, and_false, List.foldl_cons, List.foldl_nil, List.all_cons, List.all_nil, id_eq, Bool.and_true, Bool.true_and, eq_self, Bool.or_true, Bool.true_or, Bool.or_false, Bool.false_or, G.isNon, G.startE, G.bls, G.wipeE, Q.evSVG2_0, Q.evSVG3_0, Q.evSVG4_0, Q.evSVG5_0, Q.evSVG6_0, Q.evSVG7_0, P.evN0, Q.evQ2_0, Bool.false_and, *])
namespace Q
end Q
namespace Q
end Q
namespace Q
inductive Ws where
  | sure (r : Rl) (w : Nat) | never (r : Rl) (w : Nat) | all (r : Rl) (ws : List Nat) | only (r : Rl) (ws : List Nat) | fil (r : Rl) | emp (r : Rl) | apt (r s : Rl)
def Ws.ok (o l : Nat) : Ws → Prop
  | .sure r w => Rl.ok o l r ∧ w < o
  | .never r w => Rl.ok o l r ∧ w < o
  | .all r ws => Rl.ok o l r ∧ ws.Pairwise (· < ·) ∧ ∀ w ∈ ws, w < o
  | .only r ws => Rl.ok o l r ∧ ws.Pairwise (· < ·) ∧ ∀ w ∈ ws, w < o
  | .fil r => Rl.ok o l r
  | .emp r => Rl.ok o l r
  | .apt r s => Rl.ok o l r ∧ Rl.ok o l s ∧ rLt r s
def Ws.keep : Ws → Bool
  | .sure _ _ => true
  | .all _ _ => true
  | .fil _ => true
  | _ => false
theorem map_id_all {α : Type} (p : α → Bool) (l : List α) : (l.map p).all id = l.all p := by rw [List.all_map]; rfl
end Q
local macro_rules | `(tactic| walk_at "ev") => `(tactic| simp (config := { decide := false }) only [seval, G.evB0, G.evB1, G.evB2, G.evB3, G.evB4, List.getElem?_set_self, List.length_set, List.set_set, List.map_cons, List.map_nil, List.length_cons, List.length_nil, List.replicate, List.cons_append, List.nil_append, List.getElem?_cons_zero, List.getElem?_cons_succ, List.set_cons_zero, List.set_cons_succ, Option.map_some, Option.map_none, Option.bind_some, Bool.not_true, Bool.not_false, if_true, if_false, decide_true, decide_false, Bool.false_eq_true, true_and, and_true, false_and, and_false, List.foldl_cons, List.foldl_nil, List.all_cons, List.all_nil, id_eq, Bool.and_true, Bool.true_and, eq_self, Bool.or_true, Bool.true_or, Bool.or_false, Bool.false_or, G.isNon, G.startE, G.bls, G.wipeE, Q.evSVG2_0, Q.evSVG3_0, Q.evSVG4_0, Q.evSVG5_0, Q.evSVG6_0, Q.evSVG7_0, P.evN0, Q.evQ2_0, Bool.false_and, bls_map, map_id_all])
local macro_rules | `(tactic| walk_at "evs") => `(tactic| simp (config := { decide := false }) only [seval, G.evB0, G.evB1, G.evB2, G.evB3, G.evB4, List.getElem?_set_self, List.length_set, List.set_set, List.map_cons, List.map_nil, List.length_cons, List.length_nil, List.replicate, List.cons_append, List.nil_append, List.getElem?_cons_zero, List.getElem?_cons_succ, List.set_cons_zero, List.set_cons_succ, Option.map_some, Option.map_none, Option.bind_some, Bool.not_true, Bool.not_false, if_true, if_false, decide_true, decide_false, Bool.false_eq_true, true_and, and_true, false_and, and_false, List.foldl_cons, List.foldl_nil, List.all_cons, List.all_nil, id_eq, Bool.and_true, Bool.true_and, eq_self, Bool.or_true, Bool.true_or, Bool.or_false, Bool.false_or, G.isNon, G.startE, G.bls, G.wipeE, Q.evSVG2_0, Q.evSVG3_0, Q.evSVG4_0, Q.evSVG5_0, Q.evSVG6_0, Q.evSVG7_0, P.evN0, Q.evQ2_0, Bool.false_and, bls_map, map_id_all, *])
namespace Q
end Q
namespace Q
def evQ45_0 := And.intro @bls_map (And.intro @map_id_all (True.intro))
end Q
end
section
open PySem L2 G P
open Q
local macro_rules | `(tactic| walk_at "ev") => `(tactic| simp (config := { decide := false }) only [seval, G.evB0, G.evB1, G.evB2, G.evB3, G.evB4, List.getElem?_set_self, List.length_set, List.set_set, List.map_cons, List.map_nil, List.length_cons, List.length_nil, List.replicate, List.cons_append, List.nil_append, List.getElem?_cons_zero, List.getElem?_cons_succ, List.set_cons_zero, List.set_cons_succ, Option.map_some, Option.map_none, Option.bind_some, Bool.not_true, Bool.not_false, if_true, if_false, decide_true, decide_false, Bool.false_eq_true, true_and, and_true, false_and, and_false, List.foldl_cons, List.foldl_nil, List.all_cons, List.all_nil, id_eq, Bool.and_true, Bool.true_and, eq_self, Bool.or_true, Bool.true_or, Bool.or_false, Bool.false_or, G.isNon, G.startE, G.bls, G.wipeE, Q.evSVG2_0, Q.evSVG3_0, Q.evSVG4_0, Q.evSVG5_0, Q.evSVG6_0, Q.evSVG7_0, P.evN0, Q.evQ2_0, Bool.false_and, Q.evQ45_0])
local macro_rules | `(tactic| walk_at "evs") => `(tactic| simp (config := { decide := false }) only [seval, G.evB0, G.evB1, G.evB2, G.evB3, G.evB4, List.getElem?_set_self, List.length_set, List.set_set, List.map_cons, List.map_nil, List.length_cons, List.length_nil, List.replicate, List.cons_append, List.nil_append, List.getElem?_cons_zero, List.getElem?_cons_succ, List.set_cons_zero, List.set_cons_succ, Option.map_some, Option.map_none, Option.bind_some, Bool.not_true, Bool.not_false, if_true, if_false, decide_true, decide_false, Bool.false_eq_true, true_and, and_true, false_and, and_false, List.foldl_cons, List.foldl_nil, List.all_cons, List.all_nil, id_eq, Bool.and_true, Bool.true_and, eq_self, Bool.or_true, Bool.true_or, Bool.or_false, Bool.false_or, G.isNon, G.startE, G.bls, G.wipeE, Q.evSVG2_0, Q.evSVG3_0, Q.evSVG4_0, Q.evSVG5_0, Q.evSVG6_0, Q.evSVG7_0, P.evN0, Q.evQ2_0, Bool.false_and, Q.evQ45_0, *])
namespace Q
mutual
def anyD : D → Bool
  | .non => true
  | .bl _ => true
  | .int _ => true
  | .str x => PyData.strOk x
  | .tup xs => anyDs xs && decide (xs.length ≤ 1000)
  | .lst xs => anyDs xs
  | .dic _ _ => true
  | _ => false
def anyDs : List D → Bool
  | [] => true
  | d :: r => anyD d && anyDs r
end
end Q
end
section
open PySem L2 G P
open Q
local macro_rules | `(tactic| walk_at "ev") => `(tactic| simp (config := { decide := false }) only [seval, G.evB0, G.evB1, G.evB2, G.evB3, G.evB4, List.getElem?_set_self, List.length_set, List.set_set, List.map_cons, List.map_nil, List.length_cons, List.length_nil, List.replicate, List.cons_append, List.nil_append, List.getElem?_cons_zero, List.getElem?_cons_succ, List.set_cons_zero, List.set_cons_succ, Option.map_some, Option.map_none, Option.bind_some, Bool.not_true, Bool.not_false, if_true, if_false, decide_true, decide_false, Bool.false_eq_true, true_and, and_true, false_and, and_false, List.foldl_cons, List.foldl_nil, List.all_cons, List.all_nil, id_eq, Bool.and_true, Bool.true_and, eq_self, Bool.or_true, Bool.true_or, Bool.or_false, Bool.false_or, G.isNon, G.startE, G.bls, G.wipeE, Q.evSVG2_0, Q.evSVG3_0, Q.evSVG4_0, Q.evSVG5_0, Q.evSVG6_0, Q.evSVG7_0, P.evN0, Q.evQ2_0, Bool.false_and, Q.evQ45_0])
local macro_rules | `(tactic| walk_at "evs") => `(tactic| simp (config := { decide := false }) only [seval, G.evB0, G.evB1, G.evB2, G.evB3, G.evB4, List.getElem?_set_self, List.length_set, List.set_set, List.map_cons, List.map_nil, List.length_cons, List.length_nil, List.replicate, List.cons_append, List.nil_append, List.getElem?_cons_zero, List.getElem?_cons_succ, List.set_cons_zero, List.set_cons_succ, Option.map_some, Option.map_none, Option.bind_some, Bool.not_true, Bool.not_false, if_true, if_false, decide_true, decide_false, Bool.false_eq_true, true_and, and_true, false_and, and_false, List.foldl_cons, List.foldl_nil, List.all_cons, List.all_nil, id_eq, Bool.and_true, Bool.true_and, eq_self, Bool.or_true, Bool.true_or, Bool.or_false, Bool.false_or, G.isNon, G.startE, G.bls, G.wipeE, Q.evSVG2_0, Q.evSVG3_0, Q.evSVG4_0, Q.evSVG5_0, Q.evSVG6_0, Q.evSVG7_0, P.evN0, Q.evQ2_0, Bool.false_and, Q.evQ45_0, *])
namespace Q
theorem lt_nat (S : Sto) (a b : Nat) : dLt S (.int a) (.int b) = some (.bl (decide (a < b))) := by
  rw [dLt_int]
  congr 2
  exact decide_eq_decide.mpr (by omega)
end Q
end
section
open PySem L2 G P
open Q
local macro_rules | `(tactic| walk_at "ev") => `(tactic| simp (config := { decide := false }) only [seval, G.evB0, G.evB1, G.evB2, G.evB3, G.evB4, List.getElem?_set_self, List.length_set, List.set_set, List.map_cons, List.map_nil, List.length_cons, List.length_nil, List.replicate, List.cons_append, List.nil_append, List.getElem?_cons_zero, List.getElem?_cons_succ, List.set_cons_zero, List.set_cons_succ, Option.map_some, Option.map_none, Option.bind_some, Bool.not_true, Bool.not_false, if_true, if_false, decide_true, decide_false, Bool.false_eq_true, true_and, and_true, false_and, and_false, List.foldl_cons, List.foldl_nil, List.all_cons, List.all_nil, id_eq, Bool.and_true, Bool.true_and, eq_self, Bool.or_true, Bool.true_or, Bool.or_false, Bool.false_or, G.isNon, G.startE, G.bls, G.wipeE, Q.evSVG2_0, Q.evSVG3_0, Q.evSVG4_0, Q.evSVG5_0, Q.evSVG6_0, Q.evSVG7_0, P.evN0, Q.evQ2_0, Bool.false_and, Q.evQ45_0, add_lst, min_r, max_r])
local macro_rules | `(tactic| walk_at "evs") => `(tactic| simp (config := { decide := false }) only [seval, G.evB0, G.evB1, G.evB2, G.evB3, G.evB4, List.getElem?_set_self, List.length_set, List.set_set, List.map_cons, List.map_nil, List.length_cons, List.length_nil, List.replicate, List.cons_append, List.nil_append, List.getElem?_cons_zero, List.getElem?_cons_succ, List.set_cons_zero, List.set_cons_succ, Option.map_some, Option.map_none, Option.bind_some, Bool.not_true, Bool.not_false, if_true, if_false, decide_true, decide_false, Bool.false_eq_true, true_and, and_true, false_and, and_false, List.foldl_cons, List.foldl_nil, List.all_cons, List.all_nil, id_eq, Bool.and_true, Bool.true_and, eq_self, Bool.or_true, Bool.true_or, Bool.or_false, Bool.false_or, G.isNon, G.startE, G.bls, G.wipeE, Q.evSVG2_0, Q.evSVG3_0, Q.evSVG4_0, Q.evSVG5_0, Q.evSVG6_0, Q.evSVG7_0, P.evN0, Q.evQ2_0, Bool.false_and, Q.evQ45_0, add_lst, min_r, max_r, *])
namespace Q
def LkO (g sm c : Int) : Ob := .lst [.int g, .int sm, .int c]
def LkOk (sm : Int) : Prop := 0 ≤ sm ∧ sm < 2305843009213693951
def HasLk (S : Sto) (i : Nat) : Prop := ∃ g sm c, S[i]? = some (LkO g sm c) ∧ LkOk sm
def LkTo (S : Sto) (i : Nat) (S' : Sto) : Prop := ∃ g sm c, S' = S.set i (LkO g sm c) ∧ LkOk sm
theorem HasLk.lt {S : Sto} {i : Nat} (h : HasLk S i) : i < S.length := by
  obtain ⟨g, sm, c, e, _⟩ := h
  exact (List.getElem?_eq_some_iff.mp e).1
theorem LkTo.has {S S' : Sto} {i : Nat} (h : LkTo S i S') (hi : i < S.length) : HasLk S' i := by
  obtain ⟨g, sm, c, rfl, k⟩ := h
  exact ⟨g, sm, c, List.getElem?_set_self hi, k⟩
theorem LkTo.trans {S S' S'' : Sto} {i : Nat} (h : LkTo S i S') (h' : LkTo S' i S'') : LkTo S i S'' := by
  obtain ⟨g, sm, c, rfl, k⟩ := h
  obtain ⟨g', sm', c', rfl, k'⟩ := h'
  exact ⟨g', sm', c', List.set_set _, k'⟩
theorem LkTo.len {S S' : Sto} {i : Nat} (h : LkTo S i S') : S'.length = S.length := by
  obtain ⟨g, sm, c, rfl, k⟩ := h
  exact List.length_set
theorem HasLk.refl {S : Sto} {i : Nat} (h : HasLk S i) : LkTo S i S := by
  obtain ⟨g, sm, c, e, k⟩ := h
  refine ⟨g, sm, c, ?_, k⟩
  obtain ⟨hi, e'⟩ := List.getElem?_eq_some_iff.mp e
  rw [← e', List.set_getElem_self]
theorem LkTo.cl {S S' : Sto} {i : Nat} (h : LkTo S i S') : Cl S S' := by
  obtain ⟨g, sm, c, rfl, k⟩ := h
  exact Cl.set (by simp [LkO, Ob.bel, D.bels, D.bel])
theorem LkTo.get {S S' : Sto} {i j : Nat} (h : LkTo S i S') (hj : i ≠ j) : S'[j]? = S[j]? := by
  obtain ⟨g, sm, c, rfl, k⟩ := h
  exact List.getElem?_set_ne hj
theorem drop_lk {S : Sto} {i : Nat} {r : Res D} {Q : D → Prop} (hb : ∀ d, Q d → ∀ k, d.bel k = True) (hr : Wp r fun d S' => Q d ∧ LkTo S i S') : Wp (r.drop S) fun d S' => Q d ∧ LkTo S i S' := by
  rw [Wp_drop]
  refine hr.mono ?_
  rintro d S' ⟨q, t⟩
  refine ⟨⟨t.cl, by rw [hb d q]; trivial⟩, q, ?_⟩
  rw [List.take_of_length_le (by rw [t.len]; exact Nat.le_refl _)]
  exact t
theorem take_lk {S : Sto} {i : Nat} {many : Nat} (hS : HasLk S i) (h1 : 0 < many) (h2 : many ≤ 1000000) :
    Wp (fn_law_take_v2.run [.ref i, .int many] S) fun d S' => (∃ r : Nat, d = .int r ∧ r < many) ∧ LkTo S i S' := by
  obtain ⟨g, sm, c, hS, h⟩ := hS
  unfold LkO at hS
  have hm1 : (0 : Int) < (many : Int) := by omega
  have hm2 : (many : Int) < 1073741824 := by omega
  have hi : i < S.length := (List.getElem?_eq_some_iff.mp hS).1
  have hsm1 : -18446744073709551616 < sm := by have := h.1; omega
  have hsm2 : sm < 18446744073709551616 := by have := h.2; omega
  unfold fn_law_take_v2 ms_law_take_v2
  rw [dropF_run]
  refine drop_lk (fun d hd k => ?_) ?_
  · obtain ⟨r, rfl, _⟩ := hd
    simp only [D.bel]
  have q1 : ∀ x : Int, -18446744073709551616 < x % 2305843009213693951 := fun x => by have := Int.emod_nonneg x (show (2305843009213693951 : Int) ≠ 0 by decide); omega
  have q2 : ∀ x : Int, x % 2305843009213693951 < 18446744073709551616 := fun x => by have := Int.emod_lt_of_pos x (show (0 : Int) < 2305843009213693951 by decide); omega
  have I : ∀ (T : Sto) (a b c : D), T[i]? = some (.lst [a, b, c]) → dIdxA T (.ref i) (.int 0) = some a ∧ dIdxA T (.ref i) (.int 1) = some b ∧ dIdxA T (.ref i) (.int 2) = some c := fun T a b c h => ⟨idx_ref h rfl, idx_ref h rfl, idx_ref h rfl⟩
  obtain ⟨i0, i1, i2⟩ := I S _ _ _ hS
  have j0 : ∀ a b c : D, dIdxA (S.set i (.lst [a, b, c])) (.ref i) (.int 0) = some a := fun a b c => (I _ a b c (List.getElem?_set_self hi)).1
  have j1 : ∀ a b c : D, dIdxA (S.set i (.lst [a, b, c])) (.ref i) (.int 1) = some b := fun a b c => (I _ a b c (List.getElem?_set_self hi)).2.1
  have j2 : ∀ a b c : D, dIdxA (S.set i (.lst [a, b, c])) (.ref i) (.int 2) = some c := fun a b c => (I _ a b c (List.getElem?_set_self hi)).2.2
  clear I
  by_cases hg : 0 < g
  · obtain ⟨r, er, hr⟩ := mod_nat (x := g) h1
    walk_at "evs"
    exact ⟨⟨r, rfl, hr⟩, g / many, sm, c, rfl, h⟩
  · walk_at "evs"
    refine ⟨?_, g, _, c + 1, rfl, ⟨Int.emod_nonneg _ (by decide), Int.emod_lt_of_pos _ (by decide)⟩⟩
    obtain ⟨r, er, hr⟩ := mod_nat (x := (sm * 3202034522624059733 + 1181783497276652981 * (c + 1)) % 2305843009213693951 * ((sm * 3202034522624059733 + 1181783497276652981 * (c + 1)) % 2305843009213693951) % 2305843009213693921 / 4096) h1
    exact ⟨r, congrArg D.int er, hr⟩
theorem role_lk {S : Sto} {i : Nat} {o l : Nat} (hS : HasLk S i) (ho1 : 0 < o) (ho2 : o ≤ 1000000) (hl1 : 0 < l) (hl2 : l ≤ 1000000) :
    Wp (fn_law_role_v2.run [.ref i, .int o, .int l] S) fun d S' => (∃ r : Rl, d = rD r ∧ Rl.ok o l r) ∧ LkTo S i S' := by
  have hi := hS.lt
  unfold fn_law_role_v2 ms_law_role_v2
  rw [dropF_run]
  refine drop_lk (fun d hd k => ?_) ?_
  · obtain ⟨r, rfl, _⟩ := hd
    exact bel_r k r
  walk_at "evs"
  refine (take_lk hS ho1 ho2).mono ?_
  rintro _ S1 ⟨⟨a, rfl, ha⟩, t1⟩
  try walk_at "ev"
  refine (take_lk (t1.has hi) hl1 hl2).mono ?_
  rintro _ S2 ⟨⟨b, rfl, hb⟩, t2⟩
  try walk_at "ev"
  exact ⟨⟨(a, b), rfl, ha, hb⟩, t1.trans t2⟩
end Q
end
section
open PySem L2 G P
open Q
local macro_rules | `(tactic| walk_at "ev") => `(tactic| simp (config := { decide := false }) only [seval, G.evB0, G.evB1, G.evB2, G.evB3, G.evB4, List.getElem?_set_self, List.length_set, List.set_set, List.map_cons, List.map_nil, List.length_cons, List.length_nil, List.replicate, List.cons_append, List.nil_append, List.getElem?_cons_zero, List.getElem?_cons_succ, List.set_cons_zero, List.set_cons_succ, Option.map_some, Option.map_none, Option.bind_some, Bool.not_true, Bool.not_false, if_true, if_false, decide_true, decide_false, Bool.false_eq_true, true_and, and_true, false_and, and_false, List.foldl_cons, List.foldl_nil, List.all_cons, List.all_nil, id_eq, Bool.and_true, Bool.true_and, eq_self, Bool.or_true, Bool.true_or, Bool.or_false, Bool.false_or, G.isNon, G.startE, G.bls, G.wipeE, Q.evSVG2_0, Q.evSVG3_0, Q.evSVG4_0, Q.evSVG5_0, Q.evSVG6_0, Q.evSVG7_0, P.evN0, Q.evQ2_0, Bool.false_and, Q.evQ45_0, add_lst, min_r, max_r])
local macro_rules | `(tactic| walk_at "evs") => `(tactic| simp (config := { decide := false }) only [seval, G.evB0, G.evB1, G.evB2, G.evB3, G.evB4, List.getElem?_set_self, List.length_set, List.set_set, List.map_cons, List.map_nil, List.length_cons, List.length_nil, List.replicate, List.cons_append, List.nil_append, List.getElem?_cons_zero, List.getElem?_cons_succ, List.set_cons_zero, List.set_cons_succ, Option.map_some, Option.map_none, Option.bind_some, Bool.not_true, Bool.not_false, if_true, if_false, decide_true, decide_false, Bool.false_eq_true, true_and, and_true, false_and, and_false, List.foldl_cons, List.foldl_nil, List.all_cons, List.all_nil, id_eq, Bool.and_true, Bool.true_and, eq_self, Bool.or_true, Bool.true_or, Bool.or_false, Bool.false_or, G.isNon, G.startE, G.bls, G.wipeE, Q.evSVG2_0, Q.evSVG3_0, Q.evSVG4_0, Q.evSVG5_0, Q.evSVG6_0, Q.evSVG7_0, P.evN0, Q.evQ2_0, Bool.false_and, Q.evQ45_0, add_lst, min_r, max_r, *])
namespace Q
theorem deck2_run {S : Sto} {ns : List Int} (hl : ns.length ≤ 63) : Wp (fn_law_deck_v2.run [.scr (ns.map .int)] S) fun d S' => d = .ref S.length ∧ ∃ g sm, S' = S ++ [LkO g sm 0] ∧ LkOk sm := by
  have hp : CPow 10 18 := ⟨by decide, by decide, by decide⟩
  have e1 : (10 : Int) ^ 18 = 1000000000000000000 := by decide
  have q1 : ∀ x : Int, LkOk (x % 2305843009213693951) := fun x => ⟨Int.emod_nonneg _ (by decide), Int.emod_lt_of_pos _ (by decide)⟩
  have c63 : cutD (ns.map D.int) none (some 63) = (ns.take 63).map D.int := by rw [show (63 : Int) = ((63 : Nat) : Int) from rfl, cut_hi, List.map_take]
  unfold fn_law_deck_v2 ms_law_deck_v2
  walk_at "evs"
  refine Wp_for (fun pre en S' => S' = S ∧ ∃ g sm x y, en = [some (.scr (ns.map .int)), some (.int g), some (.int sm), x, y] ∧ LkOk sm) ?_ ?_ ?_
  · refine ⟨rfl, _, _, none, none, rfl, ?_⟩
    try simp only [List.length_map]
    exact ⟨by omega, by omega⟩
  · rintro pre z suf en S' hd ⟨rfl, g, sm, x, y, rfl, hs⟩
    refine ⟨_, gN_ap _ _ _, ?_⟩
    clear hd c63
    by_cases hz : 1000000000000000000 ≤ z
    · walk_at "evs"
      exact ⟨_, _, _, _, rfl, hs⟩
    · walk_at "evs"
      exact ⟨_, _, _, _, rfl, q1 _⟩
  · rintro en S' ⟨rfl, g, sm, x, y, rfl, hs⟩
    walk_at "evs"
    exact ⟨g, sm, rfl, hs⟩
theorem pick_lk {S : Sto} {i : Nat} {x : D} {ds : List D} (hS : HasLk S i) (hL : dLen S [x] = some (.int ds.length)) (hI : ∀ S' (k : Nat) d, ds[k]? = some d → dIdxA S' x (.int k) = some d) (h1 : 0 < ds.length) (h2 : ds.length ≤ 1000000) (hb : ∀ d ∈ ds, ∀ k, d.bel k = True) :
    Wp (fn_law_pick.run [.ref i, x] S) fun d S' => d ∈ ds ∧ LkTo S i S' := by
  unfold fn_law_pick ms_law_pick
  rw [dropF_run]
  refine drop_lk (fun d hd k => hb d hd k) ?_
  walk_at "evs"
  refine (take_lk hS h1 h2).mono ?_
  rintro _ S1 ⟨⟨r, rfl, hr⟩, t1⟩
  have e := hI S1 r ds[r] (List.getElem?_eq_getElem hr)
  walk_at "evs"
  exact List.getElem_mem hr
theorem pick_lst {S : Sto} {i : Nat} {ds : List D} (hS : HasLk S i) (h1 : 0 < ds.length) (h2 : ds.length ≤ 1000000) (hb : ∀ d ∈ ds, ∀ k, d.bel k = True) :
    Wp (fn_law_pick.run [.ref i, .lst ds] S) fun d S' => d ∈ ds ∧ LkTo S i S' :=
  pick_lk hS rfl (fun S' k d h => by rw [dIdxA_lst]; exact atI_at (by omega) (by rw [Int.toNat_natCast]; exact h)) h1 h2 hb
theorem grant_lk {S : Sto} {i : Nat} {o l : Nat} (hS : HasLk S i) (ho1 : 0 < o) (ho2 : o ≤ 1000000) (hl1 : 0 < l) (hl2 : l ≤ 1000000) :
    Wp (fn_law_grant.run [.ref i, .int o, .int l] S) fun d S' => (∃ g : Gr, d = gD g ∧ Gr.ok o l g) ∧ LkTo S i S' := by
  have hi := hS.lt
  unfold fn_law_grant ms_law_grant
  rw [dropF_run]
  refine drop_lk (fun d hd k => ?_) ?_
  · obtain ⟨g, rfl, _⟩ := hd
    exact bel_g k g
  walk_at "evs"
  refine (role_lk hS ho1 ho2 hl1 hl2).mono ?_
  rintro _ S1 ⟨⟨a, rfl, ha⟩, t1⟩
  try walk_at "ev"
  refine (role_lk (t1.has hi) ho1 ho2 hl1 hl2).mono ?_
  rintro _ S2 ⟨⟨b, rfl, hb⟩, t2⟩
  have t := t1.trans t2
  try walk_at "ev"
  refine (take_lk (many := 8) (t.has hi) (by decide) (by decide)).mono ?_
  rintro _ S3 ⟨⟨w, rfl, hw⟩, t3⟩
  have t := t.trans t3
  have e3 := lt_nat S3 w 3
  have e5 := lt_nat S3 w 5
  have e7 := lt_nat S3 w 7
  rw [show ((3 : Nat) : Int) = 3 from rfl] at e3
  rw [show ((5 : Nat) : Int) = 5 from rfl] at e5
  rw [show ((7 : Nat) : Int) = 7 from rfl] at e7
  by_cases h3 : w < 3
  · rw [decide_eq_true h3] at e3
    clear hw h3 e5 e7
    walk_at "evs"
    refine (take_lk (t.has hi) ho1 ho2).mono ?_
    rintro _ S4 ⟨⟨c, rfl, hc⟩, t4⟩
    try walk_at "ev"
    exact ⟨⟨(a, .own c), rfl, ha, hc⟩, t.trans t4⟩
  rw [decide_eq_false h3] at e3
  by_cases h5 : w < 5
  · rw [decide_eq_true h5] at e5
    clear hw h3 h5 e7
    walk_at "evs"
    exact ⟨(a, .rol b), rfl, ha, hb⟩
  rw [decide_eq_false h5] at e5
  by_cases h7 : w < 7
  · rw [decide_eq_true h7] at e7
    clear hw h3 h5 h7
    walk_at "evs"
    refine (take_lk (t.has hi) hl1 hl2).mono ?_
    rintro _ S4 ⟨⟨c, rfl, hc⟩, t4⟩
    try walk_at "ev"
    exact ⟨⟨(a, .thr b c), rfl, ha, hb, hc⟩, t.trans t4⟩
  rw [decide_eq_false h7] at e7
  clear hw h3 h5 h7
  walk_at "evs"
  refine (role_lk (t.has hi) ho1 ho2 hl1 hl2).mono ?_
  rintro _ S4 ⟨⟨c, rfl, hc⟩, t4⟩
  have t := t.trans t4
  by_cases e : b = c
  · subst e
    try walk_at "ev"
    exact ⟨⟨(a, .rol b), rfl, ha, hb⟩, t⟩
  · have e' : decide (b = c) = false := decide_eq_false e
    clear e3 e5 e7
    walk_at "evs"
    exact ⟨(a, .bot _ _), rfl, ha, minmax e hb hc⟩
end Q
end
section
open PySem L2 G P
open Q
local macro_rules | `(tactic| walk_at "ev") => `(tactic| simp (config := { decide := false }) only [seval, G.evB0, G.evB1, G.evB2, G.evB3, G.evB4, List.getElem?_set_self, List.length_set, List.set_set, List.map_cons, List.map_nil, List.length_cons, List.length_nil, List.replicate, List.cons_append, List.nil_append, List.getElem?_cons_zero, List.getElem?_cons_succ, List.set_cons_zero, List.set_cons_succ, Option.map_some, Option.map_none, Option.bind_some, Bool.not_true, Bool.not_false, if_true, if_false, decide_true, decide_false, Bool.false_eq_true, true_and, and_true, false_and, and_false, List.foldl_cons, List.foldl_nil, List.all_cons, List.all_nil, id_eq, Bool.and_true, Bool.true_and, eq_self, Bool.or_true, Bool.true_or, Bool.or_false, Bool.false_or, G.isNon, G.startE, G.bls, G.wipeE, Q.evSVG2_0, Q.evSVG3_0, Q.evSVG4_0, Q.evSVG5_0, Q.evSVG6_0, Q.evSVG7_0, P.evN0, Q.evQ2_0, Bool.false_and, Q.evQ45_0])
local macro_rules | `(tactic| walk_at "evs") => `(tactic| simp (config := { decide := false }) only [seval, G.evB0, G.evB1, G.evB2, G.evB3, G.evB4, List.getElem?_set_self, List.length_set, List.set_set, List.map_cons, List.map_nil, List.length_cons, List.length_nil, List.replicate, List.cons_append, List.nil_append, List.getElem?_cons_zero, List.getElem?_cons_succ, List.set_cons_zero, List.set_cons_succ, Option.map_some, Option.map_none, Option.bind_some, Bool.not_true, Bool.not_false, if_true, if_false, decide_true, decide_false, Bool.false_eq_true, true_and, and_true, false_and, and_false, List.foldl_cons, List.foldl_nil, List.all_cons, List.all_nil, id_eq, Bool.and_true, Bool.true_and, eq_self, Bool.or_true, Bool.true_or, Bool.or_false, Bool.false_or, G.isNon, G.startE, G.bls, G.wipeE, Q.evSVG2_0, Q.evSVG3_0, Q.evSVG4_0, Q.evSVG5_0, Q.evSVG6_0, Q.evSVG7_0, P.evN0, Q.evQ2_0, Bool.false_and, Q.evQ45_0, *])
namespace Q
def Wild (v : D) : Prop := v = .int (10 ^ 40) ∨ v = .dic [] [] ∨ v = .dic [.str "0"] [.int 0]
structure Val (v : D) : Prop where
  any : anyD v = true
  bel : ∀ k, v.bel k = True
  shw : Sm 2000 6 v ∨ Wild v
def valB (v : D) : Bool := anyD v && (smD v && decide (dpD v ≤ 6) && decide (wD v ≤ 2000))
theorem val_of {v : D} (h : valB v = true) (hb : ∀ k, v.bel k = True) : Val v := by
  simp only [valB, Bool.and_eq_true, decide_eq_true_eq] at h
  exact ⟨h.1, hb, .inl ⟨h.2.1.1, h.2.1.2, h.2.2⟩⟩
def oddA : List D := [.non, .bl true, .bl false, .int 0, .int 1, .int 3, .int (-1), .int (10 ^ 40), .str "", .str "0", .str "0.0", .str "owner", .tup [], .tup [.int 0], .tup [.int 0, .int 0], .tup [.int 0, .bl true], .tup [.bl false, .int 0]]
def oddB : List D := [.tup [.int 9, .int 9], .tup [.int (-1), .int 0], .lst [.int 0, .int 0], .lst [], .dic [] [], .dic [.str "0"] [.int 0], .tup [.tup [.int 0, .int 0]], .tup [.tup [.int 0, .int 0], .tup [.str "owner"]], .tup [.tup [.int 0, .int 0], .tup [.str "owner", .int 99]], .tup [.lst [.int 0], .int 0]]
def oddC : List D := [.tup [.tup [.int 0, .int 0], .lst [.str "owner", .int 0]], .tup [.tup [.int 0, .int 0], .tup [.str "role", .int 0]], .tup [.tup [.int 0, .int 0], .tup [.str "both", .tup [.int 0, .int 0], .tup [.int 0, .int 0]]], .tup [.tup [.str "a"]]]
def oddV : List D := oddA ++ oddB ++ oddC
theorem odd_val : ∀ v ∈ oddV, Val v := by
  intro v hv
  have V : ∀ {v : D}, v ∈ oddV → valB v = true ∨ Wild v := by
    intro v hv
    simp only [oddV, oddA, oddB, oddC, List.mem_append, List.mem_cons, List.not_mem_nil, or_false] at hv
    rcases hv with ((rfl | rfl | rfl | rfl | rfl | rfl | rfl | rfl | rfl | rfl | rfl | rfl | rfl | rfl | rfl | rfl | rfl) | rfl | rfl | rfl | rfl | rfl | rfl | rfl | rfl | rfl | rfl) | rfl | rfl | rfl | rfl <;>
      first
        | exact .inl (by decide +kernel)
        | exact .inr (.inl rfl)
        | exact .inr (.inr (.inl rfl))
        | exact .inr (.inr (.inr rfl))
  have B : ∀ k, v.bel k = True := by
    intro k
    simp only [oddV, oddA, oddB, oddC, List.mem_append, List.mem_cons, List.not_mem_nil, or_false] at hv
    rcases hv with ((rfl | rfl | rfl | rfl | rfl | rfl | rfl | rfl | rfl | rfl | rfl | rfl | rfl | rfl | rfl | rfl | rfl) | rfl | rfl | rfl | rfl | rfl | rfl | rfl | rfl | rfl | rfl) | rfl | rfl | rfl | rfl <;> simp only [D.bel, D.bels, and_self]
  rcases V hv with h | h
  · exact val_of h B
  · refine ⟨?_, B, .inr h⟩
    rcases h with rfl | rfl | rfl <;> rfl
theorem odd_lk {S : Sto} {i : Nat} (hS : HasLk S i) : Wp (fn_law_odd_v2.run [.ref i] S) fun d S' => Val d ∧ LkTo S i S' := by
  unfold fn_law_odd_v2 ms_law_odd_v2
  rw [dropF_run]
  refine drop_lk (fun d hd k => hd.bel k) ?_
  have p2 : ∀ S, dPow S (.int 10) (.int 40) = some (.int (10 ^ 40)) := fun S => dPow_int (show CPow _ _ from ⟨by decide, by decide, by decide⟩)
  have ad : ∀ (S : Sto) (x y : List D), (decide (x.length + y.length ≤ 1000000)) = true → dAdd S (.lst x) (.lst y) = some (.lst (x ++ y)) := fun S x y h => add_lst (of_decide_eq_true h)
  walk_at "evs"
  refine (pick_lst (ds := oddV) hS (by decide) (by decide) (fun d hd => (odd_val d hd).bel)).mono ?_
  rintro d S2 ⟨hd, h2⟩
  exact ⟨odd_val d hd, h2⟩
end Q
end
section
open PySem L2 G P
open Q
local macro_rules | `(tactic| walk_at "ev") => `(tactic| simp (config := { decide := false }) only [seval, G.evB0, G.evB1, G.evB2, G.evB3, G.evB4, List.getElem?_set_self, List.length_set, List.set_set, List.map_cons, List.map_nil, List.length_cons, List.length_nil, List.replicate, List.cons_append, List.nil_append, List.getElem?_cons_zero, List.getElem?_cons_succ, List.set_cons_zero, List.set_cons_succ, Option.map_some, Option.map_none, Option.bind_some, Bool.not_true, Bool.not_false, if_true, if_false, decide_true, decide_false, Bool.false_eq_true, true_and, and_true, false_and, and_false, List.foldl_cons, List.foldl_nil, List.all_cons, List.all_nil, id_eq, Bool.and_true, Bool.true_and, eq_self, Bool.or_true, Bool.true_or, Bool.or_false, Bool.false_or, G.isNon, G.startE, G.bls, G.wipeE, Q.evSVG2_0, Q.evSVG3_0, Q.evSVG4_0, Q.evSVG5_0, Q.evSVG6_0, Q.evSVG7_0, P.evN0, Q.evQ2_0, Bool.false_and, Q.evQ45_0])
local macro_rules | `(tactic| walk_at "evs") => `(tactic| simp (config := { decide := false }) only [seval, G.evB0, G.evB1, G.evB2, G.evB3, G.evB4, List.getElem?_set_self, List.length_set, List.set_set, List.map_cons, List.map_nil, List.length_cons, List.length_nil, List.replicate, List.cons_append, List.nil_append, List.getElem?_cons_zero, List.getElem?_cons_succ, List.set_cons_zero, List.set_cons_succ, Option.map_some, Option.map_none, Option.bind_some, Bool.not_true, Bool.not_false, if_true, if_false, decide_true, decide_false, Bool.false_eq_true, true_and, and_true, false_and, and_false, List.foldl_cons, List.foldl_nil, List.all_cons, List.all_nil, id_eq, Bool.and_true, Bool.true_and, eq_self, Bool.or_true, Bool.true_or, Bool.or_false, Bool.false_or, G.isNon, G.startE, G.bls, G.wipeE, Q.evSVG2_0, Q.evSVG3_0, Q.evSVG4_0, Q.evSVG5_0, Q.evSVG6_0, Q.evSVG7_0, P.evN0, Q.evQ2_0, Bool.false_and, Q.evQ45_0, *])
namespace Q
def Shz (d : D) : Prop := ∃ z, ∀ S, dReprZ S [d] = some (.str z)
theorem shz_of {d : D} (h : ∃ z, ∀ S, dRepr S [d] = some (.str z)) : Shz d := by
  obtain ⟨z, hz⟩ := h
  exact ⟨z, fun S => dReprZ_of (hz S)⟩
theorem Sm.shz {w p : Nat} {d : D} (h : Sm w p d) (h1 : w ≤ 1000000) (h2 : p ≤ 60) : Shz d := shz_of (h.repr h1 h2 rfl)
end Q
end
section
open PySem L2 G P
open Q
local macro_rules | `(tactic| walk_at "ev") => `(tactic| simp (config := { decide := false }) only [seval, G.evB0, G.evB1, G.evB2, G.evB3, G.evB4, List.getElem?_set_self, List.length_set, List.set_set, List.map_cons, List.map_nil, List.length_cons, List.length_nil, List.replicate, List.cons_append, List.nil_append, List.getElem?_cons_zero, List.getElem?_cons_succ, List.set_cons_zero, List.set_cons_succ, Option.map_some, Option.map_none, Option.bind_some, Bool.not_true, Bool.not_false, if_true, if_false, decide_true, decide_false, Bool.false_eq_true, true_and, and_true, false_and, and_false, List.foldl_cons, List.foldl_nil, List.all_cons, List.all_nil, id_eq, Bool.and_true, Bool.true_and, eq_self, Bool.or_true, Bool.true_or, Bool.or_false, Bool.false_or, G.isNon, G.startE, G.bls, G.wipeE, Q.evSVG2_0, Q.evSVG3_0, Q.evSVG4_0, Q.evSVG5_0, Q.evSVG6_0, Q.evSVG7_0, P.evN0, Q.evQ2_0, Bool.false_and, Q.evQ45_0])
local macro_rules | `(tactic| walk_at "evs") => `(tactic| simp (config := { decide := false }) only [seval, G.evB0, G.evB1, G.evB2, G.evB3, G.evB4, List.getElem?_set_self, List.length_set, List.set_set, List.map_cons, List.map_nil, List.length_cons, List.length_nil, List.replicate, List.cons_append, List.nil_append, List.getElem?_cons_zero, List.getElem?_cons_succ, List.set_cons_zero, List.set_cons_succ, Option.map_some, Option.map_none, Option.bind_some, Bool.not_true, Bool.not_false, if_true, if_false, decide_true, decide_false, Bool.false_eq_true, true_and, and_true, false_and, and_false, List.foldl_cons, List.foldl_nil, List.all_cons, List.all_nil, id_eq, Bool.and_true, Bool.true_and, eq_self, Bool.or_true, Bool.true_or, Bool.or_false, Bool.false_or, G.isNon, G.startE, G.bls, G.wipeE, Q.evSVG2_0, Q.evSVG3_0, Q.evSVG4_0, Q.evSVG5_0, Q.evSVG6_0, Q.evSVG7_0, P.evN0, Q.evQ2_0, Bool.false_and, Q.evQ45_0, *])
namespace Q
theorem iD_ap9 (n : Nat) : iD n = .int n := rfl
def dig : List Nat → Option Nat
  | [c] => if 48 ≤ c ∧ c < 58 then some (c - 48) else none
  | _ => none
def digs : List (List Nat) → Option (List Nat)
  | [] => some []
  | p :: r => match dig p, digs r with
    | some d, some l => some (d :: l)
    | _, _ => none
def numL (w : List Nat) (many : Nat) : Option (List Nat) := if (spl 46 w).length = many then digs (spl 46 w) else none
theorem dig_some {p : List Nat} {d : Nat} (h : dig p = some d) : p = [48 + d] ∧ d < 10 := by
  match p with
  | [] => cases h
  | [c] =>
    simp only [dig] at h
    split at h
    · cases h
      refine ⟨?_, by omega⟩
      congr 1
      omega
    · cases h
  | _ :: _ :: _ => cases h
theorem digs_some : ∀ {ps : List (List Nat)} {l : List Nat}, digs ps = some l → ps = l.map (fun d => [48 + d]) ∧ ∀ d ∈ l, d < 10
  | [], l, h => by
    cases h
    exact ⟨rfl, fun d hd => absurd hd List.not_mem_nil⟩
  | p :: r, l, h => by
    simp only [digs] at h
    split at h
    · rename_i d l' h1 h2
      cases h
      obtain ⟨e1, e2⟩ := dig_some h1
      obtain ⟨e3, e4⟩ := digs_some h2
      refine ⟨by rw [e1, e3]; rfl, fun x hx => ?_⟩
      rcases List.mem_cons.mp hx with z | z
      · rw [z]; exact e2
      · exact e4 x z
    · cases h
theorem digs_len {ps : List (List Nat)} {l : List Nat} (h : digs ps = some l) : l.length = ps.length := by rw [(digs_some h).1, List.length_map]
theorem digs_none : ∀ {ps : List (List Nat)}, digs ps = none → ∃ p ∈ ps, dig p = none
  | [], h => by cases h
  | p :: r, h => by
    simp only [digs] at h
    cases h1 : dig p with
    | none => exact ⟨p, by simp, h1⟩
    | some d =>
      cases h2 : digs r with
      | none =>
        obtain ⟨q, hq, e⟩ := digs_none h2
        exact ⟨q, by simp [hq], e⟩
      | some l => rw [h1, h2] at h; cases h
theorem digs_all {ps : List (List Nat)} {l : List Nat} (h : digs ps = some l) : ∀ p ∈ ps, ∃ d, dig p = some d := fun p hp => by
  induction ps generalizing l with
  | nil => exact absurd hp List.not_mem_nil
  | cons q r ih =>
    simp only [digs] at h
    split at h
    · rename_i d l' h1 h2
      rcases List.mem_cons.mp hp with z | z
      · rw [z]; exact ⟨d, h1⟩
      · exact ih h2 z
    · cases h
def chk : List Nat → Bool
  | [] => false
  | [c] => decide (48 ≤ c ∧ c < 58)
  | c :: p :: r => decide (48 ≤ c ∧ c < 58) && decide (p = 46) && chk r
def evens : List Nat → List Nat
  | [] => []
  | [c] => [c - 48]
  | c :: _ :: r => (c - 48) :: evens r
theorem chk_digs : ∀ w : List Nat, digs (spl 46 w) = if chk w = true then some (evens w) else none
  | [] => rfl
  | [c] => by
    rw [spl_cons, spl_nil]
    by_cases e : c = 46
    · rw [if_pos e]
      subst e
      rfl
    · rw [if_neg e, hdc_cons]
      simp only [digs, dig, chk, evens, decide_eq_true_eq]
      by_cases h : 48 ≤ c ∧ c < 58
      · rw [if_pos h, if_pos h]
      · rw [if_neg h, if_neg h]
  | c :: p :: r => by
    have ih := chk_digs r
    rw [spl_cons]
    by_cases e : c = 46
    · rw [if_pos e]
      subst e
      have : chk (46 :: p :: r) = false := by simp [chk]
      rw [this]
      rfl
    · rw [if_neg e, spl_cons]
      by_cases e2 : p = 46
      · rw [if_pos e2, hdc_cons]
        subst e2
        simp only [digs, dig, ih, chk, evens]
        by_cases h : 48 ≤ c ∧ c < 58
        · rw [if_pos h, decide_eq_true h]
          cases hc : chk r
          · simp
          · simp
        · rw [if_neg h, decide_eq_false h]
          simp
      · rw [if_neg e2]
        have : chk (c :: p :: r) = false := by simp [chk, e2]
        rw [this]
        cases hs : spl 46 r with
        | nil => exact absurd hs (spl_ne 46 r)
        | cons v vs =>
          rw [hdc_cons, hdc_cons]
          rfl
theorem chk_len : ∀ w : List Nat, chk w = true → w.length + 1 = 2 * (spl 46 w).length
  | [], h => by cases h
  | [c], h => by
    simp only [chk, decide_eq_true_eq] at h
    rw [spl_free 46 [c] (by simp; omega)]
    rfl
  | c :: p :: r, h => by
    simp only [chk, Bool.and_eq_true, decide_eq_true_eq] at h
    obtain ⟨⟨h1, rfl⟩, h3⟩ := h
    have ih := chk_len r h3
    rw [show c :: 46 :: r = [c] ++ 46 :: r from rfl, spl_app 46 [c] r (by simp; omega)]
    simp only [List.length_append, List.length_cons, List.length_nil]
    omega
theorem numL_chk (w : List Nat) {many : Nat} (hm : 1 ≤ many) : numL w many = if w.length = 2 * many - 1 ∧ chk w = true then some (evens w) else none := by
  unfold numL
  rw [chk_digs]
  cases h : chk w with
  | false => simp
  | true =>
    have := chk_len w h
    simp only [and_true, if_true]
    by_cases e : (spl 46 w).length = many
    · rw [if_pos e, if_pos (by omega)]
    · rw [if_neg e, if_neg (by omega)]
theorem numL_some {w : List Nat} {many : Nat} {l : List Nat} (h : numL w many = some l) : l.length = many ∧ ∀ d ∈ l, d < 10 := by
  unfold numL at h
  split at h
  · rename_i e
    exact ⟨(digs_len h).trans e, (digs_some h).2⟩
  · cases h
def numD : Option (List Nat) → D
  | some l => .tup (l.map iD)
  | none => .non
theorem spl_lens : ∀ (w : List Nat) (p : List Nat), p ∈ spl 46 w → p.length ≤ w.length
  | [], p, h => by simp [spl_nil] at h; rw [h]; exact Nat.le_refl _
  | x :: l, p, h => by
    rw [spl_cons] at h
    split at h
    · rcases List.mem_cons.mp h with z | z
      · rw [z]; exact Nat.zero_le _
      · have := spl_lens l p z
        simp only [List.length_cons]; omega
    · cases hs : spl 46 l with
      | nil => exact absurd hs (spl_ne 46 l)
      | cons v vs =>
        rw [hs, hdc_cons] at h
        rcases List.mem_cons.mp h with z | z
        · have := spl_lens l v (by rw [hs]; simp)
          rw [z]; simp only [List.length_cons]; omega
        · have := spl_lens l p (by rw [hs]; simp [z])
          simp only [List.length_cons]; omega
theorem spl_count : ∀ (c : Nat) (w : List Nat), (spl c w).length ≤ w.length + 1
  | c, [] => by simp [spl_nil]
  | c, x :: l => by
    have ih := spl_count c l
    rw [spl_cons]
    split
    · simp only [List.length_cons]; omega
    · cases hs : spl c l with
      | nil => exact absurd hs (spl_ne c l)
      | cons v vs =>
        rw [hs] at ih
        rw [hdc_cons]
        simp only [List.length_cons] at ih ⊢
        omega
def figs : List Nat := [48, 49, 50, 51, 52, 53, 54, 55, 56, 57]
theorem figs_str : (Str.ofString "0123456789") = tx figs := by decide +kernel
theorem mem_figs (c : Nat) : c ∈ figs ↔ 48 ≤ c ∧ c < 58 := by
  simp only [figs, List.mem_cons, List.not_mem_nil, or_false]
  omega
theorem dot_str : (Str.ofString ".") = tx [46] := by decide +kernel
theorem blank_str : (Str.ofString " ") = tx [32] := by decide +kernel
theorem emp_str : (Str.ofString "") = tx [] := by decide +kernel
theorem numbers_in_run {S : Sto} {w : List Nat} {many : Nat} (hl : w.length ≤ 100000) : fn_numbers_in.run [.str (tx w), .int many] S = .ok (numD (numL w many)) S := by
  have lens := spl_lens w
  have cnt := spl_count 46 w
  have SP := dSplit_tx (S := S) (x := w) (c := 46) (by omega)
  have LN : dLen S [.lst ((spl 46 w).map fun p => .str (tx p))] = some (.int ((spl 46 w).length : Nat)) := by rw [dLen_lst, List.length_map]
  have NE : dNe S (.int ((spl 46 w).length : Nat)) (.int (many : Nat)) = some (.bl (!decide ((spl 46 w).length = many))) := by
    have := encN.ne S (spl 46 w).length many fun y h => by cases h
    exact this
  unfold fn_numbers_in ms_numbers_in
  rw [dropF_run]
  refine drop_of ?_ (by cases numL w many <;> simp [numD, D.bel, bels_i])
  rw [fnB_run, Wp_bind]
  unfold numL
  generalize hps : spl 46 w = ps at *
  have LB : ∀ p ∈ ps, p.length ≤ 100000 := fun p hp => by have := lens p hp; omega
  by_cases e : ps.length = many
  · have d1 : decide ((((ps.map fun w => D.str (tx w)).length : Nat) : Int) = ((many : Nat) : Int)) = true := decide_eq_true (by rw [List.length_map]; omega)
    rw [if_pos e, dot_str]
    walk_at "ev"
    rw [SP]
    walk_at "ev"
    rw [d1]
    walk_at "ev"
    rw [comp_all (f := fun p => D.bl (dig p).isSome) ps (fun p hp => ⟨_, rfl, ?_⟩) (by omega)]
    rotate_left
    · have l := LB p hp
      have LN := fun S => dLen_tx (S := S) (x := p) (by omega)
      clear SP NE d1 lens hps
      walk_at "ev"
      rw [LN, figs_str]
      walk_at "ev"
      match p with
      | [] =>
        walk_at "ev"
        rfl
      | [c] =>
        have d2 : decide (c ∈ figs) = (dig [c]).isSome := by
          simp only [dig]
          by_cases h : 48 ≤ c ∧ c < 58
          · rw [if_pos h, decide_eq_true ((mem_figs c).mpr h)]
            rfl
          · rw [if_neg h, decide_eq_false fun z => h ((mem_figs c).mp z)]
            rfl
        rw [← d2, show decide ((([c].length : Nat) : Int) = 1) = true from rfl]
        walk_at "ev"
        rw [dIn_tx1]
        walk_at "ev"
      | a :: b :: r =>
        rw [show decide ((((a :: b :: r).length : Nat) : Int) = 1) = false from decide_eq_false (by simp only [List.length_cons]; omega)]
        walk_at "ev"
        rfl
    walk_at "ev"
    cases hd : digs ps with
    | none =>
      obtain ⟨p, hp, hn⟩ := digs_none hd
      have al : (ps.all fun p => (dig p).isSome) = false := by
        rw [List.all_eq_false]
        exact ⟨p, hp, by simp [hn]⟩
      rw [al]
      walk_at "ev"
      exact ⟨rfl, [], (List.append_nil _).symm⟩
    | some l =>
      have al : (ps.all fun p => (dig p).isSome) = true := by
        rw [List.all_eq_true]
        intro p hp
        obtain ⟨d, h⟩ := digs_all hd p hp
        simp [h]
      obtain ⟨e1, e2⟩ := digs_some hd
      rw [al]
      walk_at "ev"
      rw [e1, List.map_map]
      have DI : ∀ d ∈ l, ∀ S, dInt S [.str (tx [48 + d])] = some (.int (d : Nat)) := fun d hd S => by
        have := dInt10 (S := S) (i := (d : Int)) (by omega) (by have := e2 d hd; omega)
        simpa using this
      have ll : l.length ≤ 100001 := by rw [e1, List.length_map] at cnt; omega
      rw [comp_all (f := iD) l (fun d hd => ⟨_, rfl, ?_⟩) (by omega)]
      rotate_left
      · have D1 := DI d hd
        clear DI SP NE d1 lens hps al
        walk_at "ev"
        show optR (dInt S [D.str (tx [48 + d])]) S = _
        rw [D1]
        rfl
      walk_at "ev"
      exact ⟨rfl, [], (List.append_nil _).symm⟩
  · have d1 : decide ((((ps.map fun w => D.str (tx w)).length : Nat) : Int) = ((many : Nat) : Int)) = false := decide_eq_false (by rw [List.length_map]; omega)
    rw [if_neg e, dot_str]
    walk_at "ev"
    rw [SP]
    walk_at "ev"
    rw [d1]
    walk_at "ev"
    exact ⟨rfl, [], (List.append_nil _).symm⟩
def wsL (t : List Nat) : List (List Nat) := (spl 32 t).filter fun w => !decide (w = [])
def wD (w : List Nat) : D := .str (tx w)
theorem wsL_len (t : List Nat) : (wsL t).length ≤ t.length + 1 := Nat.le_trans (List.length_filter_le _ _) (spl_count 32 t)
theorem spl_lensC (c : Nat) : ∀ (w : List Nat) (p : List Nat), p ∈ spl c w → p.length ≤ w.length
  | [], p, h => by simp [spl_nil] at h; rw [h]; exact Nat.le_refl _
  | x :: l, p, h => by
    rw [spl_cons] at h
    split at h
    · rcases List.mem_cons.mp h with z | z
      · rw [z]; exact Nat.zero_le _
      · have := spl_lensC c l p z
        simp only [List.length_cons]; omega
    · cases hs : spl c l with
      | nil => exact absurd hs (spl_ne c l)
      | cons v vs =>
        rw [hs, hdc_cons] at h
        rcases List.mem_cons.mp h with z | z
        · have := spl_lensC c l v (by rw [hs]; simp)
          rw [z]; simp only [List.length_cons]; omega
        · have := spl_lensC c l p (by rw [hs]; simp [z])
          simp only [List.length_cons]; omega
theorem wsL_lens {t w : List Nat} (h : w ∈ wsL t) : w.length ≤ t.length := spl_lensC 32 t w (List.mem_filter.mp h).1
theorem words_of_run {S : Sto} {t : List Nat} (hl : t.length ≤ 100000) : fn_words_of.run [.str (tx t)] S = .ok (.lst ((wsL t).map wD)) S := by
  have SP := dSplit_tx (S := S) (x := t) (c := 32) (by omega)
  have cnt := spl_count 32 t
  unfold fn_words_of ms_words_of
  rw [dropF_run]
  refine drop_of ?_ (by simp only [D.bel]; rw [bels_map _ wD (fun a => by simp [wD, D.bel])]; trivial)
  rw [fnB_run, Wp_bind]
  rw [blank_str, emp_str]
  walk_at "ev"
  rw [SP]
  walk_at "ev"
  rw [comp_map (f := wD) (p := fun w => !decide (w = [])) (spl 32 t) [] (fun w hw => ⟨_, rfl, ?_, fun _ => rfl⟩) (by simp; omega)]
  rotate_left
  · have E := dNe_tx S w []
    clear SP
    walk_at "ev"
    simp only [tx_inj]
  walk_at "ev"
  exact ⟨rfl, [], (List.append_nil _).symm⟩
theorem dMin2_n (S : Sto) (a b : Nat) : dMin2 S [.int a, .int b] = some (.int (min a b : Nat)) := by
  have e : PySem.W.dataLt (.int b) (.int a) = decide ((b : Int) < (a : Int)) := PySem.W.dataLt_int _ _
  have al : PySem.W.AlikeAll [.int (a : Int), .int (b : Int)] := by simp [PySem.W.AlikeAll, PySem.W.alike, PySem.W.alikeAll]
  have sh : ∀ i : Int, SeqAt.shaped (.int i) = true := fun i => by simp [SeqAt.shaped, PyData.canLay0, PyData.depth]
  unfold dMin2
  simp only [pdv_int, sh, al, and_self, if_true, true_and, e]
  by_cases h : b < a
  · rw [decide_eq_true (by omega), if_pos rfl, Nat.min_eq_right (by omega)]
  · rw [decide_eq_false (by omega), Nat.min_eq_left (by omega)]
    rfl
theorem check_words_ok {S : Sto} {ws : List (List Nat)} {x : D} {n m : Nat} (h1 : n < ws.length) (h2 : ws.length ≤ m) : fn_check_words.run [.lst (ws.map wD), x, .int n, .int m] S = .ok .non S := by
  have d1 : decide ((((ws.map wD).length : Nat) : Int) ≤ (n : Int)) = false := decide_eq_false (by rw [List.length_map]; omega)
  have d2 : decide ((m : Int) < (((ws.map wD).length : Nat) : Int)) = false := decide_eq_false (by rw [List.length_map]; omega)
  unfold fn_check_words ms_check_words
  rw [dropF_run]
  refine drop_of ?_ (by simp [D.bel])
  walk_at "evs"
  exact ⟨[], (List.append_nil _).symm⟩
theorem check_words_bad {S : Sto} {ws : List (List Nat)} {k n m : Nat} (h : ws.length ≤ n ∨ m < ws.length) : fn_check_words.run [.lst (ws.map wD), .int k, .int n, .int m] S = .ex 15 ["number", "line"] [.int (min ws.length m : Nat), .int k] S := by
  have M : dMin2 S [.int (((ws.map wD).length : Nat) : Int), .int (m : Int)] = some (.int (min ws.length m : Nat)) := by
    rw [List.length_map]
    exact dMin2_n S _ _
  unfold fn_check_words ms_check_words
  by_cases h1 : ws.length ≤ n
  · have d1 : decide ((((ws.map wD).length : Nat) : Int) ≤ (n : Int)) = true := decide_eq_true (by rw [List.length_map]; omega)
    walk_at "evs"
    exact drop_ex0 (by simp [D.bels, D.bel])
  · have d1 : decide ((((ws.map wD).length : Nat) : Int) ≤ (n : Int)) = false := decide_eq_false (by rw [List.length_map]; omega)
    have d2 : decide ((m : Int) < (((ws.map wD).length : Nat) : Int)) = true := decide_eq_true (by rw [List.length_map]; omega)
    walk_at "evs"
    exact drop_ex0 (by simp [D.bels, D.bel])
end Q
end
section
open PySem L2 G P
open Q
local macro_rules | `(tactic| walk_at "ev") => `(tactic| simp (config := { decide := false }) only [seval, G.evB0, G.evB1, G.evB2, G.evB3, G.evB4, List.getElem?_set_self, List.length_set, List.set_set, List.map_cons, List.map_nil, List.length_cons, List.length_nil, List.replicate, List.cons_append, List.nil_append, List.getElem?_cons_zero, List.getElem?_cons_succ, List.set_cons_zero, List.set_cons_succ, Option.map_some, Option.map_none, Option.bind_some, Bool.not_true, Bool.not_false, if_true, if_false, decide_true, decide_false, Bool.false_eq_true, true_and, and_true, false_and, and_false, List.foldl_cons, List.foldl_nil, List.all_cons, List.all_nil, id_eq, Bool.and_true, Bool.true_and, eq_self, Bool.or_true, Bool.true_or, Bool.or_false, Bool.false_or, G.isNon, G.startE, G.bls, G.wipeE, Q.evSVG2_0, Q.evSVG3_0, Q.evSVG4_0, Q.evSVG5_0, Q.evSVG6_0, Q.evSVG7_0, P.evN0, Q.evQ2_0, Bool.false_and, Q.evQ45_0, iD_ap9])
local macro_rules | `(tactic| walk_at "evs") => `(tactic| simp (config := { decide := false }) only [seval, G.evB0, G.evB1, G.evB2, G.evB3, G.evB4, List.getElem?_set_self, List.length_set, List.set_set, List.map_cons, List.map_nil, List.length_cons, List.length_nil, List.replicate, List.cons_append, List.nil_append, List.getElem?_cons_zero, List.getElem?_cons_succ, List.set_cons_zero, List.set_cons_succ, Option.map_some, Option.map_none, Option.bind_some, Bool.not_true, Bool.not_false, if_true, if_false, decide_true, decide_false, Bool.false_eq_true, true_and, and_true, false_and, and_false, List.foldl_cons, List.foldl_nil, List.all_cons, List.all_nil, id_eq, Bool.and_true, Bool.true_and, eq_self, Bool.or_true, Bool.true_or, Bool.or_false, Bool.false_or, G.isNon, G.startE, G.bls, G.wipeE, Q.evSVG2_0, Q.evSVG3_0, Q.evSVG4_0, Q.evSVG5_0, Q.evSVG6_0, Q.evSVG7_0, P.evN0, Q.evQ2_0, Bool.false_and, Q.evQ45_0, iD_ap9, *])
namespace Q
def num1 (w : List Nat) : Option Nat := match numL w 1 with
  | some [a] => some a
  | _ => none
def num2 (w : List Nat) : Option Rl := match numL w 2 with
  | some [a, b] => some (a, b)
  | _ => none
def num3 (w : List Nat) : Option (Rl × Nat) := match numL w 3 with
  | some [a, b, c] => some ((a, b), c)
  | _ => none
theorem numD1 (w : List Nat) : (num1 w = none ∧ numL w 1 = none) ∨ ∃ a, num1 w = some a ∧ numL w 1 = some [a] := by
  unfold num1
  cases h : numL w 1 with
  | none => exact .inl ⟨rfl, rfl⟩
  | some l =>
    have := (numL_some h).1
    match l, this with
    | [a], _ => exact .inr ⟨a, rfl, rfl⟩
theorem numD2 (w : List Nat) : (num2 w = none ∧ numL w 2 = none) ∨ ∃ r, num2 w = some r ∧ numL w 2 = some [r.1, r.2] := by
  unfold num2
  cases h : numL w 2 with
  | none => exact .inl ⟨rfl, rfl⟩
  | some l =>
    have := (numL_some h).1
    match l, this with
    | [a, b], _ => exact .inr ⟨(a, b), rfl, rfl⟩
theorem numD3 (w : List Nat) : (num3 w = none ∧ numL w 3 = none) ∨ ∃ r c, num3 w = some (r, c) ∧ numL w 3 = some [r.1, r.2, c] := by
  unfold num3
  cases h : numL w 3 with
  | none => exact .inl ⟨rfl, rfl⟩
  | some l =>
    have := (numL_some h).1
    match l, this with
    | [a, b, c], _ => exact .inr ⟨(a, b), c, rfl, rfl⟩
def rdB (w : List Nat) (rest : List (List Nat)) : Nat ⊕ Bd := match num1 w with
  | some a => if rest = [] then .inr (.own a) else .inl 3
  | none => match num3 w with
    | some (r, c) => if rest = [] then .inr (.thr r c) else .inl 3
    | none => match num2 w with
      | none => .inl 2
      | some r => match rest with
        | [] => .inr (.rol r)
        | y :: more => if y = [38] then (match more with
          | [] => .inl 4
          | v :: far => match num2 v with
            | none => .inl 4
            | some s => if far = [] then .inr (.bot r s) else .inl 5) else .inl 3
def resB (k : Nat) (S : Sto) : Nat ⊕ D → Res D
  | .inl n => .ex 15 ["number", "line"] [.int n, .int k] S
  | .inr d => .ok d S
theorem amp_str : (Str.ofString "&") = tx [38] := by decide +kernel
theorem lt_str : (Str.ofString "<") = tx [60] := by decide +kernel
theorem body_in_run {S : Sto} {u x w : List Nat} {rest : List (List Nat)} {k : Nat} (hl : w.length ≤ 100000) (hr : ∀ v ∈ rest, v.length ≤ 100000) (few : rest.length ≤ 90000) : fn_body_in.run [.lst ((u :: x :: w :: rest).map wD), .int k] S = resB k S ((rdB w rest).map id Bd.d) := by
  have N1 : fn_numbers_in.run [wD w, .int 1] S = .ok (numD (numL w 1)) S := numbers_in_run (many := 1) hl
  have N2 : fn_numbers_in.run [wD w, .int 2] S = .ok (numD (numL w 2)) S := numbers_in_run (many := 2) hl
  have N3 : fn_numbers_in.run [wD w, .int 3] S = .ok (numD (numL w 3)) S := numbers_in_run (many := 3) hl
  unfold fn_body_in ms_body_in
  unfold rdB
  have fin : ∀ (n : Nat), (Res.ex 15 ["number", "line"] [D.int n, D.int k] S).drop S = .ex 15 ["number", "line"] [.int n, .int k] S := fun n => drop_ex0 (by simp [D.bels, D.bel])
  have fok : ∀ (b : Bd), (Res.ok b.d S).drop S = .ok b.d S := fun b => Res.drop_self (by cases b <;> simp [Bd.d, rD, D.bel, D.bels])
  cases rest with
  | nil =>
    have C : fn_check_words.run [.lst [wD u, wD x, wD w], .int k, .int 2, .int 3] S = .ok .non S := check_words_ok (ws := [u, x, w]) (n := 2) (m := 3) (by simp) (by simp)
    clear hr few
    simp only [List.map_cons, List.map_nil]
    rcases numD1 w with ⟨a1, b1⟩ | ⟨a, a1, b1⟩
    · rw [b1] at N1
      simp only [a1]
      rcases numD3 w with ⟨a3, b3⟩ | ⟨r, c, a3, b3⟩
      · rw [b3] at N3
        simp only [a3]
        rcases numD2 w with ⟨a2, b2⟩ | ⟨r, a2, b2⟩
        · rw [b2] at N2
          simp only [a2]
          simp only [numD] at N1 N2 N3
          walk_at "evs"
          exact fin 2
        · rw [b2] at N2
          simp only [a2]
          simp only [numD, List.map_cons, List.map_nil] at N1 N2 N3
          walk_at "evs"
          exact rfl
      · rw [b3] at N3
        simp only [a3]
        simp only [numD, List.map_cons, List.map_nil] at N1 N3
        have CU : cutD [iD r.1, iD r.2, iD c] none (some 2) = [iD r.1, iD r.2] := rfl
        walk_at "evs"
        exact fok (.thr r c)
    · rw [b1] at N1
      simp only [a1]
      simp only [numD, List.map_cons, List.map_nil] at N1
      walk_at "evs"
      exact rfl
  | cons y more =>
    have B : fn_check_words.run [.lst (wD u :: wD x :: wD w :: wD y :: more.map wD), .int k, .int 2, .int 3] S = .ex 15 ["number", "line"] [.int 3, .int k] S := by
      have := check_words_bad (S := S) (ws := u :: x :: w :: y :: more) (k := k) (n := 2) (m := 3) (.inr (by simp only [List.length_cons]; omega))
      rw [Nat.min_eq_right (by simp only [List.length_cons]; omega)] at this
      exact this
    simp only [List.map_cons]
    rcases numD1 w with ⟨a1, b1⟩ | ⟨a, a1, b1⟩
    · rw [b1] at N1
      simp only [a1]
      rcases numD3 w with ⟨a3, b3⟩ | ⟨r, c, a3, b3⟩
      · rw [b3] at N3
        simp only [a3]
        clear B
        rcases numD2 w with ⟨a2, b2⟩ | ⟨r, a2, b2⟩
        · rw [b2] at N2
          simp only [a2]
          simp only [numD] at N1 N2 N3
          clear hr few
          walk_at "evs"
          exact fin 2
        · rw [b2] at N2
          simp only [a2]
          simp only [numD, List.map_cons, List.map_nil] at N1 N2 N3
          have d3 : decide ((((wD u :: wD x :: wD w :: wD y :: more.map wD).length : Nat) : Int) = 3) = false := decide_eq_false (by simp only [List.length_cons]; omega)
          have NEY : dNe S (wD y) (D.str (Str.ofString "&")) = some (.bl (!decide (y = [38]))) := by rw [amp_str]; exact dNe_tx S y [38]
          by_cases hy : y = [38]
          · rw [decide_eq_true hy] at NEY
            rw [if_pos hy]
            clear hy
            cases more with
            | nil =>
              have B4 : fn_check_words.run [.lst [wD u, wD x, wD w, wD y], .int k, .int 4, .int 99999] S = .ex 15 ["number", "line"] [.int 4, .int k] S := check_words_bad (S := S) (ws := [u, x, w, y]) (k := k) (n := 4) (m := 99999) (.inl (by simp))
              simp only [List.map_nil] at d3 ⊢
              clear hr few
              walk_at "evs"
              exact fin 4
            | cons v far =>
              have C4 : fn_check_words.run [.lst (wD u :: wD x :: wD w :: wD y :: wD v :: far.map wD), .int k, .int 4, .int 99999] S = .ok .non S := check_words_ok (ws := u :: x :: w :: y :: v :: far) (n := 4) (m := 99999) (by simp) (by simp only [List.length_cons] at few ⊢; omega)
              have NV : fn_numbers_in.run [wD v, .int 2] S = .ok (numD (numL v 2)) S := numbers_in_run (many := 2) (hr v (by simp))
              simp only [List.map_cons, List.length_cons] at d3 ⊢
              clear hr few
              rcases numD2 v with ⟨a5, b5⟩ | ⟨q, a5, b5⟩
              · rw [b5] at NV
                simp only [a5]
                simp only [numD] at NV
                walk_at "evs"
                exact fin 4
              · rw [b5] at NV
                simp only [a5]
                simp only [numD, List.map_cons, List.map_nil] at NV
                by_cases hf : far = []
                · subst hf
                  have C5 : fn_check_words.run [.lst [wD u, wD x, wD w, wD y, wD v], .int k, .int 4, .int 5] S = .ok .non S := check_words_ok (ws := [u, x, w, y, v]) (n := 4) (m := 5) (by simp) (by simp)
                  rw [if_pos rfl]
                  simp only [List.map_nil, List.length_nil] at d3 C4 ⊢
                  walk_at "evs"
                  exact rfl
                · have lf := List.length_pos_iff.mpr hf
                  have B5 : fn_check_words.run [.lst (wD u :: wD x :: wD w :: wD y :: wD v :: far.map wD), .int k, .int 4, .int 5] S = .ex 15 ["number", "line"] [.int 5, .int k] S := by
                    have := check_words_bad (S := S) (ws := u :: x :: w :: y :: v :: far) (k := k) (n := 4) (m := 5) (.inr (by simp only [List.length_cons]; omega))
                    rw [Nat.min_eq_right (by simp only [List.length_cons]; omega)] at this
                    exact this
                  rw [if_neg hf]
                  clear hf lf
                  walk_at "evs"
                  exact fin 5
          · rw [decide_eq_false hy] at NEY
            rw [if_neg hy]
            simp only [List.length_cons] at d3
            clear hr few hy
            walk_at "evs"
            exact fin 3
      · rw [b3] at N3
        simp only [a3]
        simp only [numD, List.map_cons, List.map_nil] at N1 N3
        clear hr few
        walk_at "evs"
        exact fin 3
    · rw [b1] at N1
      simp only [a1]
      simp only [numD, List.map_cons, List.map_nil] at N1
      clear hr few
      walk_at "evs"
      exact fin 3
def rdG : List (List Nat) → Nat ⊕ Gr
  | [] => .inl 0
  | u :: r => match num2 u with
    | none => .inl 0
    | some h => match r with
      | [] => .inl 1
      | x :: r2 => if x = [60] then (match r2 with
        | [] => .inl 2
        | w :: rest => (rdB w rest).map id fun b => (h, b)) else .inl 1
theorem grant_in_run {S : Sto} {ws : List (List Nat)} {k : Nat} (hl : ∀ w ∈ ws, w.length ≤ 100000) (few : ws.length ≤ 90000) : fn_grant_in.run [.lst (ws.map wD), .int k] S = resB k S ((rdG ws).map id gD) := by
  have fin : ∀ (n : Nat), (Res.ex 15 ["number", "line"] [D.int n, D.int k] S).drop S = .ex 15 ["number", "line"] [.int n, .int k] S := fun n => drop_ex0 (by simp [D.bels, D.bel])
  unfold fn_grant_in ms_grant_in
  unfold rdG
  cases ws with
  | nil =>
    have B : fn_check_words.run [.lst [], .int k, .int 0, .int 99999] S = .ex 15 ["number", "line"] [.int 0, .int k] S := check_words_bad (S := S) (ws := []) (k := k) (n := 0) (m := 99999) (.inl (by simp))
    simp only [List.map_nil]
    walk_at "evs"
    exact fin 0
  | cons u r =>
    have C0 : fn_check_words.run [.lst (wD u :: r.map wD), .int k, .int 0, .int 99999] S = .ok .non S := check_words_ok (ws := u :: r) (n := 0) (m := 99999) (by simp) (by simp only [List.length_cons] at few ⊢; omega)
    have N : fn_numbers_in.run [wD u, .int 2] S = .ok (numD (numL u 2)) S := numbers_in_run (many := 2) (hl u (by simp))
    simp only [List.map_cons]
    rcases numD2 u with ⟨a2, b2⟩ | ⟨h, a2, b2⟩
    · rw [b2] at N
      simp only [a2]
      simp only [numD] at N
      clear hl few
      walk_at "evs"
      exact fin 0
    · rw [b2] at N
      simp only [a2]
      simp only [numD, List.map_cons, List.map_nil] at N
      cases r with
      | nil =>
        have B : fn_check_words.run [.lst [wD u], .int k, .int 1, .int 99999] S = .ex 15 ["number", "line"] [.int 1, .int k] S := check_words_bad (S := S) (ws := [u]) (k := k) (n := 1) (m := 99999) (.inl (by simp))
        simp only [List.map_nil] at C0 ⊢
        clear hl few
        walk_at "evs"
        exact fin 1
      | cons x r2 =>
        have C1 : fn_check_words.run [.lst (wD u :: wD x :: r2.map wD), .int k, .int 1, .int 99999] S = .ok .non S := check_words_ok (ws := u :: x :: r2) (n := 1) (m := 99999) (by simp) (by simp only [List.length_cons] at few ⊢; omega)
        have NEX : dNe S (wD x) (D.str (Str.ofString "<")) = some (.bl (!decide (x = [60]))) := by rw [lt_str]; exact dNe_tx S x [60]
        simp only [List.map_cons] at C0 ⊢
        by_cases hx : x = [60]
        · rw [decide_eq_true hx] at NEX
          rw [if_pos hx]
          clear hx
          cases r2 with
          | nil =>
            have B : fn_check_words.run [.lst [wD u, wD x], .int k, .int 2, .int 99999] S = .ex 15 ["number", "line"] [.int 2, .int k] S := check_words_bad (S := S) (ws := [u, x]) (k := k) (n := 2) (m := 99999) (.inl (by simp))
            simp only [List.map_nil] at C0 C1 ⊢
            clear hl few
            walk_at "evs"
            exact fin 2
          | cons w rest =>
            have C2 : fn_check_words.run [.lst (wD u :: wD x :: wD w :: rest.map wD), .int k, .int 2, .int 99999] S = .ok .non S := check_words_ok (ws := u :: x :: w :: rest) (n := 2) (m := 99999) (by simp) (by simp only [List.length_cons] at few ⊢; omega)
            have BI := body_in_run (S := S) (u := u) (x := x) (w := w) (rest := rest) (k := k) (hl w (by simp)) (fun v hv => hl v (by simp [hv])) (by simp only [List.length_cons] at few; omega)
            simp only [List.map_cons] at C0 C1 BI ⊢
            clear hl few
            cases hb : rdB w rest with
            | inl n =>
              rw [hb] at BI
              replace BI : fn_body_in.run [.lst (wD u :: wD x :: wD w :: rest.map wD), .int k] S = .ex 15 ["number", "line"] [.int n, .int k] S := BI
              clear hb
              walk_at "evs"
              exact rfl
            | inr b =>
              rw [hb] at BI
              replace BI : fn_body_in.run [.lst (wD u :: wD x :: wD w :: rest.map wD), .int k] S = .ok b.d S := BI
              clear hb
              walk_at "evs"
              exact rfl
        · rw [decide_eq_false hx] at NEX
          rw [if_neg hx]
          clear hx hl few
          walk_at "evs"
          exact fin 1
theorem read_grant_run {S : Sto} {t : List Nat} (hl : t.length ≤ 80000) : fn_read_grant.run [.str (tx t)] S = resB 0 S ((rdG (wsL t)).map id gD) := by
  have W := words_of_run (S := S) (t := t) (by omega)
  have G := grant_in_run (S := S) (ws := wsL t) (k := 0) (fun w hw => by have := wsL_lens hw; omega) (by have := wsL_len t; omega)
  rw [show ((0 : Nat) : Int) = 0 from rfl] at G
  unfold fn_read_grant ms_read_grant
  cases hg : rdG (wsL t) with
  | inl n =>
    rw [hg] at G
    replace G : fn_grant_in.run [.lst ((wsL t).map wD), .int 0] S = .ex 15 ["number", "line"] [.int n, .int 0] S := G
    clear hg
    walk_at "evs"
    exact drop_ex0 (by simp [D.bels, D.bel])
  | inr g =>
    rw [hg] at G
    replace G : fn_grant_in.run [.lst ((wsL t).map wD), .int 0] S = .ok (gD g) S := G
    clear hg
    walk_at "evs"
    exact rfl
end Q
end
section
open PySem L2 G P
open Q
local macro_rules | `(tactic| walk_at "ev") => `(tactic| simp (config := { decide := false }) only [seval, G.evB0, G.evB1, G.evB2, G.evB3, G.evB4, List.getElem?_set_self, List.length_set, List.set_set, List.map_cons, List.map_nil, List.length_cons, List.length_nil, List.replicate, List.cons_append, List.nil_append, List.getElem?_cons_zero, List.getElem?_cons_succ, List.set_cons_zero, List.set_cons_succ, Option.map_some, Option.map_none, Option.bind_some, Bool.not_true, Bool.not_false, if_true, if_false, decide_true, decide_false, Bool.false_eq_true, true_and, and_true, false_and, and_false, List.foldl_cons, List.foldl_nil, List.all_cons, List.all_nil, id_eq, Bool.and_true, Bool.true_and, eq_self, Bool.or_true, Bool.true_or, Bool.or_false, Bool.false_or, G.isNon, G.startE, G.bls, G.wipeE, Q.evSVG2_0, Q.evSVG3_0, Q.evSVG4_0, Q.evSVG5_0, Q.evSVG6_0, Q.evSVG7_0, P.evN0, Q.evQ2_0, Bool.false_and, Q.evQ45_0, iD_ap9])
local macro_rules | `(tactic| walk_at "evs") => `(tactic| simp (config := { decide := false }) only [seval, G.evB0, G.evB1, G.evB2, G.evB3, G.evB4, List.getElem?_set_self, List.length_set, List.set_set, List.map_cons, List.map_nil, List.length_cons, List.length_nil, List.replicate, List.cons_append, List.nil_append, List.getElem?_cons_zero, List.getElem?_cons_succ, List.set_cons_zero, List.set_cons_succ, Option.map_some, Option.map_none, Option.bind_some, Bool.not_true, Bool.not_false, if_true, if_false, decide_true, decide_false, Bool.false_eq_true, true_and, and_true, false_and, and_false, List.foldl_cons, List.foldl_nil, List.all_cons, List.all_nil, id_eq, Bool.and_true, Bool.true_and, eq_self, Bool.or_true, Bool.true_or, Bool.or_false, Bool.false_or, G.isNon, G.startE, G.bls, G.wipeE, Q.evSVG2_0, Q.evSVG3_0, Q.evSVG4_0, Q.evSVG5_0, Q.evSVG6_0, Q.evSVG7_0, P.evN0, Q.evQ2_0, Bool.false_and, Q.evQ45_0, iD_ap9, *])
namespace Q
def okS (i c : Nat) : Prop := if i % 2 = 0 then 48 ≤ c ∧ c < 58 else c = 46
theorem chk_iff : ∀ (w : List Nat), w.length % 2 = 1 → (chk w = true ↔ ∀ i c, w[i]? = some c → okS i c)
  | [], h => by simp at h
  | [c], _ => by
    simp only [chk, decide_eq_true_eq]
    constructor
    · intro h i d e
      cases i with
      | zero =>
        simp only [List.getElem?_cons_zero, Option.some.injEq] at e
        subst e
        exact h
      | succ i => simp at e
    · intro h
      exact h 0 c rfl
  | c :: p :: r, h => by
    have ih := chk_iff r (by simp only [List.length_cons] at h; omega)
    simp only [chk, Bool.and_eq_true, decide_eq_true_eq, ih]
    constructor
    · rintro ⟨⟨h1, h2⟩, h3⟩ i d e
      match i with
      | 0 =>
        simp only [List.getElem?_cons_zero, Option.some.injEq] at e
        subst e
        exact h1
      | 1 =>
        simp only [List.getElem?_cons_succ, List.getElem?_cons_zero, Option.some.injEq] at e
        subst e
        exact h2
      | i + 2 =>
        simp only [List.getElem?_cons_succ] at e
        have := h3 i d e
        unfold okS at this ⊢
        rw [show (i + 2) % 2 = i % 2 by omega]
        exact this
    · intro h
      refine ⟨⟨h 0 c rfl, h 1 p rfl⟩, fun i d e => ?_⟩
      have := h (i + 2) d (by simpa using e)
      unfold okS at this ⊢
      rw [show (i + 2) % 2 = i % 2 by omega] at this
      exact this
theorem evens_eq : ∀ (w : List Nat) (many : Nat), w.length + 1 = 2 * many → evens w = (List.range many).map fun i => w.getD (2 * i) 0 - 48
  | [], many, h => by simp at h; omega
  | [c], many, h => by
    obtain rfl : many = 1 := by simp at h; omega
    rfl
  | c :: p :: r, many, h => by
    obtain ⟨k, rfl⟩ : ∃ k, many = k + 1 := ⟨many - 1, by simp only [List.length_cons] at h; omega⟩
    have ih := evens_eq r k (by simp only [List.length_cons] at h; omega)
    rw [List.range_succ_eq_map, List.map_cons, List.map_map]
    simp only [evens, ih]
    congr 1
theorem enum_w : ∀ (w : List Nat) (n : Nat), enumD n (w.map fun c => D.str ⟨#[c]⟩) = ((List.range' n w.length).zip w).map fun p => D.tup [.int (p.1 : Nat), .str (tx [p.2])]
  | [], n => rfl
  | c :: r, n => by
    rw [List.map_cons, enumD, enum_w r (n + 1), List.length_cons, List.range'_succ, List.zip_cons_cons, List.map_cons]
    rfl
theorem zip_get (w : List Nat) {i c : Nat} {pre suf : List (Nat × Nat)} (h : (List.range' 0 w.length).zip w = pre ++ (i, c) :: suf) : i = pre.length ∧ w[i]? = some c := by
  have e : ((List.range' 0 w.length).zip w)[pre.length]? = some (i, c) := by rw [h]; simp
  rw [List.getElem?_zip_eq_some] at e
  obtain ⟨e1, e2⟩ := e
  rw [List.getElem?_range' ] at e1
  · simp at e1
    obtain rfl := e1
    exact ⟨rfl, e2⟩
  · exact (List.getElem?_eq_some_iff.mp e2).1
def enK (d : D) (S : Sto) : Res Its := match d with
  | .str x => .ok ⟨enumD 0 (sgs x), fun _ => True⟩ S
  | _ => .bad
theorem iEnumS_k (e : ME) (en : En) (S : Sto) : iEnumS e en S = (e en S).bind enK := rfl
theorem enK_tx (w : List Nat) (S : Sto) : enK (.str (tx w)) S = .ok ⟨((List.range' 0 w.length).zip w).map fun p => D.tup [.int (p.1 : Nat), .str (tx [p.2])], fun _ => True⟩ S := by
  show Res.ok (⟨enumD 0 (sgs (tx w)), fun _ => True⟩ : Its) S = _
  unfold sgs
  rw [tx_cps, enum_w]
theorem dNotIn_tx1 {S : Sto} {c : Nat} {z : List Nat} : dNotIn S (.str (tx [c])) (.str (tx z)) = some (.bl (!decide (c ∈ z))) := by
  show (dInB S (.str (tx [c])) (.str (tx z))).map (fun b => D.bl (!b)) = _
  have : dInB S (.str (tx [c])) (.str (tx z)) = (sign1 (tx [c])).map fun c => decide (c ∈ (tx z).cps.toList) := rfl
  rw [this, tx_cps]
  rfl
theorem ix_tx {S : Sto} {w : List Nat} {i c : Nat} (h : w[i]? = some c) (hl : w.length ≤ 100000) : dIdxA S (.str (tx w)) (.int ((i : Nat) : Int)) = some (.str (tx [c])) := by
  have e : dIdx S (.str (tx w)) (.int ((i : Nat) : Int)) = some (.str (tx [c])) := by
    show (if (tx w).length ≤ sizeLine then (atI (tx w).cps.toList (i : Int)).map fun c => D.str ⟨#[c]⟩ else none) = _
    rw [tx_len, if_pos (Nat.le_trans hl (by decide)), tx_cps, atI_at (by omega) (by rw [Int.toNat_natCast]; exact h)]
    rfl
  unfold dIdxA
  rw [e]
theorem law_numbersx_run {S : Sto} {w : List Nat} {many : Nat} (h1 : 1 ≤ many) (h2 : many ≤ 10) (hl : w.length ≤ 100000) : fn_law_numbersx.run [wD w, .int many] S = .ok (numD (numL w many)) S := by
  have LN := dLen_tx (S := S) (x := w) (by omega)
  rw [numL_chk w h1]
  unfold fn_law_numbersx ms_law_numbersx wD
  rw [dropF_run]
  refine drop_of ?_ (by split <;> simp [numD, D.bel, bels_i])
  rw [fnB_run, Wp_bind]
  by_cases e : w.length = 2 * many - 1
  · refine Wp_cut fun K hK => ?_
    walk_at "ev"
    rw [LN]
    walk_at "ev"
    rw [show decide (((w.length : Nat) : Int) = 2 * (many : Int) - 1) = true from decide_eq_true (by omega)]
    walk_at "ev"
    refine hK _ _ ?_
    clear hK K LN
    refine Wp_cutR fun K hK hR => ?_
    rw [sFor_ap, iEnumS_k]
    walk_at "ev"
    rw [enK_tx]
    walk_at "ev"
    have odd : w.length % 2 = 1 := by omega
    refine Wp_for (f0 := fun p : Nat × Nat => D.tup [.int (p.1 : Nat), .str (tx [p.2])]) (l := (List.range' 0 w.length).zip w) (fun pre en S' => (∃ x2 x3, en = [some (.str (tx w)), some (.int (many : Nat)), x2, x3]) ∧ S' = S ∧ ∀ i c, i < pre.length → w[i]? = some c → okS i c) ⟨⟨_, _, rfl⟩, rfl, fun i c h => absurd h (Nat.not_lt_zero _)⟩ ?_ ?_
    · rintro pre ⟨i, c⟩ suf en S' hl' ⟨⟨x2, x3, rfl⟩, rfl, ok⟩
      obtain ⟨rfl, ec⟩ := zip_get w hl'
      clear hl' hK
      refine ⟨_, rfl, ?_⟩
      simp only [List.length_append, List.length_singleton]
      generalize hn : pre.length = n at *
      have more : ∀ (q : okS n c) (i d : Nat), i < n + 1 → w[i]? = some d → okS i d := fun q i d hi hd => by
        by_cases e : i = n
        · subst e
          rw [hd] at ec
          cases ec
          exact q
        · exact ok i d (by omega) hd
      have bad : ¬ okS n c → ¬ (w.length = 2 * many - 1 ∧ chk w = true) := fun q z => q ((chk_iff w odd).mp z.2 n c ec)
      rw [figs_str, dot_str]
      by_cases hp : n % 2 = 0
      · have d1 : decide ((n : Int) % 2 = 0) = true := decide_eq_true (by omega)
        have okq : okS n c ↔ c ∈ figs := by unfold okS; rw [if_pos hp, mem_figs]
        walk_at "ev"
        rw [d1, if_pos rfl, atI_1]
        walk_at "ev"
        rw [dNotIn_tx1]
        by_cases hc : c ∈ figs
        · rw [decide_eq_true hc]
          have m := more (okq.mpr hc)
          replace m : Hid (∀ i d : Nat, i < n + 1 → w[i]? = some d → okS i d) := m
          walk_at "ev"
          exact ⟨⟨_, _, rfl⟩, m⟩
        · have b := bad (fun z => hc (okq.mp z))
          rw [decide_eq_false hc]
          walk_at "ev"
          refine hR _ _ ?_
          rw [if_neg b]
          walk_at "ev"
          exact ⟨rfl, [], (List.append_nil _).symm⟩
      · have d1 : decide ((n : Int) % 2 = 0) = false := decide_eq_false (by omega)
        have okq : okS n c ↔ c ∈ [46] := by unfold okS; rw [if_neg hp]; simp
        walk_at "ev"
        rw [d1, if_neg (by decide), atI_0]
        walk_at "ev"
        rw [dNotIn_tx1]
        by_cases hc : c ∈ [46]
        · rw [decide_eq_true hc]
          have m := more (okq.mpr hc)
          replace m : Hid (∀ i d : Nat, i < n + 1 → w[i]? = some d → okS i d) := m
          walk_at "ev"
          exact ⟨⟨_, _, rfl⟩, m⟩
        · have b := bad (fun z => hc (okq.mp z))
          rw [decide_eq_false hc]
          walk_at "ev"
          refine hR _ _ ?_
          rw [if_neg b]
          walk_at "ev"
          exact ⟨rfl, [], (List.append_nil _).symm⟩
    · rintro en S' ⟨⟨x2, x3, rfl⟩, rfl, ok⟩
      have ck : chk w = true := (chk_iff w odd).mpr fun i c e => ok i c (by have := (List.getElem?_eq_some_iff.mp e).1; simp; omega) e
      refine hK _ _ ?_
      clear hK hR K ok
      rw [if_pos ⟨e, ck⟩, evens_eq w many (by omega)]
      have RG := rg1K_nat (n := many) (S := S') (by omega)
      walk_at "ev"
      rw [RG]
      walk_at "ev"
      rw [comp_all (f := fun i => iD (w.getD (2 * i) 0 - 48)) (List.range many) (fun i hi => ⟨_, rfl, ?_⟩) (by rw [List.length_range]; omega)]
      rotate_left
      · rw [List.mem_range] at hi
        obtain ⟨c, hc⟩ : ∃ c, w[2 * i]? = some c := ⟨_, List.getElem?_eq_getElem (by omega)⟩
        have okc := (chk_iff w odd).mp ck (2 * i) c hc
        unfold okS at okc
        rw [if_pos (by omega)] at okc
        have IX := ix_tx (S := S') hc hl
        have DI := dInt10 (S := S') (i := ((c - 48 : Nat) : Int)) (by omega) (by omega)
        rw [show 48 + ((c - 48 : Nat) : Int).toNat = c by omega] at DI
        have e2 : ((2 * i : Nat) : Int) = 2 * (i : Int) := by omega
        rw [e2] at IX
        have gd : w.getD (2 * i) 0 = c := by rw [List.getD_eq_getElem?_getD, hc]; rfl
        clear RG
        walk_at "ev"
        rw [IX]
        walk_at "ev"
        rw [DI, gd]
        rfl
      walk_at "ev"
      refine ⟨?_, [], (List.append_nil _).symm⟩
      simp only [numD, List.map_map]
      rfl
  · walk_at "ev"
    rw [LN]
    walk_at "ev"
    rw [show decide (((w.length : Nat) : Int) = 2 * (many : Int) - 1) = false from decide_eq_false (by omega)]
    walk_at "ev"
    rw [if_neg fun z => e z.1]
    exact ⟨rfl, [], (List.append_nil _).symm⟩
end Q
end
section
open PySem L2 G P
open Q
local macro_rules | `(tactic| walk_at "ev") => `(tactic| simp (config := { decide := false }) only [seval, G.evB0, G.evB1, G.evB2, G.evB3, G.evB4, List.getElem?_set_self, List.length_set, List.set_set, List.map_cons, List.map_nil, List.length_cons, List.length_nil, List.replicate, List.cons_append, List.nil_append, List.getElem?_cons_zero, List.getElem?_cons_succ, List.set_cons_zero, List.set_cons_succ, Option.map_some, Option.map_none, Option.bind_some, Bool.not_true, Bool.not_false, if_true, if_false, decide_true, decide_false, Bool.false_eq_true, true_and, and_true, false_and, and_false, List.foldl_cons, List.foldl_nil, List.all_cons, List.all_nil, id_eq, Bool.and_true, Bool.true_and, eq_self, Bool.or_true, Bool.true_or, Bool.or_false, Bool.false_or, G.isNon, G.startE, G.bls, G.wipeE, Q.evSVG2_0, Q.evSVG3_0, Q.evSVG4_0, Q.evSVG5_0, Q.evSVG6_0, Q.evSVG7_0, P.evN0, Q.evQ2_0, Bool.false_and, Q.evQ45_0])
local macro_rules | `(tactic| walk_at "evs") => `(tactic| simp (config := { decide := false }) only [seval, G.evB0, G.evB1, G.evB2, G.evB3, G.evB4, List.getElem?_set_self, List.length_set, List.set_set, List.map_cons, List.map_nil, List.length_cons, List.length_nil, List.replicate, List.cons_append, List.nil_append, List.getElem?_cons_zero, List.getElem?_cons_succ, List.set_cons_zero, List.set_cons_succ, Option.map_some, Option.map_none, Option.bind_some, Bool.not_true, Bool.not_false, if_true, if_false, decide_true, decide_false, Bool.false_eq_true, true_and, and_true, false_and, and_false, List.foldl_cons, List.foldl_nil, List.all_cons, List.all_nil, id_eq, Bool.and_true, Bool.true_and, eq_self, Bool.or_true, Bool.true_or, Bool.or_false, Bool.false_or, G.isNon, G.startE, G.bls, G.wipeE, Q.evSVG2_0, Q.evSVG3_0, Q.evSVG4_0, Q.evSVG5_0, Q.evSVG6_0, Q.evSVG7_0, P.evN0, Q.evQ2_0, Bool.false_and, Q.evQ45_0, *])
namespace Q
theorem dNeL_nil (S : Sto) : dNeL S (.lst []) (.lst []) = some (.bl false) := rfl
theorem dNeL_cons (S : Sto) (a : D) (r : List D) : dNeL S (.lst (a :: r)) (.lst []) = some (.bl true) := rfl
theorem numL_only {w : List Nat} {a b : Nat} {l : List Nat} (h : numL w a = some l) (ne : b ≠ a) : numL w b = none := by
  unfold numL at h ⊢
  split at h
  · rename_i e
    rw [if_neg (by omega)]
  · cases h
theorem numD_none : numD none = .non := rfl
theorem numD_some (l : List Nat) : numD (some l) = .tup (l.map iD) := rfl
end Q
local macro_rules | `(tactic| walk_at "ev") => `(tactic| simp (config := { decide := false }) only [seval, G.evB0, G.evB1, G.evB2, G.evB3, G.evB4, List.getElem?_set_self, List.length_set, List.set_set, List.map_cons, List.map_nil, List.length_cons, List.length_nil, List.replicate, List.cons_append, List.nil_append, List.getElem?_cons_zero, List.getElem?_cons_succ, List.set_cons_zero, List.set_cons_succ, Option.map_some, Option.map_none, Option.bind_some, Bool.not_true, Bool.not_false, if_true, if_false, decide_true, decide_false, Bool.false_eq_true, true_and, and_true, false_and, and_false, List.foldl_cons, List.foldl_nil, List.all_cons, List.all_nil, id_eq, Bool.and_true, Bool.true_and, eq_self, Bool.or_true, Bool.true_or, Bool.or_false, Bool.false_or, G.isNon, G.startE, G.bls, G.wipeE, Q.evSVG2_0, Q.evSVG3_0, Q.evSVG4_0, Q.evSVG5_0, Q.evSVG6_0, Q.evSVG7_0, P.evN0, Q.evQ2_0, Bool.false_and, Q.evQ45_0, dNeL_nil, dNeL_cons, numD_none, numD_some, iD_ap9])
local macro_rules | `(tactic| walk_at "evs") => `(tactic| simp (config := { decide := false }) only [seval, G.evB0, G.evB1, G.evB2, G.evB3, G.evB4, List.getElem?_set_self, List.length_set, List.set_set, List.map_cons, List.map_nil, List.length_cons, List.length_nil, List.replicate, List.cons_append, List.nil_append, List.getElem?_cons_zero, List.getElem?_cons_succ, List.set_cons_zero, List.set_cons_succ, Option.map_some, Option.map_none, Option.bind_some, Bool.not_true, Bool.not_false, if_true, if_false, decide_true, decide_false, Bool.false_eq_true, true_and, and_true, false_and, and_false, List.foldl_cons, List.foldl_nil, List.all_cons, List.all_nil, id_eq, Bool.and_true, Bool.true_and, eq_self, Bool.or_true, Bool.true_or, Bool.or_false, Bool.false_or, G.isNon, G.startE, G.bls, G.wipeE, Q.evSVG2_0, Q.evSVG3_0, Q.evSVG4_0, Q.evSVG5_0, Q.evSVG6_0, Q.evSVG7_0, P.evN0, Q.evQ2_0, Bool.false_and, Q.evQ45_0, dNeL_nil, dNeL_cons, numD_none, numD_some, iD_ap9, *])
namespace Q
def rdD : Nat ⊕ Gr → D
  | .inl n => .int n
  | .inr g => gD g
theorem bel_rdD (n : Nat) (x : Nat ⊕ Gr) : D.bel n (rdD x) = True := by
  cases x with
  | inl k => simp [rdD, D.bel]
  | inr g => exact bel_g n g
theorem law_read_grantx_run {S : Sto} {ws : List (List Nat)} (hl : ∀ w ∈ ws, w.length ≤ 100000) : fn_law_read_grantx.run [.lst (ws.map wD)] S = .ok (rdD (rdG ws)) S := by
  have fin : ∀ x : Nat ⊕ Gr, (Res.ok (rdD x) S).drop S = .ok (rdD x) S := fun x => Res.drop_self (by rw [bel_rdD]; trivial)
  have fini : ∀ n : Nat, (Res.ok (D.int n) S).drop S = .ok (D.int n) S := fun n => fin (.inl n)
  unfold fn_law_read_grantx ms_law_read_grantx
  cases ws with
  | nil =>
    simp only [List.map_nil]
    walk_at "evs"
    first | exact fini 0 | exact rfl
  | cons u r =>
    have N : fn_law_numbersx.run [wD u, .int 2] S = .ok (numD (numL u 2)) S := law_numbersx_run (many := 2) (by decide) (by decide) (hl u (by simp))
    simp only [List.map_cons]
    unfold rdG
    rcases numD2 u with ⟨a2, b2⟩ | ⟨h, a2, b2⟩
    · rw [b2] at N
      simp only [a2]
      simp only [numD] at N
      clear hl
      walk_at "evs"
      first | exact fini 0 | exact rfl
    · rw [b2] at N
      simp only [a2]
      simp only [numD, List.map_cons, List.map_nil] at N
      cases r with
      | nil =>
        simp only [List.map_nil]
        clear hl
        walk_at "evs"
        first | exact fini 1 | exact rfl
      | cons x r2 =>
        have NEX : dNe S (wD x) (D.str (Str.ofString "<")) = some (.bl (!decide (x = [60]))) := by rw [lt_str]; exact dNe_tx S x [60]
        have d2 : decide ((((r2.map wD).length + 1 + 1 : Nat) : Int) < 2) = false := decide_eq_false (by omega)
        simp only [List.map_cons]
        by_cases hx : x = [60]
        · rw [decide_eq_true hx] at NEX
          rw [if_pos hx]
          clear hx
          cases r2 with
          | nil =>
            simp only [List.map_nil, List.length_nil] at d2 ⊢
            clear hl
            walk_at "evs"
            first | exact fini 2 | exact rfl
          | cons w rest =>
            have hw := hl w (by simp)
            have CM : ∀ (t : List D) (x1 : Option D), comp (gN 6) tYesM (mCall fn_law_numbersx (aCons (mOp dIdxA (mVar 0) (mC (.int 2))) (aCons (mVar 6) aNil))) (fun _ => True) [some (.lst (wD u :: wD x :: wD w :: t)), x1, none, none, none, none, none] [.int 1, .int 2, .int 3] [] S = .ok [numD (numL w 1), numD (numL w 2), numD (numL w 3)] S := fun t x1 => by
              have := comp_all (f0 := fun k : Nat => D.int (k : Nat)) (f := fun k : Nat => numD (numL w k)) (g := gN 6) (e := mCall fn_law_numbersx (aCons (mOp dIdxA (mVar 0) (mC (.int 2))) (aCons (mVar 6) aNil))) (en := [some (.lst (wD u :: wD x :: wD w :: t)), x1, none, none, none, none, none]) (S := S) [1, 2, 3] (fun k hk => ⟨_, rfl, by
                have R := law_numbersx_run (S := S) (w := w) (many := k) (by simp at hk; omega) (by simp at hk; omega) hw
                walk_at "evs"⟩) (by decide)
              exact this
            simp only [List.map_cons, List.length_cons] at d2 ⊢
            have d3 : decide ((((rest.map wD).length + 1 + 1 + 1 : Nat) : Int) < 3) = false := decide_eq_false (by omega)
            have hr : ∀ v ∈ rest, v.length ≤ 100000 := fun v hv => hl v (by simp [hv])
            replace hr : Hid (∀ v ∈ rest, v.length ≤ 100000) := hr
            clear hl hw
            rcases numD1 w with ⟨p1, q1⟩ | ⟨a, p1, q1⟩
            · have E1 := congrArg numD q1
              unfold rdB
              simp only [p1]
              rcases numD3 w with ⟨p3, q3⟩ | ⟨rr, c, p3, q3⟩
              · have E3 := congrArg numD q3
                simp only [p3]
                rcases numD2 w with ⟨p2, q2⟩ | ⟨s, p2, q2⟩
                · have E2 := congrArg numD q2
                  simp only [p2]
                  simp only [numD] at E1 E2 E3
                  walk_at "evs"
                  first | exact fini 2 | exact rfl
                · have E2 := congrArg numD q2
                  simp only [p2]
                  simp only [numD, List.map_cons, List.map_nil] at E1 E2 E3
                  cases rest with
                  | nil =>
                    simp only [List.map_nil, List.length_nil] at d2 d3 ⊢
                    walk_at "evs"
                    first | exact rfl
                  | cons y more =>
                    simp only [List.map_cons, List.length_cons] at d2 d3 ⊢
                    have d4 : decide ((3 : Int) < (((more.map wD).length + 1 + 1 + 1 + 1 : Nat) : Int)) = true := decide_eq_true (by omega)
                    have d5 : decide ((((more.map wD).length + 1 + 1 + 1 + 1 : Nat) : Int) = 3) = false := decide_eq_false (by omega)
                    have NEY : dNe S (wD y) (D.str (Str.ofString "&")) = some (.bl (!decide (y = [38]))) := by rw [amp_str]; exact dNe_tx S y [38]
                    by_cases hy : y = [38]
                    · rw [decide_eq_true hy] at NEY
                      rw [if_pos hy]
                      clear hy
                      cases more with
                      | nil =>
                        simp only [List.map_nil, List.length_nil] at d2 d3 d4 d5 ⊢
                        walk_at "evs"
                        first | exact fini 4 | exact rfl
                      | cons v far =>
                        have NV : fn_law_numbersx.run [wD v, .int 2] S = .ok (numD (numL v 2)) S := law_numbersx_run (many := 2) (by decide) (by decide) (hr v (by simp))
                        simp only [List.map_cons, List.length_cons] at d2 d3 d4 d5 ⊢
                        have d6 : decide ((4 : Int) < (((far.map wD).length + 1 + 1 + 1 + 1 + 1 : Nat) : Int)) = true := decide_eq_true (by omega)
                        rcases numD2 v with ⟨p5, q5⟩ | ⟨s5, p5, q5⟩
                        · rw [q5] at NV
                          simp only [p5]
                          walk_at "evs"
                          first | exact fini 4 | exact rfl
                        · rw [q5] at NV
                          simp only [p5]
                          by_cases hf : far = []
                          · rw [if_pos hf]
                            subst hf
                            simp only [List.map_nil, List.length_nil] at d2 d3 d4 d5 d6 ⊢
                            walk_at "evs"
                            first | exact rfl
                          · have lf := List.length_pos_iff.mpr hf
                            have d7 : decide ((5 : Int) < (((far.map wD).length + 1 + 1 + 1 + 1 + 1 : Nat) : Int)) = true := decide_eq_true (by rw [List.length_map]; omega)
                            rw [if_neg hf]
                            clear hf lf
                            walk_at "evs"
                            first | exact fini 5 | exact rfl
                    · rw [decide_eq_false hy] at NEY
                      rw [if_neg hy]
                      clear hy
                      walk_at "evs"
                      first | exact fini 3 | exact rfl
              · have q2 : numL w 2 = none := numL_only q3 (by decide)
                have E3 := congrArg numD q3
                have E2 := congrArg numD q2
                simp only [p3]
                simp only [numD, List.map_cons, List.map_nil] at E1 E2 E3
                cases rest with
                | nil =>
                  have CU : cutD [iD rr.1, iD rr.2, iD c] none (some 2) = [iD rr.1, iD rr.2] := rfl
                  simp only [iD_ap9] at CU
                  simp only [List.map_nil, List.length_nil] at d2 d3 ⊢
                  walk_at "evs"
                  first | exact rfl
                | cons y more =>
                  simp only [List.map_cons, List.length_cons] at d2 d3 ⊢
                  have d4 : decide ((3 : Int) < (((more.map wD).length + 1 + 1 + 1 + 1 : Nat) : Int)) = true := decide_eq_true (by omega)
                  walk_at "evs"
                  first | exact fini 3 | exact rfl
            · have E1 := congrArg numD q1
              unfold rdB
              simp only [p1]
              have q2 : numL w 2 = none := numL_only q1 (by decide)
              have q3 : numL w 3 = none := numL_only q1 (by decide)
              have E2 := congrArg numD q2
              have E3 := congrArg numD q3
              simp only [numD, List.map_cons, List.map_nil] at E1 E2 E3
              cases rest with
              | nil =>
                simp only [List.map_nil, List.length_nil] at d2 d3 ⊢
                walk_at "evs"
                first | exact rfl
              | cons y more =>
                simp only [List.map_cons, List.length_cons] at d2 d3 ⊢
                have d4 : decide ((3 : Int) < (((more.map wD).length + 1 + 1 + 1 + 1 : Nat) : Int)) = true := decide_eq_true (by omega)
                walk_at "evs"
                first | exact rfl
        · rw [decide_eq_false hx] at NEX
          rw [if_neg hx]
          clear hx hl
          walk_at "evs"
          first | exact fini 1 | exact rfl
end Q
end
section
open PySem L2 G P
open Q
local macro_rules | `(tactic| walk_at "ev") => `(tactic| simp (config := { decide := false }) only [seval, G.evB0, G.evB1, G.evB2, G.evB3, G.evB4, List.getElem?_set_self, List.length_set, List.set_set, List.map_cons, List.map_nil, List.length_cons, List.length_nil, List.replicate, List.cons_append, List.nil_append, List.getElem?_cons_zero, List.getElem?_cons_succ, List.set_cons_zero, List.set_cons_succ, Option.map_some, Option.map_none, Option.bind_some, Bool.not_true, Bool.not_false, if_true, if_false, decide_true, decide_false, Bool.false_eq_true, true_and, and_true, false_and, and_false, List.foldl_cons, List.foldl_nil, List.all_cons, List.all_nil, id_eq, Bool.and_true, Bool.true_and, eq_self, Bool.or_true, Bool.true_or, Bool.or_false, Bool.false_or, G.isNon, G.startE, G.bls, G.wipeE, Q.evSVG2_0, Q.evSVG3_0, Q.evSVG4_0, Q.evSVG5_0, Q.evSVG6_0, Q.evSVG7_0, P.evN0, Q.evQ2_0, Bool.false_and, Q.evQ45_0])
local macro_rules | `(tactic| walk_at "evs") => `(tactic| simp (config := { decide := false }) only [seval, G.evB0, G.evB1, G.evB2, G.evB3, G.evB4, List.getElem?_set_self, List.length_set, List.set_set, List.map_cons, List.map_nil, List.length_cons, List.length_nil, List.replicate, List.cons_append, List.nil_append, List.getElem?_cons_zero, List.getElem?_cons_succ, List.set_cons_zero, List.set_cons_succ, Option.map_some, Option.map_none, Option.bind_some, Bool.not_true, Bool.not_false, if_true, if_false, decide_true, decide_false, Bool.false_eq_true, true_and, and_true, false_and, and_false, List.foldl_cons, List.foldl_nil, List.all_cons, List.all_nil, id_eq, Bool.and_true, Bool.true_and, eq_self, Bool.or_true, Bool.true_or, Bool.or_false, Bool.false_or, G.isNon, G.startE, G.bls, G.wipeE, Q.evSVG2_0, Q.evSVG3_0, Q.evSVG4_0, Q.evSVG5_0, Q.evSVG6_0, Q.evSVG7_0, P.evN0, Q.evQ2_0, Bool.false_and, Q.evQ45_0, *])
namespace Q
theorem law_words_run {S : Sto} {t : List Nat} (hl : t.length ≤ 100000) : fn_law_words.run [.str (tx t)] S = .ok (.lst ((wsL t).map wD)) S := by
  have SP := dSplit_tx (S := S) (x := t) (c := 32) (by omega)
  have cnt := spl_count 32 t
  unfold fn_law_words ms_law_words
  rw [dropF_run]
  refine drop_of ?_ (by simp only [D.bel]; rw [bels_map _ wD (fun a => by simp [wD, D.bel])]; trivial)
  rw [fnB_run, Wp_bind]
  rw [blank_str, emp_str]
  walk_at "ev"
  rw [SP]
  walk_at "ev"
  rw [comp_map (f := wD) (p := fun w => !decide (w = [])) (spl 32 t) [] (fun w hw => ⟨_, rfl, ?_, fun _ => rfl⟩) (by simp; omega)]
  rotate_left
  · have E := dNe_tx S w []
    clear SP
    walk_at "ev"
    simp only [tx_inj]
  walk_at "ev"
  exact ⟨rfl, [], (List.append_nil _).symm⟩
def dueT : Nat ⊕ Gr → D
  | .inl n => .lst [.str "text", .int 0, .int n]
  | .inr g => .lst [.str "ok", gD g]
theorem told8_run {S : Sto} {t : List Nat} (hl : t.length ≤ 80000) : fn_law_told_v8.run [.str (tx t)] S = .ok (dueT (rdG (wsL t))) S := by
  have R := read_grant_run (S := S) hl
  unfold fn_law_told_v8 ms_law_told_v8
  rw [dropF_run, fnB_run, sTry1_ap]
  cases hg : rdG (wsL t) with
  | inl n =>
    rw [hg] at R
    replace R : fn_read_grant.run [.str (tx t)] S = .ex 15 ["number", "line"] [.int n, .int 0] S := R
    clear hg
    walk_at "evs"
    rw [tryK_hit (by decide) (by simp) (by decide), catchR_of (g := .rt (.lst [.str "text", .int 0, .int n])) (xRet_lst rfl (by simp))]
    walk_at "ev"
    exact Res.drop_self (by simp [D.bel, D.bels])
  | inr g =>
    rw [hg] at R
    replace R : fn_read_grant.run [.str (tx t)] S = .ok (gD g) S := R
    clear hg
    walk_at "evs"
    exact rfl
theorem told8_other {S : Sto} {x : D} (h : dIsi S [x, .ty "str"] = some (.bl false)) : fn_law_told_v8.run [x] S = .ok (.lst [.str "text", .non, .non]) S := by
  have R : fn_read_grant.run [x] S = .ex 15 ["number", "line"] [.non, .non] S := by
    unfold fn_read_grant ms_read_grant
    walk_at "evs"
    exact drop_ex0 (by simp [D.bels, D.bel])
  unfold fn_law_told_v8 ms_law_told_v8
  rw [dropF_run, fnB_run, sTry1_ap]
  walk_at "evs"
  rw [tryK_hit (by decide) (by simp) (by decide), catchR_of (g := .rt (.lst [.str "text", .non, .non])) (xRet_lst rfl (by simp))]
  walk_at "ev"
  exact Res.drop_self (by simp [D.bel, D.bels])
end Q
end
section
open PySem L2 G P
open Q
local macro_rules | `(tactic| walk_at "ev") => `(tactic| simp (config := { decide := false }) only [seval, G.evB0, G.evB1, G.evB2, G.evB3, G.evB4, List.getElem?_set_self, List.length_set, List.set_set, List.map_cons, List.map_nil, List.length_cons, List.length_nil, List.replicate, List.cons_append, List.nil_append, List.getElem?_cons_zero, List.getElem?_cons_succ, List.set_cons_zero, List.set_cons_succ, Option.map_some, Option.map_none, Option.bind_some, Bool.not_true, Bool.not_false, if_true, if_false, decide_true, decide_false, Bool.false_eq_true, true_and, and_true, false_and, and_false, List.foldl_cons, List.foldl_nil, List.all_cons, List.all_nil, id_eq, Bool.and_true, Bool.true_and, eq_self, Bool.or_true, Bool.true_or, Bool.or_false, Bool.false_or, G.isNon, G.startE, G.bls, G.wipeE, Q.evSVG2_0, Q.evSVG3_0, Q.evSVG4_0, Q.evSVG5_0, Q.evSVG6_0, Q.evSVG7_0, P.evN0, Q.evQ2_0, Bool.false_and, Q.evQ45_0])
local macro_rules | `(tactic| walk_at "evs") => `(tactic| simp (config := { decide := false }) only [seval, G.evB0, G.evB1, G.evB2, G.evB3, G.evB4, List.getElem?_set_self, List.length_set, List.set_set, List.map_cons, List.map_nil, List.length_cons, List.length_nil, List.replicate, List.cons_append, List.nil_append, List.getElem?_cons_zero, List.getElem?_cons_succ, List.set_cons_zero, List.set_cons_succ, Option.map_some, Option.map_none, Option.bind_some, Bool.not_true, Bool.not_false, if_true, if_false, decide_true, decide_false, Bool.false_eq_true, true_and, and_true, false_and, and_false, List.foldl_cons, List.foldl_nil, List.all_cons, List.all_nil, id_eq, Bool.and_true, Bool.true_and, eq_self, Bool.or_true, Bool.true_or, Bool.or_false, Bool.false_or, G.isNon, G.startE, G.bls, G.wipeE, Q.evSVG2_0, Q.evSVG3_0, Q.evSVG4_0, Q.evSVG5_0, Q.evSVG6_0, Q.evSVG7_0, P.evN0, Q.evQ2_0, Bool.false_and, Q.evQ45_0, *])
namespace Q
theorem add_st {S : Sto} {x y : Str} (h : x.length + y.length ≤ 1000000) : dAdd S (.str x) (.str y) = some (.str (x ++ y)) := by
  rw [dAdd_str, if_pos (Nat.le_trans h (by decide))]
theorem len_st9 (x y : Str) : (x ++ y).length = x.length + y.length := by
  rw [tx_of x, tx_of y, tx_app, tx_len, tx_len, tx_len, List.length_append]
theorem sl_st {S : Sto} {x : Str} (lo hi : Option Int) (h : x.length ≤ 1000000) : ∃ y : Str, dSl S (.str x) lo hi = some (.str y) ∧ y.length ≤ x.length := by
  refine ⟨cutS x lo hi, if_pos (Nat.le_trans h (by decide)), ?_⟩
  show (((x.cps.toList.drop _).take _).toArray).size ≤ x.cps.size
  rw [List.size_toArray, List.length_take, List.length_drop, Array.length_toList]
  omega
def TxN (n : Nat) (d : D) : Prop := ∃ x : Str, d = .str x ∧ x.length ≤ n
theorem torn_lk {S : Sto} {i : Nat} {x : Str} (hS : HasLk S i) (hl : x.length ≤ 10000) : Wp (fn_law_torn.run [.ref i, .str x] S) fun d S' => TxN (3 * x.length + 20) d ∧ LkTo S i S' := by
  have hi := hS.lt
  unfold fn_law_torn ms_law_torn
  rw [dropF_run]
  refine drop_lk (fun d hd k => by obtain ⟨y, rfl, _⟩ := hd; simp [D.bel]) ?_
  rw [fnB_run, Wp_bind]
  refine Wp_cut fun K hK => ?_
  have LN : ∀ S, dLen S [.str x] = some (.int x.length) := fun S => dLen_str (Nat.le_trans hl (by decide))
  walk_at "evs"
  have e1 : ((x.length : Nat) : Int) + 1 = ((x.length + 1 : Nat) : Int) := by omega
  rw [e1]
  refine (take_lk hS (by omega) (by omega)).mono ?_
  rintro _ S1 ⟨⟨a, rfl, ha⟩, t1⟩
  try walk_at "ev"
  refine (pick_lst (ds := [.str "0", .str "9", .str " ", .str ".", .str "<", .str "&", .str "-", .str "\n", .str "x", .str "owners", .str " 0.0"]) (t1.has hi) (by decide) (by decide) (fun d hd k => ?_)).mono ?_
  · simp only [List.mem_cons, List.not_mem_nil, or_false] at hd
    rcases hd with rfl | rfl | rfl | rfl | rfl | rfl | rfl | rfl | rfl | rfl | rfl <;> simp [D.bel]
  rintro m S2 ⟨hm, t2⟩
  have hm2 : TxN 6 m := by
    simp only [List.mem_cons, List.not_mem_nil, or_false] at hm
    rcases hm with rfl | rfl | rfl | rfl | rfl | rfl | rfl | rfl | rfl | rfl | rfl <;> exact ⟨_, rfl, by decide⟩
  clear hm
  obtain ⟨m, rfl, lm⟩ := hm2
  try walk_at "ev"
  refine hK _ _ ?_
  clear hK K
  refine Wp_cut fun K hK => ?_
  walk_at "ev"
  obtain ⟨u1, E1, l1⟩ := sl_st (S := S2) (x := x) none (some (a : Int)) (by omega)
  obtain ⟨u2, E2, l2⟩ := sl_st (S := S2) (x := x) (some (a : Int)) none (by omega)
  obtain ⟨u3, E3, l3⟩ := sl_st (S := S2) (x := x) (some ((a : Int) + 1)) none (by omega)
  have A1 : dAdd S2 (.str u1) (.str m) = some (.str (u1 ++ m)) := add_st (by omega)
  have A2 : dAdd S2 (.str (u1 ++ m)) (.str u2) = some (.str (u1 ++ m ++ u2)) := add_st (by rw [len_st9]; omega)
  have A3 : dAdd S2 (.str (u1 ++ m)) (.str u3) = some (.str (u1 ++ m ++ u3)) := add_st (by rw [len_st9]; omega)
  have s1 : (Str.ofString " ").length = 1 := by decide
  have A4 : dAdd S2 (.str x) (.str " ") = some (.str (x ++ " ")) := add_st (by rw [s1]; omega)
  have A5 : dAdd S2 (.str " ") (.str x) = some (.str (Str.ofString " " ++ x)) := add_st (by rw [s1]; omega)
  have B1 : (u1 ++ m ++ u2).length ≤ 3 * x.length + 20 := by rw [len_st9, len_st9]; omega
  have B2 : (u1 ++ m ++ u3).length ≤ 3 * x.length + 20 := by rw [len_st9, len_st9]; omega
  have B3 : (x ++ Str.ofString " ").length ≤ 3 * x.length + 20 := by rw [len_st9, s1]; omega
  have B4 : (Str.ofString " " ++ x).length ≤ 3 * x.length + 20 := by rw [len_st9, s1]; omega
  walk_at "evs"
  refine hK _ _ ?_
  clear hK K E1 E2 E3 A1 A2 A3 A4 A5
  generalize u1 ++ m ++ u2 = v1 at *
  generalize u1 ++ m ++ u3 = v2 at *
  generalize x ++ Str.ofString " " = v3 at *
  generalize Str.ofString " " ++ x = v4 at *
  walk_at "evs"
  have r1 : dRepl (Str.ofString " ") (Str.ofString "  ") S2 (.str x) = some (.str (Txt.replace x (Str.ofString " ") (Str.ofString "  "))) := if_pos (by rw [show (Str.ofString "  ").length = 2 by decide]; omega)
  have r2 : dRepl (Str.ofString "<") (Str.ofString "=") S2 (.str x) = some (.str (Txt.replace x (Str.ofString "<") (Str.ofString "="))) := if_pos (by rw [show (Str.ofString "=").length = 1 by decide]; omega)
  have R1 : (Txt.replace x (Str.ofString " ") (Str.ofString "  ")).length ≤ 3 * x.length + 20 := by
    have := TK.replace_len x (Str.ofString " ") (Str.ofString "  ")
    rw [show (Str.ofString "  ").length = 2 by decide] at this
    omega
  have R2 : (Txt.replace x (Str.ofString "<") (Str.ofString "=")).length ≤ 3 * x.length + 20 := by
    have := TK.replace_len x (Str.ofString "<") (Str.ofString "=")
    rw [show (Str.ofString "=").length = 1 by decide] at this
    omega
  have U1 : dUp S2 (.str x) = some (.str (Txt.upper x)) := if_pos (by omega)
  have U2 : (Txt.upper x).length ≤ 3 * x.length + 20 := by have := PyProof.Rows.len_upper x; omega
  have A1 : dAdd S2 (.str x) (.str " 1") = some (.str (x ++ Str.ofString " 1")) := add_st (by rw [show (Str.ofString " 1").length = 2 by decide]; omega)
  have A2 : dAdd S2 (.str x) (.str "\n") = some (.str (x ++ Str.ofString "\n")) := add_st (by rw [show (Str.ofString "\n").length = 1 by decide]; omega)
  have C1 : (x ++ Str.ofString " 1").length ≤ 3 * x.length + 20 := by rw [len_st9, show (Str.ofString " 1").length = 2 by decide]; omega
  have C2 : (x ++ Str.ofString "\n").length ≤ 3 * x.length + 20 := by rw [len_st9, show (Str.ofString "\n").length = 1 by decide]; omega
  generalize Txt.replace x (Str.ofString " ") (Str.ofString "  ") = w1 at *
  generalize Txt.replace x (Str.ofString "<") (Str.ofString "=") = w2 at *
  generalize Txt.upper x = w3 at *
  generalize x ++ Str.ofString " 1" = w4 at *
  generalize x ++ Str.ofString "\n" = w5 at *
  have AD : dAdd S2 (.lst [.str v1, .str v2, .str u1, .str v3, .str v4, .str u2]) (.lst [.str w1, .str w4, .str w3, .str w5, .str w2]) = some (.lst [.str v1, .str v2, .str u1, .str v3, .str v4, .str u2, .str w1, .str w4, .str w3, .str w5, .str w2]) := rfl
  have L1 : u1.length ≤ 3 * x.length + 20 := by omega
  have L2 : u2.length ≤ 3 * x.length + 20 := by omega
  walk_at "evs"
  refine (pick_lst (ds := [.str v1, .str v2, .str u1, .str v3, .str v4, .str u2, .str w1, .str w4, .str w3, .str w5, .str w2]) ((t1.trans t2).has hi) (by simp) (by simp) (fun d hd k => ?_)).mono ?_
  · simp only [List.mem_cons, List.not_mem_nil, or_false] at hd
    rcases hd with rfl | rfl | rfl | rfl | rfl | rfl | rfl | rfl | rfl | rfl | rfl <;> simp [D.bel]
  · rintro d S3 ⟨hd, t3⟩
    refine ⟨?_, (t1.trans t2).trans t3⟩
    simp only [List.mem_cons, List.not_mem_nil, or_false] at hd
    rcases hd with rfl | rfl | rfl | rfl | rfl | rfl | rfl | rfl | rfl | rfl | rfl <;> exact ⟨_, rfl, by assumption⟩
end Q
end
section
open PySem L2 G P
open Q
local macro_rules | `(tactic| walk_at "ev") => `(tactic| simp (config := { decide := false }) only [seval, G.evB0, G.evB1, G.evB2, G.evB3, G.evB4, List.getElem?_set_self, List.length_set, List.set_set, List.map_cons, List.map_nil, List.length_cons, List.length_nil, List.replicate, List.cons_append, List.nil_append, List.getElem?_cons_zero, List.getElem?_cons_succ, List.set_cons_zero, List.set_cons_succ, Option.map_some, Option.map_none, Option.bind_some, Bool.not_true, Bool.not_false, if_true, if_false, decide_true, decide_false, Bool.false_eq_true, true_and, and_true, false_and, and_false, List.foldl_cons, List.foldl_nil, List.all_cons, List.all_nil, id_eq, Bool.and_true, Bool.true_and, eq_self, Bool.or_true, Bool.true_or, Bool.or_false, Bool.false_or, G.isNon, G.startE, G.bls, G.wipeE, Q.evSVG2_0, Q.evSVG3_0, Q.evSVG4_0, Q.evSVG5_0, Q.evSVG6_0, Q.evSVG7_0, P.evN0, Q.evQ2_0, Bool.false_and, Q.evQ45_0])
local macro_rules | `(tactic| walk_at "evs") => `(tactic| simp (config := { decide := false }) only [seval, G.evB0, G.evB1, G.evB2, G.evB3, G.evB4, List.getElem?_set_self, List.length_set, List.set_set, List.map_cons, List.map_nil, List.length_cons, List.length_nil, List.replicate, List.cons_append, List.nil_append, List.getElem?_cons_zero, List.getElem?_cons_succ, List.set_cons_zero, List.set_cons_succ, Option.map_some, Option.map_none, Option.bind_some, Bool.not_true, Bool.not_false, if_true, if_false, decide_true, decide_false, Bool.false_eq_true, true_and, and_true, false_and, and_false, List.foldl_cons, List.foldl_nil, List.all_cons, List.all_nil, id_eq, Bool.and_true, Bool.true_and, eq_self, Bool.or_true, Bool.true_or, Bool.or_false, Bool.false_or, G.isNon, G.startE, G.bls, G.wipeE, Q.evSVG2_0, Q.evSVG3_0, Q.evSVG4_0, Q.evSVG5_0, Q.evSVG6_0, Q.evSVG7_0, P.evN0, Q.evQ2_0, Bool.false_and, Q.evQ45_0, *])
namespace Q
def r10 (r : Rl) : Prop := r.1 < 10 ∧ r.2 < 10
def bd10 : Bd → Prop
  | .own c => c < 10
  | .rol r => r10 r
  | .bot r s => r10 r ∧ r10 s
  | .thr r m => r10 r ∧ m < 10
theorem num1_10 {w : List Nat} {a : Nat} (h : num1 w = some a) : a < 10 := by
  rcases numD1 w with ⟨e, _⟩ | ⟨b, e, q⟩
  · rw [e] at h; cases h
  · rw [e] at h
    cases h
    exact (numL_some q).2 _ (by simp)
theorem num2_10 {w : List Nat} {r : Rl} (h : num2 w = some r) : r10 r := by
  rcases numD2 w with ⟨e, _⟩ | ⟨b, e, q⟩
  · rw [e] at h; cases h
  · rw [e] at h
    cases h
    exact ⟨(numL_some q).2 _ (by simp), (numL_some q).2 _ (by simp)⟩
theorem num3_10 {w : List Nat} {p : Rl × Nat} (h : num3 w = some p) : r10 p.1 ∧ p.2 < 10 := by
  rcases numD3 w with ⟨e, _⟩ | ⟨r, c, e, q⟩
  · rw [e] at h; cases h
  · rw [e] at h
    cases h
    exact ⟨⟨(numL_some q).2 _ (by simp), (numL_some q).2 _ (by simp)⟩, (numL_some q).2 _ (by simp)⟩
def rd10 : Nat ⊕ Gr → Prop
  | .inl n => n ≤ 5
  | .inr g => r10 g.1 ∧ bd10 g.2
def rb10 : Nat ⊕ Bd → Prop
  | .inl n => n ≤ 5
  | .inr b => bd10 b
theorem rdB_10 (w : List Nat) (rest : List (List Nat)) : rb10 (rdB w rest) := by
  unfold rdB
  cases h1 : num1 w with
  | some a =>
    simp only
    split
    · exact num1_10 h1
    · exact (by decide : 3 ≤ 5)
  | none =>
    simp only
    cases h3 : num3 w with
    | some p =>
      obtain ⟨r, c⟩ := p
      simp only
      split
      · exact num3_10 h3
      · exact (by decide : 3 ≤ 5)
    | none =>
      simp only
      cases h2 : num2 w with
      | none => exact (by decide : 2 ≤ 5)
      | some r =>
        simp only
        cases rest with
        | nil => exact num2_10 h2
        | cons y more =>
          simp only
          split
          · cases more with
            | nil => exact (by decide : 4 ≤ 5)
            | cons v far =>
              simp only
              cases h4 : num2 v with
              | none => exact (by decide : 4 ≤ 5)
              | some s =>
                simp only
                split
                · exact ⟨num2_10 h2, num2_10 h4⟩
                · exact (by decide : 5 ≤ 5)
          · exact (by decide : 3 ≤ 5)
theorem rdG_10 (ws : List (List Nat)) : rd10 (rdG ws) := by
  unfold rdG
  cases ws with
  | nil => exact (by decide : 0 ≤ 5)
  | cons u r =>
    simp only
    cases h2 : num2 u with
    | none => exact (by decide : 0 ≤ 5)
    | some h =>
      simp only
      cases r with
      | nil => exact (by decide : 1 ≤ 5)
      | cons x r2 =>
        simp only
        split
        · cases r2 with
          | nil => exact (by decide : 2 ≤ 5)
          | cons w rest =>
            simp only
            have := rdB_10 w rest
            cases hb : rdB w rest with
            | inl n => rw [hb] at this; exact this
            | inr b => rw [hb] at this; exact ⟨num2_10 h2, this⟩
        · exact (by decide : 1 ≤ 5)
theorem sm_b10 {b : Bd} (h : bd10 b) : Sm 700 2 b.d := by
  have r1 : ∀ {r : Rl}, r10 r → Sm 200 1 (rD r) := fun {r} hr => sm_r (by have := hr.1; omega) (by have := hr.2; omega)
  cases b with
  | own c =>
    have : c < 10 := h
    exact sm_b (o := 10) (l := 10) (b := .own c) this (by decide) (by decide)
  | rol r => exact sm_b (o := 10) (l := 10) (b := .rol r) h (by decide) (by decide)
  | thr r m => exact sm_b (o := 10) (l := 10) (b := .thr r m) h (by decide) (by decide)
  | bot r s =>
    refine (Sm.tup (w := 200) (p := 1) (n := 3) (fun d hd => ?_) (by simp)).mono (by decide) (by decide)
    simp only [List.mem_cons, List.not_mem_nil, or_false] at hd
    rcases hd with rfl | rfl | rfl
    · exact (sm_word ok_b len_b).mono (by decide) (by decide)
    · exact r1 h.1
    · exact r1 h.2
theorem sm_due {x : Nat ⊕ Gr} (h : rd10 x) : Sm 5000 4 (dueT x) := by
  cases x with
  | inl n =>
    have : n ≤ 5 := h
    refine (Sm.lst (w := 64) (p := 0) (n := 3) (fun d hd => ?_) (by simp)).mono (by decide) (by decide)
    simp only [List.mem_cons, List.not_mem_nil, or_false] at hd
    rcases hd with rfl | rfl | rfl
    · exact sm_word (by decide +kernel) (by decide +kernel)
    · exact Sm.int (n := 0) (by decide)
    · exact Sm.int (by omega)
  | inr g =>
    have hg : Sm 1500 3 (gD g) := by
      refine (Sm.tup (w := 700) (p := 2) (n := 2) (fun d hd => ?_) (by simp)).mono (by decide) (by decide)
      simp only [List.mem_cons, List.not_mem_nil, or_false] at hd
      rcases hd with rfl | rfl
      · exact (sm_r (by have := h.1.1; omega) (by have := h.1.2; omega)).mono (by decide) (by decide)
      · exact sm_b10 h.2
    refine (Sm.lst (w := 1500) (p := 3) (n := 2) (fun d hd => ?_) (by simp)).mono (by decide) (by decide)
    simp only [List.mem_cons, List.not_mem_nil, or_false] at hd
    rcases hd with rfl | rfl
    · exact (sm_word (by decide +kernel) (by decide +kernel)).mono (by decide) (by decide)
    · exact hg
theorem shz_dueT (t : List Nat) : Shz (.lst [dueT (rdG (wsL t)), dueT (rdG (wsL t))]) := (sm_two (sm_due (rdG_10 _)) (sm_due (rdG_10 _))).shz (by decide) (by decide)
theorem val_turn {S : Sto} {t : List Nat} {x0 x1 x2 x3 x4 x5 x6 x7 x8 x10 x11 : Option D} (hl : t.length ≤ 80000) :
    Wp ((sSeq (sAsg (mCall fn_law_read_grantx (aCons (mCall fn_law_words (aCons (mVar 9) aNil)) aNil)) (gN 10))
    (sSeq (sAsg (mIf (mTest (mCB dIsi (aCons (mVar 10) (aCons (mC (.ty "int")) aNil)))) (mLst (aCons (mC (.str "text")) (aCons (mC (.int 0)) (aCons (mVar 10) aNil)))) (mLst (aCons (mC (.str "ok")) (aCons (mVar 10) aNil)))) (gN 11))
    (sIf (mTest (mOp dNe (mCB dReprZ (aCons (mLst (aCons (mCall fn_law_told_v8 (aCons (mVar 9) aNil)) (aCons (mCall fn_law_told_v8 (aCons (mVar 9) aNil)) aNil))) aNil)) (mCB dReprZ (aCons (mLst (aCons (mVar 11) (aCons (mVar 11) aNil))) aNil)))) (sRet (mC (.bl false))) sNil)))
      [x0, x1, x2, x3, x4, x5, x6, x7, x8, some (.str (tx t)), x10, x11] S) fun f S' => ∃ x10 x11, f = .nx [x0, x1, x2, x3, x4, x5, x6, x7, x8, some (.str (tx t)), x10, x11] ∧ S' = S := by
  have W := law_words_run (S := S) (t := t) (by omega)
  have G := law_read_grantx_run (S := S) (ws := wsL t) (fun w hw => by have := wsL_lens hw; omega)
  have T := told8_run (S := S) hl
  obtain ⟨z, hz⟩ := shz_dueT t
  generalize rdG (wsL t) = x at *
  cases x with
  | inl n =>
    replace G : fn_law_read_grantx.run [.lst ((wsL t).map wD)] S = .ok (.int n) S := G
    replace T : fn_law_told_v8.run [.str (tx t)] S = .ok (.lst [.str "text", .int 0, .int n]) S := T
    replace hz : ∀ S, dReprZ S [.lst [.lst [.str "text", .int 0, .int n], .lst [.str "text", .int 0, .int n]]] = some (.str z) := hz
    walk_at "evs"
    try exact ⟨_, _, rfl⟩
  | inr g =>
    replace G : fn_law_read_grantx.run [.lst ((wsL t).map wD)] S = .ok (gD g) S := G
    replace T : fn_law_told_v8.run [.str (tx t)] S = .ok (.lst [.str "ok", gD g]) S := T
    replace hz : ∀ S, dReprZ S [.lst [.lst [.str "ok", gD g], .lst [.str "ok", gD g]]] = some (.str z) := hz
    have I : dIsi S [gD g, .ty "int"] = some (.bl false) := rfl
    walk_at "evs"
    try exact ⟨_, _, rfl⟩
end Q
end
section
open PySem L2 G P
open Q
local macro_rules | `(tactic| walk_at "ev") => `(tactic| simp (config := { decide := false }) only [seval, G.evB0, G.evB1, G.evB2, G.evB3, G.evB4, List.getElem?_set_self, List.length_set, List.set_set, List.map_cons, List.map_nil, List.length_cons, List.length_nil, List.replicate, List.cons_append, List.nil_append, List.getElem?_cons_zero, List.getElem?_cons_succ, List.set_cons_zero, List.set_cons_succ, Option.map_some, Option.map_none, Option.bind_some, Bool.not_true, Bool.not_false, if_true, if_false, decide_true, decide_false, Bool.false_eq_true, true_and, and_true, false_and, and_false, List.foldl_cons, List.foldl_nil, List.all_cons, List.all_nil, id_eq, Bool.and_true, Bool.true_and, eq_self, Bool.or_true, Bool.true_or, Bool.or_false, Bool.false_or, G.isNon, G.startE, G.bls, G.wipeE, Q.evSVG2_0, Q.evSVG3_0, Q.evSVG4_0, Q.evSVG5_0, Q.evSVG6_0, Q.evSVG7_0, P.evN0, Q.evQ2_0, Bool.false_and, Q.evQ45_0])
local macro_rules | `(tactic| walk_at "evs") => `(tactic| simp (config := { decide := false }) only [seval, G.evB0, G.evB1, G.evB2, G.evB3, G.evB4, List.getElem?_set_self, List.length_set, List.set_set, List.map_cons, List.map_nil, List.length_cons, List.length_nil, List.replicate, List.cons_append, List.nil_append, List.getElem?_cons_zero, List.getElem?_cons_succ, List.set_cons_zero, List.set_cons_succ, Option.map_some, Option.map_none, Option.bind_some, Bool.not_true, Bool.not_false, if_true, if_false, decide_true, decide_false, Bool.false_eq_true, true_and, and_true, false_and, and_false, List.foldl_cons, List.foldl_nil, List.all_cons, List.all_nil, id_eq, Bool.and_true, Bool.true_and, eq_self, Bool.or_true, Bool.true_or, Bool.or_false, Bool.false_or, G.isNon, G.startE, G.bls, G.wipeE, Q.evSVG2_0, Q.evSVG3_0, Q.evSVG4_0, Q.evSVG5_0, Q.evSVG6_0, Q.evSVG7_0, P.evN0, Q.evQ2_0, Bool.false_and, Q.evQ45_0, *])
namespace Q
theorem dStr_d {S : Sto} {n : Nat} (h : n < 10) : dStr S [.int (n : Nat)] = some (.str (tx [48 + n])) := by
  have := dStr10 (S := S) (i := (n : Int)) (by omega) (by omega)
  simpa using this
def rtx (r : Rl) : List Nat := [48 + r.1, 46, 48 + r.2]
theorem role_text_run {S : Sto} {r : Rl} (h : r10 r) : fn_law_role_text.run [rD r] S = .ok (.str (tx (rtx r))) S := by
  have A := dStr_d (S := S) h.1
  have B := dStr_d (S := S) h.2
  have C : dAdd S (.str (tx [48 + r.1])) (.str (tx [46])) = some (.str (tx [48 + r.1, 46])) := dAdd_tx (by simp)
  have E : dAdd S (.str (tx [48 + r.1, 46])) (.str (tx [48 + r.2])) = some (.str (tx (rtx r))) := dAdd_tx (by simp)
  unfold fn_law_role_text ms_law_role_text
  rw [dot_str]
  unfold rD
  walk_at "evs"
  try exact Res.drop_self (by simp [D.bel])
theorem lt3_str : (Str.ofString " < ") = tx [32, 60, 32] := by decide +kernel
theorem am3_str : (Str.ofString " & ") = tx [32, 38, 32] := by decide +kernel
theorem grant_text_run {g : Gr} (h : r10 g.1 ∧ bd10 g.2) : ∃ t : List Nat, t.length ≤ 40 ∧ ∀ S, fn_law_grant_text.run [gD g] S = .ok (.str (tx t)) S := by
  obtain ⟨r, b⟩ := g
  obtain ⟨hr, hb⟩ := h
  have R1 := fun S => role_text_run (S := S) hr
  have A1 : ∀ S, dAdd S (.str (tx (rtx r))) (.str (tx [32, 60, 32])) = some (.str (tx (rtx r ++ [32, 60, 32]))) := fun S => dAdd_tx (by simp [rtx])
  have fin : ∀ (S : Sto) (t : List Nat), (Res.ok (D.str (tx t)) S).drop S = .ok (.str (tx t)) S := fun S t => Res.drop_self (by simp [D.bel])
  unfold fn_law_grant_text ms_law_grant_text gD
  rw [lt3_str, am3_str, dot_str]
  simp only at hr hb R1 A1 ⊢
  generalize hF : rtx r ++ [32, 60, 32] = F at A1
  have lF : F.length = 6 := by rw [← hF]; rfl
  cases b with
  | own c =>
    have C := fun S => dStr_d (S := S) (n := c) hb
    have A2 : ∀ S, dAdd S (.str (tx F)) (.str (tx [48 + c])) = some (.str (tx (F ++ [48 + c]))) := fun S => dAdd_tx (by simp; omega)
    refine ⟨F ++ [48 + c], by simp; omega, fun S => ?_⟩
    simp only [Bd.d]
    clear hF
    walk_at "evs"
    try exact fin S _
  | rol s =>
    have C := fun S => role_text_run (S := S) (r := s) hb
    have A2 : ∀ S, dAdd S (.str (tx F)) (.str (tx (rtx s))) = some (.str (tx (F ++ rtx s))) := fun S => dAdd_tx (by simp [rtx]; omega)
    refine ⟨F ++ rtx s, by simp [rtx]; omega, fun S => ?_⟩
    simp only [Bd.d]
    clear hF
    walk_at "evs"
    try exact fin S _
  | thr s m =>
    have C := fun S => role_text_run (S := S) (r := s) hb.1
    have E := fun S => dStr_d (S := S) (n := m) hb.2
    have A2 : ∀ S, dAdd S (.str (tx F)) (.str (tx (rtx s))) = some (.str (tx (F ++ rtx s))) := fun S => dAdd_tx (by simp [rtx]; omega)
    have A3 : ∀ S, dAdd S (.str (tx (F ++ rtx s))) (.str (tx [46])) = some (.str (tx (F ++ rtx s ++ [46]))) := fun S => dAdd_tx (by simp [rtx]; omega)
    have A4 : ∀ S, dAdd S (.str (tx (F ++ rtx s ++ [46]))) (.str (tx [48 + m])) = some (.str (tx (F ++ rtx s ++ [46] ++ [48 + m]))) := fun S => dAdd_tx (by simp [rtx]; omega)
    refine ⟨F ++ rtx s ++ [46] ++ [48 + m], by simp [rtx]; omega, fun S => ?_⟩
    simp only [Bd.d]
    clear hF
    walk_at "evs"
    try exact fin S _
  | bot s q =>
    have C := fun S => role_text_run (S := S) (r := s) hb.1
    have E := fun S => role_text_run (S := S) (r := q) hb.2
    have A2 : ∀ S, dAdd S (.str (tx F)) (.str (tx (rtx s))) = some (.str (tx (F ++ rtx s))) := fun S => dAdd_tx (by simp [rtx]; omega)
    have A3 : ∀ S, dAdd S (.str (tx (F ++ rtx s))) (.str (tx [32, 38, 32])) = some (.str (tx (F ++ rtx s ++ [32, 38, 32]))) := fun S => dAdd_tx (by simp [rtx]; omega)
    have A4 : ∀ S, dAdd S (.str (tx (F ++ rtx s ++ [32, 38, 32]))) (.str (tx (rtx q))) = some (.str (tx (F ++ rtx s ++ [32, 38, 32] ++ rtx q))) := fun S => dAdd_tx (by simp [rtx]; omega)
    refine ⟨F ++ rtx s ++ [32, 38, 32] ++ rtx q, by simp [rtx]; omega, fun S => ?_⟩
    simp only [Bd.d]
    clear hF
    walk_at "evs"
    try exact fin S _
end Q
end
section
open PySem L2 G P
open Q
local macro_rules | `(tactic| walk_at "ev") => `(tactic| simp (config := { decide := false }) only [seval, G.evB0, G.evB1, G.evB2, G.evB3, G.evB4, List.getElem?_set_self, List.length_set, List.set_set, List.map_cons, List.map_nil, List.length_cons, List.length_nil, List.replicate, List.cons_append, List.nil_append, List.getElem?_cons_zero, List.getElem?_cons_succ, List.set_cons_zero, List.set_cons_succ, Option.map_some, Option.map_none, Option.bind_some, Bool.not_true, Bool.not_false, if_true, if_false, decide_true, decide_false, Bool.false_eq_true, true_and, and_true, false_and, and_false, List.foldl_cons, List.foldl_nil, List.all_cons, List.all_nil, id_eq, Bool.and_true, Bool.true_and, eq_self, Bool.or_true, Bool.true_or, Bool.or_false, Bool.false_or, G.isNon, G.startE, G.bls, G.wipeE, Q.evSVG2_0, Q.evSVG3_0, Q.evSVG4_0, Q.evSVG5_0, Q.evSVG6_0, Q.evSVG7_0, P.evN0, Q.evQ2_0, Bool.false_and, Q.evQ45_0])
local macro_rules | `(tactic| walk_at "evs") => `(tactic| simp (config := { decide := false }) only [seval, G.evB0, G.evB1, G.evB2, G.evB3, G.evB4, List.getElem?_set_self, List.length_set, List.set_set, List.map_cons, List.map_nil, List.length_cons, List.length_nil, List.replicate, List.cons_append, List.nil_append, List.getElem?_cons_zero, List.getElem?_cons_succ, List.set_cons_zero, List.set_cons_succ, Option.map_some, Option.map_none, Option.bind_some, Bool.not_true, Bool.not_false, if_true, if_false, decide_true, decide_false, Bool.false_eq_true, true_and, and_true, false_and, and_false, List.foldl_cons, List.foldl_nil, List.all_cons, List.all_nil, id_eq, Bool.and_true, Bool.true_and, eq_self, Bool.or_true, Bool.true_or, Bool.or_false, Bool.false_or, G.isNon, G.startE, G.bls, G.wipeE, Q.evSVG2_0, Q.evSVG3_0, Q.evSVG4_0, Q.evSVG5_0, Q.evSVG6_0, Q.evSVG7_0, P.evN0, Q.evQ2_0, Bool.false_and, Q.evQ45_0, *])
namespace Q
theorem strsD_w : ∀ ws : List (List Nat), strsD (ws.map wD) = some (ws.map tx)
  | [] => rfl
  | w :: r => by
    rw [List.map_cons, List.map_cons]
    unfold wD
    simp only [strsD]
    rw [show (r.map fun w => D.str (tx w)) = r.map wD from rfl, strsD_w r]
    rfl
theorem sum_w (m : Nat) : ∀ ws : List (List Nat), (∀ w ∈ ws, w.length ≤ m) → ((ws.map tx).map (·.length)).sum ≤ ws.length * m
  | [], _ => by simp
  | w :: r, h => by
    have ih := sum_w m r fun v hv => h v (List.mem_cons_of_mem _ hv)
    have := h w List.mem_cons_self
    simp only [List.map_cons, List.sum_cons, List.length_cons, tx_len, Nat.add_mul]
    omega
theorem flat_w (m : Nat) : ∀ ws : List (List Nat), (∀ w ∈ ws, w.length ≤ m) → ((ws.intersperse [32]).flatten).length ≤ ws.length * (m + 1)
  | [], _ => by simp
  | [w], h => by
    have := h w (by simp)
    simp
    omega
  | w :: v :: r, h => by
    have ih := flat_w m (v :: r) fun u hu => h u (List.mem_cons_of_mem _ hu)
    have := h w List.mem_cons_self
    rw [glu_flat] at ih ⊢
    rw [glu_cons, List.length_append, List.length_cons]
    simp only [List.length_cons, Nat.add_mul] at ih ⊢
    omega
theorem join_ws (S : Sto) (ws : List (List Nat)) {n m : Nat} (h : ws.length ≤ n) (hl : ∀ w ∈ ws, w.length ≤ m) (hn : n ≤ 200) (hm : m ≤ 200) : ∃ x : Str, dJoin S (.str " ") [.lst (ws.map wD)] = some (.str x) ∧ x.length ≤ n * (m + 1) := by
  have b1 := sum_w m ws hl
  have b2 := flat_w m ws hl
  have b3 : ws.length * m ≤ 200 * 200 := Nat.mul_le_mul (by omega) hm
  have b4 : ws.length * (m + 1) ≤ n * (m + 1) := Nat.mul_le_mul_right _ h
  have e : Txt.join (Str.ofString " ") (ws.map tx) = tx ((ws.intersperse [32]).flatten) := by
    rw [blank_str]
    exact (StrLaws.glued_eq_join _ _).trans (join_tx [32] ws)
  refine ⟨_, ?_, Nat.le_trans (Nat.le_of_eq (tx_len _)) (Nat.le_trans b2 b4)⟩
  rw [← e]
  unfold dJoin
  simp only [seqL, Option.bind_some, strsD_w]
  rw [if_pos (by rw [List.length_map, show (Str.ofString " ").length = 1 by decide]; omega)]
theorem mul_c (z : Str) (n : Nat) (h1 : 2 ≤ n) (h2 : n ≤ 1000) (h3 : 1 ≤ z.length) (h4 : z.length ≤ 1000) : ∃ y : Str, (∀ S, dMulS S (.str z) (.int (n : Nat)) = some (.str y)) ∧ y.length ≤ n * z.length := by
  refine ⟨repS z n, fun S => ?_, Nat.le_of_eq (repS_len z n)⟩
  unfold dMulS
  simp only
  rw [if_pos ⟨by omega, by omega, h3, h4⟩, Int.toNat_natCast]
theorem ok_10 {g : Gr} (h : Gr.ok 4 3 g) : r10 g.1 ∧ bd10 g.2 := by
  obtain ⟨r, b⟩ := g
  have rr : ∀ {r : Rl}, Rl.ok 4 3 r → r10 r := fun {r} h => ⟨by have := h.1; omega, by have := h.2; omega⟩
  refine ⟨rr h.1, ?_⟩
  cases b with
  | own c => have : c < 4 := h.2
             exact (by omega : c < 10)
  | rol s => exact rr h.2
  | thr s m => exact ⟨rr h.2.1, by have : m < 3 := h.2.2
                                   omega⟩
  | bot s q => exact ⟨rr h.2.1, rr h.2.2.1⟩
theorem k51_main (ns : List Int) (hl : ns.length ≤ 63) : ∃ S, fn_law_k51.run [.scr (ns.map .int)] [] = .ok (.bl true) S := by
  have key : Wp (fn_law_k51.run [.scr (ns.map .int)] []) fun d _ => d = .bl true := by
    unfold fn_law_k51 ms_law_k51
    rw [fnB_run, Wp_bind]
    refine Wp_cut fun K hK => ?_
    walk_at "ev"
    refine (deck2_run (S := []) hl).mono ?_
    rintro _ _ ⟨rfl, g, sm, rfl, okL⟩
    have hS : HasLk ([] ++ [LkO g sm 0]) 0 := ⟨g, sm, 0, rfl, okL⟩
    generalize ([] : Sto) ++ [LkO g sm 0] = S0 at hS
    try walk_at "ev"
    refine hK _ _ ?_
    clear hK K
    refine Wp_cut fun K hK => ?_
    walk_at "ev"
    rw [rangeD_map]
    refine Wp_for (fun pre en S' => ∃ x2 x3 x4 x5 x6 x7 x8 x9 x10 x11, en = [some (.scr (ns.map .int)), some (.ref 0), x2, x3, x4, x5, x6, x7, x8, x9, x10, x11] ∧ HasLk S' 0) ⟨_, _, _, _, _, _, _, _, _, _, rfl, hS⟩ ?_ ?_
    · rintro pre a suf en S1 hl' ⟨x2, x3, x4, x5, x6, x7, x8, x9, x10, x11, rfl, h1⟩
      clear hl' hK hS
      refine ⟨_, rfl, ?_⟩
      refine Wp_cut fun K hK => ?_
      walk_at "ev"
      refine (grant_lk (o := 4) (l := 3) h1 (by decide) (by decide) (by decide) (by decide)).mono ?_
      rintro _ S2 ⟨⟨g, rfl, hg⟩, t2⟩
      obtain ⟨t, lt, GT⟩ := grant_text_run (ok_10 hg)
      have h2 := t2.has h1.lt
      clear t2 h1
      walk_at "evs"
      refine hK _ _ ?_
      clear hK K GT
      refine Wp_cut fun K hK => ?_
      have SP := fun S => dSplit_tx (S := S) (x := t) (c := 32) (by omega)
      have cnt := spl_count 32 t
      have lens := spl_lensC 32 t
      have ne := spl_ne 32 t
      rw [blank_str]
      walk_at "ev"
      rw [SP]
      walk_at "ev"
      refine hK _ _ ?_
      clear hK K SP
      rw [show ((spl 32 t).map fun w => D.str (tx w)) = (spl 32 t).map wD from rfl]
      generalize spl 32 t = ws at *
      have wl := List.length_pos_iff.mpr ne
      refine Wp_cut fun K hK => ?_
      have LW : ∀ S, dLen S [.lst (ws.map wD)] = some (.int ws.length) := fun S => by rw [dLen_lst, List.length_map]
      walk_at "ev"
      try rw [List.length_map]
      refine (take_lk (many := ws.length) h2 wl (by omega)).mono ?_
      rintro _ S3 ⟨⟨n, rfl, hn⟩, t3⟩
      have h3 := t3.has h2.lt
      try walk_at "ev"
      refine hK _ _ ?_
      clear hK K
      refine Wp_cut fun K hK => ?_
      walk_at "ev"
      refine (pick_lst (ds := [.str "0", .str "0.0", .str "0.0.0", .str "<", .str "&", .str "a", .str "10", .str "0.10", .str ".0", .str "0.", .str "0..0", .str "-1", .str "00", .str "0.0.0.0", .str "\n"]) h3 (by decide) (by decide) (fun d hd k => ?_)).mono ?_
      · simp only [List.mem_cons, List.not_mem_nil, or_false] at hd
        rcases hd with rfl | rfl | rfl | rfl | rfl | rfl | rfl | rfl | rfl | rfl | rfl | rfl | rfl | rfl | rfl <;> simp [D.bel]
      rintro m S4 ⟨hm, t4⟩
      have hm2 : TxN 7 m := by
        simp only [List.mem_cons, List.not_mem_nil, or_false] at hm
        rcases hm with rfl | rfl | rfl | rfl | rfl | rfl | rfl | rfl | rfl | rfl | rfl | rfl | rfl | rfl | rfl <;> exact ⟨_, rfl, by decide⟩
      clear hm
      obtain ⟨m, rfl, lm⟩ := hm2
      have h4 := t4.has h3.lt
      try walk_at "ev"
      refine hK _ _ ?_
      clear hK K
      refine Wp_cut fun K hK => ?_
      walk_at "ev"
      refine (torn_lk (x := tx t) h4 (by rw [tx_len]; omega)).mono ?_
      rintro _ S5 ⟨⟨y1, rfl, k1⟩, t5⟩
      have h5 := t5.has h4.lt
      rw [tx_len] at k1
      try walk_at "ev"
      refine (torn_lk (x := tx t) h5 (by rw [tx_len]; omega)).mono ?_
      rintro _ S6 ⟨⟨y2, rfl, k2⟩, t6⟩
      have h6 := t6.has h5.lt
      rw [tx_len] at k2
      try walk_at "ev"
      refine (torn_lk (x := y2) h6 (by omega)).mono ?_
      rintro _ S7 ⟨⟨y3, rfl, k3⟩, t7⟩
      have h7 := t7.has h6.lt
      have wls : ∀ w ∈ ws, w.length ≤ 40 := fun w hw => by have := lens w hw; omega
      have nws : ws.length ≤ 41 := by omega
      have c1 : cutD (ws.map wD) none (some (n : Int)) = (ws.take n).map wD := by rw [cut_hi, List.map_take]
      have c2 : cutD (ws.map wD) (some (n : Int)) none = (ws.drop n).map wD := by rw [cut_lo, List.map_drop]
      have c3 : cutD (ws.map wD) (some ((n : Int) + 1)) none = (ws.drop (n + 1)).map wD := by rw [show (n : Int) + 1 = ((n + 1 : Nat) : Int) by omega, cut_lo, List.map_drop]
      obtain ⟨j1, J1, l1⟩ := join_ws S7 (ws.take n) (n := 41) (m := 40) (by rw [List.length_take]; omega) (fun w hw => wls w (List.mem_of_mem_take hw)) (by decide) (by decide)
      try walk_at "ev"
      rw [c1, J1]
      walk_at "ev"
      refine hK _ _ ?_
      clear hK K J1
      refine Wp_cut fun K hK => ?_
      have em : D.str m = wD m.cps.toList := by unfold wD; rw [← tx_of]
      have lm2 : m.cps.toList.length ≤ 40 := by have : m.cps.toList.length = m.length := by rw [Array.length_toList]; rfl
                                                omega
      have tk : (ws.take n).length ≤ 41 := by rw [List.length_take]; omega
      have dk : (ws.drop n).length ≤ 41 := by rw [List.length_drop]; omega
      have dk2 : (ws.drop (n + 1)).length ≤ 41 := by rw [List.length_drop]; omega
      have A1 : ∀ S, dAdd S (.lst ((ws.take n).map wD)) (.lst [.str m]) = some (.lst ((ws.take n ++ [m.cps.toList]).map wD)) := fun S => by
        rw [dAdd_lst, if_pos (by rw [List.length_map, List.length_singleton]; exact sz_small (by omega)), em, List.map_append]
        rfl
      have A2 : ∀ S, dAdd S (.lst ((ws.take n ++ [m.cps.toList]).map wD)) (.lst ((ws.drop n).map wD)) = some (.lst ((ws.take n ++ [m.cps.toList] ++ ws.drop n).map wD)) := fun S => by
        rw [dAdd_lst, if_pos (by rw [List.length_map, List.length_map, List.length_append, List.length_singleton]; exact sz_small (by omega)), ← List.map_append]
      have A3 : ∀ S, dAdd S (.lst ((ws.take n ++ [m.cps.toList]).map wD)) (.lst ((ws.drop (n + 1)).map wD)) = some (.lst ((ws.take n ++ [m.cps.toList] ++ ws.drop (n + 1)).map wD)) := fun S => by
        rw [dAdd_lst, if_pos (by rw [List.length_map, List.length_map, List.length_append, List.length_singleton]; exact sz_small (by omega)), ← List.map_append]
      obtain ⟨j2, J2, l2⟩ := join_ws S7 (ws.take n ++ [m.cps.toList] ++ ws.drop n) (n := 90) (m := 40) (by simp only [List.length_append, List.length_singleton]; omega) (fun w hw => by
        simp only [List.mem_append, List.mem_singleton] at hw
        rcases hw with (z | z) | z
        · exact wls w (List.mem_of_mem_take z)
        · rw [z]; exact lm2
        · exact wls w (List.mem_of_mem_drop z)) (by decide) (by decide)
      obtain ⟨j3, J3, l3⟩ := join_ws S7 (ws.take n ++ [m.cps.toList] ++ ws.drop (n + 1)) (n := 90) (m := 40) (by simp only [List.length_append, List.length_singleton]; omega) (fun w hw => by
        simp only [List.mem_append, List.mem_singleton] at hw
        rcases hw with (z | z) | z
        · exact wls w (List.mem_of_mem_take z)
        · rw [z]; exact lm2
        · exact wls w (List.mem_of_mem_drop z)) (by decide) (by decide)
      walk_at "ev"
      rw [c1, A1]
      walk_at "ev"
      rw [c2, A2]
      walk_at "ev"
      rw [J2]
      walk_at "ev"
      rw [A1]
      walk_at "ev"
      rw [c3, A3]
      walk_at "ev"
      rw [J3]
      walk_at "ev"
      have s1 : (Str.ofString " ").length = 1 := by decide
      have T1 : ∀ S, dAdd S (.str (tx t)) (.str " ") = some (.str (tx t ++ Str.ofString " ")) := fun S => add_st (by rw [tx_len, s1]; omega)
      have T2 : ∀ S, dAdd S (.str (tx t ++ Str.ofString " ")) (.str m) = some (.str (tx t ++ Str.ofString " " ++ m)) := fun S => add_st (by rw [len_st9, tx_len, s1]; omega)
      have l4 : (tx t ++ Str.ofString " " ++ m).length ≤ 5000 := by rw [len_st9, len_st9, tx_len, s1]; omega
      rw [T1]
      walk_at "ev"
      rw [T2]
      walk_at "ev"
      generalize tx t ++ Str.ofString " " ++ m = j4 at *
      clear T1 T2 J2 J3 A1 A2 A3 c1 c2 c3 em lm2 tk dk dk2
      rw [show ∀ S, dAdd S (.lst [.str (tx t), .str y1, .str y3, .str j1]) (.lst [.str j2, .str j3, .str j4]) = some (.lst [.str (tx t), .str y1, .str y3, .str j1, .str j2, .str j3, .str j4]) from fun S => rfl]
      walk_at "ev"
      refine hK _ _ ?_
      clear hK K
      refine Wp_cut fun K hK => ?_
      obtain ⟨q1, Q1, b1⟩ := mul_c (Str.ofString " 0.0") 120 (by decide) (by decide) (by decide) (by decide)
      obtain ⟨q2, Q2, b2⟩ := mul_c (Str.ofString " 0") 98 (by decide) (by decide) (by decide) (by decide)
      obtain ⟨q3, Q3, b3⟩ := mul_c (Str.ofString " 1.1") 120 (by decide) (by decide) (by decide) (by decide)
      obtain ⟨q4, Q4, b4⟩ := mul_c (Str.ofString " x") 120 (by decide) (by decide) (by decide) (by decide)
      obtain ⟨q5, Q5, b5⟩ := mul_c (Str.ofString "x ") 130 (by decide) (by decide) (by decide) (by decide)
      rw [show (Str.ofString " 0.0").length = 4 by decide] at b1
      rw [show (Str.ofString " 0").length = 2 by decide] at b2
      rw [show (Str.ofString " 1.1").length = 4 by decide] at b3
      rw [show (Str.ofString " x").length = 2 by decide] at b4
      rw [show (Str.ofString "x ").length = 2 by decide] at b5
      replace Q1 : ∀ S, dMulS S (.str " 0.0") (.int 120) = some (.str q1) := Q1
      replace Q2 : ∀ S, dMulS S (.str " 0") (.int 98) = some (.str q2) := Q2
      replace Q3 : ∀ S, dMulS S (.str " 1.1") (.int 120) = some (.str q3) := Q3
      replace Q4 : ∀ S, dMulS S (.str " x") (.int 120) = some (.str q4) := Q4
      replace Q5 : ∀ S, dMulS S (.str "x ") (.int 130) = some (.str q5) := Q5
      have z1 : (Str.ofString " x").length = 2 := by decide
      have z2 : (Str.ofString "0.0 < 0.0 & 0.0").length = 15 := by decide
      have z3 : (Str.ofString "0.0 <").length = 5 := by decide
      have F1 : ∀ S, dAdd S (.str (tx t)) (.str q1) = some (.str (tx t ++ q1)) := fun S => add_st (by rw [tx_len]; omega)
      have F2 : ∀ S, dAdd S (.str (tx t)) (.str q2) = some (.str (tx t ++ q2)) := fun S => add_st (by rw [tx_len]; omega)
      have F3 : ∀ S, dAdd S (.str (tx t ++ q2)) (.str " x") = some (.str (tx t ++ q2 ++ Str.ofString " x")) := fun S => add_st (by rw [len_st9, tx_len, z1]; omega)
      have F4 : ∀ S, dAdd S (.str "0.0 < 0.0 & 0.0") (.str q3) = some (.str (Str.ofString "0.0 < 0.0 & 0.0" ++ q3)) := fun S => add_st (by rw [z2]; omega)
      have F5 : ∀ S, dAdd S (.str "0.0 <") (.str q4) = some (.str (Str.ofString "0.0 <" ++ q4)) := fun S => add_st (by rw [z3]; omega)
      have g1 : (tx t ++ q1).length ≤ 5000 := by rw [len_st9, tx_len]; omega
      have g2 : (tx t ++ q2 ++ Str.ofString " x").length ≤ 5000 := by rw [len_st9, len_st9, tx_len, z1]; omega
      have g3 : (Str.ofString "0.0 < 0.0 & 0.0" ++ q3).length ≤ 5000 := by rw [len_st9, z2]; omega
      have g4 : (Str.ofString "0.0 <" ++ q4).length ≤ 5000 := by rw [len_st9, z3]; omega
      have g5 : q5.length ≤ 5000 := by omega
      walk_at "ev"
      rw [Q1]
      walk_at "ev"
      rw [F1]
      walk_at "ev"
      rw [Q2]
      walk_at "ev"
      rw [F2]
      walk_at "ev"
      rw [F3]
      walk_at "ev"
      rw [Q3]
      walk_at "ev"
      rw [F4]
      walk_at "ev"
      rw [Q4]
      walk_at "ev"
      rw [F5]
      walk_at "ev"
      rw [Q5]
      walk_at "ev"
      clear F1 F2 F3 F4 F5 Q1 Q2 Q3 Q4 Q5 b1 b2 b3 b4 b5
      generalize tx t ++ q1 = f1 at *
      generalize tx t ++ q2 ++ Str.ofString " x" = f2 at *
      generalize Str.ofString "0.0 < 0.0 & 0.0" ++ q3 = f3 at *
      generalize Str.ofString "0.0 <" ++ q4 = f4 at *
      refine hK _ _ ?_
      clear hK K
      refine Wp_cut fun K hK => ?_
      walk_at "ev"
      rw [show ∀ S, dAdd S (.lst [.str (tx t), .str y1, .str y3, .str j1, .str j2, .str j3, .str j4]) (.lst [.str f1, .str f2, .str f3, .str f4, .str q5]) = some (.lst [.str (tx t), .str y1, .str y3, .str j1, .str j2, .str j3, .str j4, .str f1, .str f2, .str f3, .str f4, .str q5]) from fun S => rfl]
      have lt2 : (tx t).length ≤ 5000 := by rw [tx_len]; omega
      obtain ⟨L, hL, AD⟩ : ∃ L : List Str, (∀ x ∈ L, x.length ≤ 5000) ∧ ∀ S, dAdd S (.lst [.str (tx t), .str y1, .str y3, .str j1, .str j2, .str j3, .str j4, .str f1, .str f2, .str f3, .str f4, .str q5]) (.lst [.str "", .str "  ", .str "0.0 < 0.0 & 0.0", .str "0.0 < 0.0 &", .str "0.0 < 0 & 0.0", .str "0.0 < 0.0 0.0"]) = some (.lst (L.map D.str)) :=
        ⟨[tx t, y1, y3, j1, j2, j3, j4, f1, f2, f3, f4, q5, "", "  ", "0.0 < 0.0 & 0.0", "0.0 < 0.0 &", "0.0 < 0 & 0.0", "0.0 < 0.0 0.0"], fun x hx => by
          simp only [List.mem_cons, List.not_mem_nil, or_false] at hx
          rcases hx with rfl | rfl | rfl | rfl | rfl | rfl | rfl | rfl | rfl | rfl | rfl | rfl | rfl | rfl | rfl | rfl | rfl | rfl <;> first | omega | decide, fun S => rfl⟩
      walk_at "ev"
      rw [AD]
      walk_at "ev"
      clear AD
      refine Wp_for (f0 := D.str) (l := L) (fun pr en S' => ∃ x9 x10 x11, en = [some (.scr (ns.map .int)), some (.ref 0), some (.int a), some (.str (tx t)), some (.lst (ws.map wD)), some (.int n), some (.str m), some (.lst [.str (tx t), .str y1, .str y3, .str j1, .str j2, .str j3, .str j4]), some (.lst [.str f1, .str f2, .str f3, .str f4, .str q5]), x9, x10, x11] ∧ S' = S7) ⟨_, _, _, rfl, rfl⟩ ?_ ?_
      · rintro pr x suf2 en S' hl2 ⟨x9, x10, x11, rfl, rfl⟩
        have hx := hL x (by rw [hl2]; simp)
        clear hl2 hL hK
        obtain ⟨c, rfl⟩ : ∃ c, x = tx c := ⟨_, tx_of x⟩
        rw [tx_len] at hx
        refine ⟨_, rfl, ?_⟩
        refine (val_turn (t := c) (by omega)).mono ?_
        rintro _ _ ⟨x10, x11, rfl, rfl⟩
        exact ⟨_, _, _, rfl, rfl⟩
      rintro en S' ⟨x9, x10, x11, rfl, rfl⟩
      refine hK _ _ ?_
      clear hK K hL
      walk_at "ev"
      refine (odd_lk h7).mono ?_
      rintro d S8 ⟨hv, t8⟩
      have h8 := t8.has h7.lt
      obtain ⟨z, hz⟩ : Shz (.lst [.str "text", .non, .non]) := Sm.shz (w := 200) (p := 1) ((Sm.lst (w := 64) (p := 0) (n := 3) (fun d hd => by
        simp only [List.mem_cons, List.not_mem_nil, or_false] at hd
        rcases hd with rfl | rfl | rfl
        · exact sm_word (by decide +kernel) (by decide +kernel)
        · exact ⟨by simp [smD], by simp [dpD], by simp [G.wD]⟩
        · exact ⟨by simp [smD], by simp [dpD], by simp [G.wD]⟩) (by simp)).mono (by decide) (by decide)) (by decide) (by decide)
      have I1 : ∀ S, dIsi S [.non, .ty "str"] = some (.bl false) := fun S => rfl
      have I2 : ∀ S, dIsi S [.int 0, .ty "str"] = some (.bl false) := fun S => rfl
      have I3 : ∀ S, dIsi S [.bl true, .ty "str"] = some (.bl false) := fun S => rfl
      have I4 : ∀ S, dIsi S [.lst (ws.map wD), .ty "str"] = some (.bl false) := fun S => rfl
      have I5 : ∀ S, dIsi S [.tup [.str (tx t)], .ty "str"] = some (.bl false) := fun S => rfl
      have T1 := fun S => told8_other (I1 S)
      have T2 := fun S => told8_other (I2 S)
      have T3 := fun S => told8_other (I3 S)
      have T4 := fun S => told8_other (I4 S)
      have T5 := fun S => told8_other (I5 S)
      obtain ⟨b, I6⟩ : ∃ b, ∀ S, dIsi S [d, .ty "str"] = some (.bl b) := by
        have := hv.any
        cases d <;> first | exact ⟨_, fun S => rfl⟩ | simp [anyD] at this
      cases b with
      | true =>
        walk_at "evs"
        exact ⟨_, _, _, _, _, _, _, _, _, _, rfl⟩
      | false =>
        have T6 := fun S => told8_other (I6 S)
        walk_at "evs"
        exact ⟨_, _, _, _, _, _, _, _, _, _, rfl⟩
    · rintro en S1 ⟨x2, x3, x4, x5, x6, x7, x8, x9, x10, x11, rfl, h1⟩
      refine hK _ _ ?_
      walk_at "ev"
  obtain ⟨d, S, e, rfl⟩ := key.ok_of
  exact ⟨S, e⟩
end Q
end
section
set_option maxHeartbeats 0
namespace T51
open PySem L2 G P
section
variable {P : Program} {w : World} {K : PySem.W.Frag} {mg : Str → Option Value} {base : Heap} {cl fc : Nat → Addr}
abbrev N_BadText_init : List Str := ["self", "line", "number"]
theorem sc_BadText_init : FnScope N_BadText_init ["self", "line", "number"] (defScope s_BadText_init) := ⟨rfl, rfl, rfl, by decide +kernel, rfl, by decide +kernel, by decide +kernel⟩
theorem ok_BadText_init {C f : Addr} {fd : FuncData} (F : Fun K "__init__" "BadText.__init__" s_BadText_init f fd) (T : OexC K C) (hn0 : PySem.W.findIn K (.ref C) "line" = some none) (hn1 : PySem.W.findIn K (.ref C) "number" = some none) : FnOk P w K mg base (L2.CX P w) 1 f fd ["self", "line", "number"] (spI2 C "line" "number") := by
  exact init2_ok F sc_BadText_init rfl T hn0 hn1 (by decide) fun cdv A outer s H E => (pss_cons (ps_ost (pv 0) (pv 1)) (pss_one (ps_ost (pv 0) (pv 2))))
abbrev N_words_of : List Str := ["text", "word"]
theorem sc_words_of : FnScope N_words_of ["text"] (defScope s_words_of) := ⟨rfl, rfl, rfl, by decide +kernel, rfl, by decide +kernel, by decide +kernel⟩
theorem ok_words_of {f : Addr} {fd : FuncData} (F : Fun K "words_of" "words_of" s_words_of f fd)  :
    FnOk P w K mg base (L2.CX P w) 1 f fd ["text"] (spF ⟨K, cl, fc, P, w⟩ fn_words_of) := by
  refine fn_drop (fn_ok (N := N_words_of) (ms := ms_words_of) F sc_words_of rfl fun cdv A outer s H E hr => ?_)
  exact (ds_one (ds_ret (de_lc (ow := [("word", 1)]) rfl sc_words_of.nd tg_name (by decide) (di_seq (hl := (de_bms PySem.F.slot_str_split PySem.F.type_str_split mt_split opm_split (de_var (pv 0)) (da_cons de_str da_nil)))) (blkOk_by (N := N_words_of) (sc := defScope s_words_of) (by decide +kernel)) (fun _ _ _ _ _ => (pg_name (i := 1) sc_words_of.nd rfl (Or.inl rfl))) (fun _ _ _ _ _ => (dts_one (dt_cmp (op_neU (hu64 hr)) op2_ne (de_var (pv 1)) de_str (nomark _)))) (fun _ _ _ _ _ => (de_var (pv 1))))))
abbrev N_numbers_in : List Str := ["word", "many", "parts", "part"]
theorem sc_numbers_in : FnScope N_numbers_in ["word", "many"] (defScope s_numbers_in) := ⟨rfl, rfl, rfl, by decide +kernel, rfl, by decide +kernel, by decide +kernel⟩
theorem ok_numbers_in {f : Addr} {fd : FuncData} (F : Fun K "numbers_in" "numbers_in" s_numbers_in f fd) (b_all : mg "all" = none) (b_int : mg "int" = none) (b_len : mg "len" = none) (b_tuple : mg "tuple" = none) (g_FIGURES : ∃ t, mg "FIGURES" = some (.str "0123456789" t)) :
    FnOk P w K mg base (L2.CX P w) 1 f fd ["word", "many"] (spF ⟨K, cl, fc, P, w⟩ fn_numbers_in) := by
  refine fn_drop (fn_ok (N := N_numbers_in) (ms := ms_numbers_in) F sc_numbers_in rfl fun cdv A outer s H E hr => ?_)
  exact (ds_cons wi_E (ds_set (i := 2) sc_numbers_in.nd rfl (Or.inl rfl) (de_bms PySem.F.slot_str_split PySem.F.type_str_split mt_split opm_split (de_var (pv 0)) (da_cons de_str da_nil)))
    (ds_cons wi_E (ds_if (PW.pt (dw_or (dt_cmp (op_neU (hu64 hr)) op2_ne (de_callB call_lenU opn_len b_len PySem.boot_len (da_cons (de_var (pv 2)) da_nil)) (de_var (pv 1)) (nomark _)) (dw_or1 (dt_not (dt_val (de_callB (cr_all rfl) opn_all b_all (by decide +kernel) (da_cons (de_lc (ow := [("part", 3)]) rfl sc_numbers_in.nd tg_name (by decide) (di_seq (hl := (de_var (pv 2)))) (blkOk_by (N := N_numbers_in) (sc := defScope s_numbers_in) (by decide +kernel)) (fun _ _ _ _ _ => (pg_name (i := 3) sc_numbers_in.nd rfl (Or.inl rfl))) (fun _ _ _ _ _ => dts_nil) (fun _ _ _ _ _ => (de_and (de_cmp (op_eqU (hu64 hr)) op2_eq (de_callB call_lenU opn_len b_len PySem.boot_len (da_cons (de_var (pv 3)) da_nil)) de_int (nomark _)) (de_one (de_cmp (op_inU (hu65 hr)) op2_in (de_var (pv 3)) (de_gstr g_FIGURES) (by rfl)))))) da_nil))))))) (ds_one (ds_ret de_non)) ds_nil)
    (ds_one (ds_ret (de_callTy call_tuple_of opn_tuple b_tuple (by decide +kernel) (da_cons (de_lc (ow := [("part", 3)]) rfl sc_numbers_in.nd tg_name (by decide) (di_seq (hl := (de_var (pv 2)))) (blkOk_by (N := N_numbers_in) (sc := defScope s_numbers_in) (by decide +kernel)) (fun _ _ _ _ _ => (pg_name (i := 3) sc_numbers_in.nd rfl (Or.inl rfl))) (fun _ _ _ _ _ => dts_nil) (fun _ _ _ _ _ => (de_callTy call_intU opn_int b_int (by decide +kernel) (da_cons (de_var (pv 3)) da_nil)))) da_nil))))))
abbrev N_check_words : List Str := ["words", "line", "number", "many"]
theorem sc_check_words : FnScope N_check_words ["words", "line", "number", "many"] (defScope s_check_words) := ⟨rfl, rfl, rfl, by decide +kernel, rfl, by decide +kernel, by decide +kernel⟩
theorem ok_check_words {f : Addr} {fd : FuncData} (F : Fun K "check_words" "check_words" s_check_words f fd) (b_len : mg "len" = none) (b_min : mg "min" = none) (e_BadText : CalE2 P w K mg base ⟨K, cl, fc, P, w⟩ "BadText" 15 1 "line" "number") :
    FnOk P w K mg base (L2.CX P w) 3 f fd ["words", "line", "number", "many"] (spF ⟨K, cl, fc, P, w⟩ fn_check_words) := by
  refine fn_drop (fn_ok (N := N_check_words) (ms := ms_check_words) F sc_check_words rfl fun cdv A outer s H E hr => ?_)
  exact (ds_one (ds_if (PW.pt (dw_or (dt_cmp op_ge op2_ge0 (de_var (pv 2)) (de_callB call_lenU opn_len b_len PySem.boot_len (da_cons (de_var (pv 0)) da_nil)) (nomark _)) (dw_or1 (dt_cmp op_gt op2_gt0 (de_callB call_lenU opn_len b_len PySem.boot_len (da_cons (de_var (pv 0)) da_nil)) (de_var (pv 3)) (nomark _))))) (ds_one (ds_raise2 e_BadText rfl (takes_of rfl rfl rfl rfl) hr (by decide) (da_cons (de_var (pv 1)) (da_cons (de_callB (call_min2D rfl (hu66 hr)) opn_min2 b_min (by decide +kernel) (da_cons (de_callB call_lenU opn_len b_len PySem.boot_len (da_cons (de_var (pv 0)) da_nil)) (da_cons (de_var (pv 3)) da_nil))) da_nil)))) ds_nil))
abbrev N_body_in : List Str := ["words", "line", "first", "many", "word", "numbers", "role", "other"]
theorem sc_body_in : FnScope N_body_in ["words", "line"] (defScope s_body_in) := ⟨rfl, rfl, rfl, by decide +kernel, rfl, by decide +kernel, by decide +kernel⟩
theorem ok_body_in {f : Addr} {fd : FuncData} (F : Fun K "body_in" "body_in" s_body_in f fd) (b_len : mg "len" = none) (c_check_words : Cal P w K mg base ⟨K, cl, fc, P, w⟩ "check_words" 3 fn_check_words) (c_numbers_in : Cal P w K mg base ⟨K, cl, fc, P, w⟩ "numbers_in" 1 fn_numbers_in) (e_BadText : CalE2 P w K mg base ⟨K, cl, fc, P, w⟩ "BadText" 15 1 "line" "number") (g_MOST_WORDS : ∃ t, mg "MOST_WORDS" = some (.int 99999 t)) :
    FnOk P w K mg base (L2.CX P w) 4 f fd ["words", "line"] (spF ⟨K, cl, fc, P, w⟩ fn_body_in) := by
  refine fn_drop (fn_ok (N := N_body_in) (ms := ms_body_in) F sc_body_in rfl fun cdv A outer s H E hr => ?_)
  exact (ds_cons wi_E (ds_set (i := 2) sc_body_in.nd rfl (Or.inl rfl) (de_idx (ix_all (hu1 hr)) op2_idxA (de_var (pv 0)) de_int))
    (ds_cons wi_E (ds_for wi_E (passes_of rfl) rfl (tg_tup (tgs_cons tg_name (tgs_cons tg_name tgs_nil))) (di_seq (hl := (de_lst (da_cons (de_tup (da_cons de_int (da_cons de_str da_nil))) (da_cons (de_tup (da_cons de_int (da_cons de_str da_nil))) da_nil))))) (pg_tup rfl (pgs_cons (pg_name (i := 3) sc_body_in.nd rfl (Or.inl rfl)) (pgs_cons (pg_name (i := 4) sc_body_in.nd rfl (Or.inl rfl)) pgs_nil)))
    (ds_cons wi_E (ds_set (i := 5) sc_body_in.nd rfl (Or.inl rfl) (de_fn c_numbers_in hr (by decide) (takes_of rfl rfl rfl rfl) (da_cons (de_var (pv 2)) (da_cons (de_var (pv 3)) da_nil))))
    (ds_one (ds_if (dt_cmp op_notN op2_isNot (de_var (pv 5)) de_non (nomark _)) (ds_cons wi_E (ds_expr (de_fn c_check_words hr (by decide) (takes_of rfl rfl rfl rfl) (da_cons (de_var (pv 0)) (da_cons (de_var (pv 1)) (da_cons de_int (da_cons de_int da_nil))))))
    (ds_one (ds_ret (de_if (dt_cmp (op_eqU (hu64 hr)) op2_eq (de_var (pv 4)) de_str (nomark _)) (de_tup (da_cons de_str (da_cons (de_idx (ix_all (hu1 hr)) op2_idxA (de_var (pv 5)) de_int) da_nil))) (de_tup (da_cons de_str (da_cons (de_slice (he := (de_var (pv 5))) (hl := do_none) (hu := (do_some de_int))) (da_cons (de_idx (ix_all (hu1 hr)) op2_idxA (de_var (pv 5)) de_int) da_nil)))))))) ds_nil))))
    (ds_cons wi_E (ds_set (i := 6) sc_body_in.nd rfl (Or.inl rfl) (de_fn c_numbers_in hr (by decide) (takes_of rfl rfl rfl rfl) (da_cons (de_var (pv 2)) (da_cons de_int da_nil))))
    (ds_cons wi_E (ds_if (dt_cmp op_isN op2_is (de_var (pv 6)) de_non (nomark _)) (ds_one (ds_raise2 e_BadText rfl (takes_of rfl rfl rfl rfl) hr (by decide) (da_cons (de_var (pv 1)) (da_cons de_int da_nil)))) ds_nil)
    (ds_cons wi_E (ds_if (dt_cmp (op_eqU (hu64 hr)) op2_eq (de_callB call_lenU opn_len b_len PySem.boot_len (da_cons (de_var (pv 0)) da_nil)) de_int (nomark _)) (ds_one (ds_ret (de_tup (da_cons de_str (da_cons (de_var (pv 6)) da_nil))))) ds_nil)
    (ds_cons wi_E (ds_if (dt_cmp (op_neU (hu64 hr)) op2_ne (de_idx (ix_all (hu1 hr)) op2_idxA (de_var (pv 0)) de_int) de_str (nomark _)) (ds_one (ds_raise2 e_BadText rfl (takes_of rfl rfl rfl rfl) hr (by decide) (da_cons (de_var (pv 1)) (da_cons de_int da_nil)))) ds_nil)
    (ds_cons wi_E (ds_expr (de_fn c_check_words hr (by decide) (takes_of rfl rfl rfl rfl) (da_cons (de_var (pv 0)) (da_cons (de_var (pv 1)) (da_cons de_int (da_cons (de_gint g_MOST_WORDS) da_nil))))))
    (ds_cons wi_E (ds_set (i := 7) sc_body_in.nd rfl (Or.inl rfl) (de_fn c_numbers_in hr (by decide) (takes_of rfl rfl rfl rfl) (da_cons (de_idx (ix_all (hu1 hr)) op2_idxA (de_var (pv 0)) de_int) (da_cons de_int da_nil))))
    (ds_cons wi_E (ds_if (dt_cmp op_isN op2_is (de_var (pv 7)) de_non (nomark _)) (ds_one (ds_raise2 e_BadText rfl (takes_of rfl rfl rfl rfl) hr (by decide) (da_cons (de_var (pv 1)) (da_cons de_int da_nil)))) ds_nil)
    (ds_cons wi_E (ds_expr (de_fn c_check_words hr (by decide) (takes_of rfl rfl rfl rfl) (da_cons (de_var (pv 0)) (da_cons (de_var (pv 1)) (da_cons de_int (da_cons de_int da_nil))))))
    (ds_one (ds_ret (de_tup (da_cons de_str (da_cons (de_var (pv 6)) (da_cons (de_var (pv 7)) da_nil))))))))))))))))
abbrev N_grant_in : List Str := ["words", "line", "role"]
theorem sc_grant_in : FnScope N_grant_in ["words", "line"] (defScope s_grant_in) := ⟨rfl, rfl, rfl, by decide +kernel, rfl, by decide +kernel, by decide +kernel⟩
theorem ok_grant_in {f : Addr} {fd : FuncData} (F : Fun K "grant_in" "grant_in" s_grant_in f fd) (c_body_in : Cal P w K mg base ⟨K, cl, fc, P, w⟩ "body_in" 4 fn_body_in) (c_check_words : Cal P w K mg base ⟨K, cl, fc, P, w⟩ "check_words" 3 fn_check_words) (c_numbers_in : Cal P w K mg base ⟨K, cl, fc, P, w⟩ "numbers_in" 1 fn_numbers_in) (e_BadText : CalE2 P w K mg base ⟨K, cl, fc, P, w⟩ "BadText" 15 1 "line" "number") (g_MOST_WORDS : ∃ t, mg "MOST_WORDS" = some (.int 99999 t)) :
    FnOk P w K mg base (L2.CX P w) 5 f fd ["words", "line"] (spF ⟨K, cl, fc, P, w⟩ fn_grant_in) := by
  refine fn_drop (fn_ok (N := N_grant_in) (ms := ms_grant_in) F sc_grant_in rfl fun cdv A outer s H E hr => ?_)
  exact (ds_cons wi_E (ds_expr (de_fn c_check_words hr (by decide) (takes_of rfl rfl rfl rfl) (da_cons (de_var (pv 0)) (da_cons (de_var (pv 1)) (da_cons de_int (da_cons (de_gint g_MOST_WORDS) da_nil))))))
    (ds_cons wi_E (ds_set (i := 2) sc_grant_in.nd rfl (Or.inl rfl) (de_fn c_numbers_in hr (by decide) (takes_of rfl rfl rfl rfl) (da_cons (de_idx (ix_all (hu1 hr)) op2_idxA (de_var (pv 0)) de_int) (da_cons de_int da_nil))))
    (ds_cons wi_E (ds_if (dt_cmp op_isN op2_is (de_var (pv 2)) de_non (nomark _)) (ds_one (ds_raise2 e_BadText rfl (takes_of rfl rfl rfl rfl) hr (by decide) (da_cons (de_var (pv 1)) (da_cons de_int da_nil)))) ds_nil)
    (ds_cons wi_E (ds_expr (de_fn c_check_words hr (by decide) (takes_of rfl rfl rfl rfl) (da_cons (de_var (pv 0)) (da_cons (de_var (pv 1)) (da_cons de_int (da_cons (de_gint g_MOST_WORDS) da_nil))))))
    (ds_cons wi_E (ds_if (dt_cmp (op_neU (hu64 hr)) op2_ne (de_idx (ix_all (hu1 hr)) op2_idxA (de_var (pv 0)) de_int) de_str (nomark _)) (ds_one (ds_raise2 e_BadText rfl (takes_of rfl rfl rfl rfl) hr (by decide) (da_cons (de_var (pv 1)) (da_cons de_int da_nil)))) ds_nil)
    (ds_cons wi_E (ds_expr (de_fn c_check_words hr (by decide) (takes_of rfl rfl rfl rfl) (da_cons (de_var (pv 0)) (da_cons (de_var (pv 1)) (da_cons de_int (da_cons (de_gint g_MOST_WORDS) da_nil))))))
    (ds_one (ds_ret (de_tup (da_cons (de_var (pv 2)) (da_cons (de_fn c_body_in hr (by decide) (takes_of rfl rfl rfl rfl) (da_cons (de_var (pv 0)) (da_cons (de_var (pv 1)) da_nil))) da_nil)))))))))))
abbrev N_read_grant : List Str := ["value"]
theorem sc_read_grant : FnScope N_read_grant ["value"] (defScope s_read_grant) := ⟨rfl, rfl, rfl, by decide +kernel, rfl, by decide +kernel, by decide +kernel⟩
theorem ok_read_grant {f : Addr} {fd : FuncData} (F : Fun K "read_grant" "read_grant" s_read_grant f fd) (b_isinstance : mg "isinstance" = none) (b_str : mg "str" = none) (c_grant_in : Cal P w K mg base ⟨K, cl, fc, P, w⟩ "grant_in" 5 fn_grant_in) (c_words_of : Cal P w K mg base ⟨K, cl, fc, P, w⟩ "words_of" 1 fn_words_of) (e_BadText : CalE2 P w K mg base ⟨K, cl, fc, P, w⟩ "BadText" 15 1 "line" "number") :
    FnOk P w K mg base (L2.CX P w) 6 f fd ["value"] (spF ⟨K, cl, fc, P, w⟩ fn_read_grant) := by
  refine fn_drop (fn_ok (N := N_read_grant) (ms := ms_read_grant) F sc_read_grant rfl fun cdv A outer s H E hr => ?_)
  exact (ds_cons wi_E (ds_if (dt_not (dt_val (de_callB call_isi opn_isi b_isinstance (by decide +kernel) (da_cons (de_var (pv 0)) (da_cons (de_ty b_str (by decide +kernel)) da_nil))))) (ds_one (ds_raise2 e_BadText rfl (takes_of rfl rfl rfl rfl) hr (by decide) (da_cons de_non (da_cons de_non da_nil)))) ds_nil)
    (ds_one (ds_ret (de_fn c_grant_in hr (by decide) (takes_of rfl rfl rfl rfl) (da_cons (de_fn c_words_of hr (by decide) (takes_of rfl rfl rfl rfl) (da_cons (de_var (pv 0)) da_nil)) (da_cons de_int da_nil))))))
abbrev N_law_deck_v2 : List Str := ["_law_script", "_law_great", "_law_small", "_law_cell", "_law_mixed"]
theorem sc_law_deck_v2 : FnScope N_law_deck_v2 ["_law_script"] (defScope s_law_deck_v2) := ⟨rfl, rfl, rfl, by decide +kernel, rfl, by decide +kernel, by decide +kernel⟩
theorem ok_law_deck_v2 {f : Addr} {fd : FuncData} (F : Fun K "_law_deck" "_law_deck" s_law_deck_v2 f fd) (b_abs : mg "abs" = none) (b_int : mg "int" = none) (b_len : mg "len" = none) :
    FnOk P w K mg base (L2.CX P w) 1 f fd ["_law_script"] (spF ⟨K, cl, fc, P, w⟩ fn_law_deck_v2) := by
  refine (fn_ok (N := N_law_deck_v2) (ms := ms_law_deck_v2) F sc_law_deck_v2 rfl fun cdv A outer s H E hr => ?_)
  exact (ds_cons wi_E (ds_par rfl sc_law_deck_v2.nd rfl rfl (by decide) rfl rfl (da_cons de_int (da_cons (de_op op_addU op2_add de_int (de_op op_mulU op2_mul de_int (de_callB call_lenU opn_len b_len PySem.boot_len (da_cons (de_var (pv 0)) da_nil)))) da_nil)) (by rfl))
    (ds_cons wi_E (ds_for wi_E (passes_of rfl) rfl tg_name (di_seq (hl := (de_slice (he := (de_var (pv 0))) (hl := do_none) (hu := (do_some de_int))))) (pg_name (i := 3) sc_law_deck_v2.nd rfl (Or.inl rfl))
    (ds_one (ds_if (dt_cmp op_ge op2_ge0 (de_var (pv 3)) (de_op op_pow op2_pow de_int de_int) (nomark _)) (ds_one (ds_set (i := 1) sc_law_deck_v2.nd rfl (Or.inl rfl) (de_op op_sub op2_sub (de_op op_addU op2_add (de_op op_mulU op2_mul (de_var (pv 1)) de_int) (de_var (pv 3))) (de_op op_pow op2_pow de_int de_int)))) (ds_cons wi_E (ds_set (i := 4) sc_law_deck_v2.nd rfl (Or.inl rfl) (de_op op_addU op2_add (de_op op_mulU op2_mul (de_var (pv 2)) de_int) (de_op op_mulU op2_mul de_int (de_callB call_abs opn_abs b_abs (by decide +kernel) (da_cons (de_var (pv 3)) da_nil)))))
    (ds_one (ds_set (i := 2) sc_law_deck_v2.nd rfl (Or.inl rfl) (de_op op_mod op2_mod (de_callTy call_intU opn_int b_int (by decide +kernel) (da_cons (de_op op_addU op2_add (de_var (pv 4)) (de_callTy call_intU opn_int b_int (by decide +kernel) (da_cons (de_cmp (op_ltP (hu64 hr)) op2_lt (de_var (pv 3)) de_int (nomark _)) da_nil))) da_nil)) de_int)))))))
    (ds_one (ds_ret (de_new (da_cons (de_var (pv 1)) (da_cons (de_var (pv 2)) (da_cons de_int da_nil))))))))
abbrev N_law_take_v2 : List Str := ["_law_deck_here", "_law_many", "_law_digit", "_law_mixed"]
theorem sc_law_take_v2 : FnScope N_law_take_v2 ["_law_deck_here", "_law_many"] (defScope s_law_take_v2) := ⟨rfl, rfl, rfl, by decide +kernel, rfl, by decide +kernel, by decide +kernel⟩
theorem ok_law_take_v2 {f : Addr} {fd : FuncData} (F : Fun K "_law_take" "_law_take" s_law_take_v2 f fd) (b_int : mg "int" = none) :
    FnOk P w K mg base (L2.CX P w) 1 f fd ["_law_deck_here", "_law_many"] (spF ⟨K, cl, fc, P, w⟩ fn_law_take_v2) := by
  refine fn_drop (fn_ok (N := N_law_take_v2) (ms := ms_law_take_v2) F sc_law_take_v2 rfl fun cdv A outer s H E hr => ?_)
  exact (ds_cons wi_E (ds_if (dt_cmp op_gt op2_gt0 (de_idx (ix_all (hu1 hr)) op2_idxA (de_var (pv 0)) de_int) de_int (nomark _)) (ds_cons wi_E (ds_set (i := 2) sc_law_take_v2.nd rfl (Or.inl rfl) (de_op op_mod op2_mod (de_callTy call_intU opn_int b_int (by decide +kernel) (da_cons (de_idx (ix_all (hu1 hr)) op2_idxA (de_var (pv 0)) de_int) da_nil)) (de_var (pv 1))))
    (ds_cons wi_E (ds_ix (de_var (pv 0)) de_int (de_op op_fdiv op2_div (de_idx (ix_all (hu1 hr)) op2_idxA (de_var (pv 0)) de_int) (de_var (pv 1))) (pg_sub (de_var (pv 0)) de_int set_list))
    (ds_one (ds_ret (de_var (pv 2)))))) ds_nil)
    (ds_cons wi_E (ds_ix (de_var (pv 0)) de_int (de_op op_addU op2_add (de_idx (ix_all (hu1 hr)) op2_idxA (de_var (pv 0)) de_int) de_int) (pg_sub (de_var (pv 0)) de_int set_list))
    (ds_cons wi_E (ds_set (i := 3) sc_law_take_v2.nd rfl (Or.inl rfl) (de_op op_addU op2_add (de_op op_mulU op2_mul (de_idx (ix_all (hu1 hr)) op2_idxA (de_var (pv 0)) de_int) de_int) (de_op op_mulU op2_mul de_int (de_idx (ix_all (hu1 hr)) op2_idxA (de_var (pv 0)) de_int))))
    (ds_cons wi_E (ds_ix (de_var (pv 0)) de_int (de_op op_mod op2_mod (de_callTy call_intU opn_int b_int (by decide +kernel) (da_cons (de_var (pv 3)) da_nil)) de_int) (pg_sub (de_var (pv 0)) de_int set_list))
    (ds_one (ds_ret (de_op op_mod op2_mod (de_op op_fdiv op2_div (de_op op_mod op2_mod (de_callTy call_intU opn_int b_int (by decide +kernel) (da_cons (de_op op_mulU op2_mul (de_idx (ix_all (hu1 hr)) op2_idxA (de_var (pv 0)) de_int) (de_idx (ix_all (hu1 hr)) op2_idxA (de_var (pv 0)) de_int)) da_nil)) de_int) de_int) (de_var (pv 1)))))))))
abbrev N_law_pick : List Str := ["_law_deck_here", "_law_some"]
theorem sc_law_pick : FnScope N_law_pick ["_law_deck_here", "_law_some"] (defScope s_law_pick) := ⟨rfl, rfl, rfl, by decide +kernel, rfl, by decide +kernel, by decide +kernel⟩
theorem ok_law_pick {f : Addr} {fd : FuncData} (F : Fun K "_law_pick" "_law_pick" s_law_pick f fd) (b_len : mg "len" = none) (c_law_take_v2 : Cal P w K mg base ⟨K, cl, fc, P, w⟩ "_law_take" 1 fn_law_take_v2) :
    FnOk P w K mg base (L2.CX P w) 2 f fd ["_law_deck_here", "_law_some"] (spF ⟨K, cl, fc, P, w⟩ fn_law_pick) := by
  refine fn_drop (fn_ok (N := N_law_pick) (ms := ms_law_pick) F sc_law_pick rfl fun cdv A outer s H E hr => ?_)
  exact (ds_one (ds_ret (de_idx (ix_all (hu1 hr)) op2_idxA (de_var (pv 1)) (de_fn c_law_take_v2 hr (by decide) (takes_of rfl rfl rfl rfl) (da_cons (de_var (pv 0)) (da_cons (de_callB call_lenU opn_len b_len PySem.boot_len (da_cons (de_var (pv 1)) da_nil)) da_nil))))))
abbrev N_law_odd_v2 : List Str := ["_law_deck_here", "_law_some"]
theorem sc_law_odd_v2 : FnScope N_law_odd_v2 ["_law_deck_here"] (defScope s_law_odd_v2) := ⟨rfl, rfl, rfl, by decide +kernel, rfl, by decide +kernel, by decide +kernel⟩
theorem ok_law_odd_v2 {f : Addr} {fd : FuncData} (F : Fun K "_law_odd" "_law_odd" s_law_odd_v2 f fd) (c_law_pick : Cal P w K mg base ⟨K, cl, fc, P, w⟩ "_law_pick" 2 fn_law_pick) :
    FnOk P w K mg base (L2.CX P w) 3 f fd ["_law_deck_here"] (spF ⟨K, cl, fc, P, w⟩ fn_law_odd_v2) := by
  refine fn_drop (fn_ok (N := N_law_odd_v2) (ms := ms_law_odd_v2) F sc_law_odd_v2 rfl fun cdv A outer s H E hr => ?_)
  exact (ds_cons wi_E (ds_set (i := 1) sc_law_odd_v2.nd rfl (Or.inl rfl) (de_lst (da_cons de_non (da_cons de_bl (da_cons de_bl (da_cons de_int (da_cons de_int (da_cons de_int (da_cons (de_un un_neg op1_neg de_int) (da_cons (de_op op_pow op2_pow de_int de_int) (da_cons de_str (da_cons de_str (da_cons de_str (da_cons de_str (da_cons (de_tup da_nil) (da_cons (de_tup (da_cons de_int da_nil)) (da_cons (de_tup (da_cons de_int (da_cons de_int da_nil))) (da_cons (de_tup (da_cons de_int (da_cons de_bl da_nil))) (da_cons (de_tup (da_cons de_bl (da_cons de_int da_nil))) da_nil)))))))))))))))))))
    (ds_cons wi_E (ds_set (i := 1) sc_law_odd_v2.nd rfl (Or.inl rfl) (de_op op_addU op2_add (de_var (pv 1)) (de_lst (da_cons (de_tup (da_cons de_int (da_cons de_int da_nil))) (da_cons (de_tup (da_cons (de_un un_neg op1_neg de_int) (da_cons de_int da_nil))) (da_cons (de_lst (da_cons de_int (da_cons de_int da_nil))) (da_cons (de_lst da_nil) (da_cons de_demp (da_cons (de_dispD (.cons de_int .nil) (by decide +kernel) (by decide) (by decide) (by rfl) (by rfl) (by simp) (by decide)) (da_cons (de_tup (da_cons (de_tup (da_cons de_int (da_cons de_int da_nil))) da_nil)) (da_cons (de_tup (da_cons (de_tup (da_cons de_int (da_cons de_int da_nil))) (da_cons (de_tup (da_cons de_str da_nil)) da_nil))) (da_cons (de_tup (da_cons (de_tup (da_cons de_int (da_cons de_int da_nil))) (da_cons (de_tup (da_cons de_str (da_cons de_int da_nil))) da_nil))) (da_cons (de_tup (da_cons (de_lst (da_cons de_int da_nil)) (da_cons de_int da_nil))) da_nil)))))))))))))
    (ds_one (ds_ret (de_fn c_law_pick hr (by decide) (takes_of rfl rfl rfl rfl) (da_cons (de_var (pv 0)) (da_cons (de_op op_addU op2_add (de_var (pv 1)) (de_lst (da_cons (de_tup (da_cons (de_tup (da_cons de_int (da_cons de_int da_nil))) (da_cons (de_lst (da_cons de_str (da_cons de_int da_nil))) da_nil))) (da_cons (de_tup (da_cons (de_tup (da_cons de_int (da_cons de_int da_nil))) (da_cons (de_tup (da_cons de_str (da_cons de_int da_nil))) da_nil))) (da_cons (de_tup (da_cons (de_tup (da_cons de_int (da_cons de_int da_nil))) (da_cons (de_tup (da_cons de_str (da_cons (de_tup (da_cons de_int (da_cons de_int da_nil))) (da_cons (de_tup (da_cons de_int (da_cons de_int da_nil))) da_nil)))) da_nil))) (da_cons (de_tup (da_cons (de_tup (da_cons de_str da_nil)) da_nil)) da_nil)))))) da_nil)))))))
abbrev N_law_role_v2 : List Str := ["_law_deck_here", "_law_owners", "_law_labels"]
theorem sc_law_role_v2 : FnScope N_law_role_v2 ["_law_deck_here", "_law_owners", "_law_labels"] (defScope s_law_role_v2) := ⟨rfl, rfl, rfl, by decide +kernel, rfl, by decide +kernel, by decide +kernel⟩
theorem ok_law_role_v2 {f : Addr} {fd : FuncData} (F : Fun K "_law_role" "_law_role" s_law_role_v2 f fd) (c_law_take_v2 : Cal P w K mg base ⟨K, cl, fc, P, w⟩ "_law_take" 1 fn_law_take_v2) :
    FnOk P w K mg base (L2.CX P w) 2 f fd ["_law_deck_here", "_law_owners", "_law_labels"] (spF ⟨K, cl, fc, P, w⟩ fn_law_role_v2) := by
  refine fn_drop (fn_ok (N := N_law_role_v2) (ms := ms_law_role_v2) F sc_law_role_v2 rfl fun cdv A outer s H E hr => ?_)
  exact (ds_one (ds_ret (de_tup (da_cons (de_fn c_law_take_v2 hr (by decide) (takes_of rfl rfl rfl rfl) (da_cons (de_var (pv 0)) (da_cons (de_var (pv 1)) da_nil))) (da_cons (de_fn c_law_take_v2 hr (by decide) (takes_of rfl rfl rfl rfl) (da_cons (de_var (pv 0)) (da_cons (de_var (pv 2)) da_nil))) da_nil)))))
abbrev N_law_grant : List Str := ["_law_deck_here", "_law_owners", "_law_labels", "_law_role_here", "_law_first", "_law_way", "_law_second"]
theorem sc_law_grant : FnScope N_law_grant ["_law_deck_here", "_law_owners", "_law_labels"] (defScope s_law_grant) := ⟨rfl, rfl, rfl, by decide +kernel, rfl, by decide +kernel, by decide +kernel⟩
theorem ok_law_grant {f : Addr} {fd : FuncData} (F : Fun K "_law_grant" "_law_grant" s_law_grant f fd) (b_max : mg "max" = none) (b_min : mg "min" = none) (c_law_role_v2 : Cal P w K mg base ⟨K, cl, fc, P, w⟩ "_law_role" 2 fn_law_role_v2) (c_law_take_v2 : Cal P w K mg base ⟨K, cl, fc, P, w⟩ "_law_take" 1 fn_law_take_v2) :
    FnOk P w K mg base (L2.CX P w) 3 f fd ["_law_deck_here", "_law_owners", "_law_labels"] (spF ⟨K, cl, fc, P, w⟩ fn_law_grant) := by
  refine fn_drop (fn_ok (N := N_law_grant) (ms := ms_law_grant) F sc_law_grant rfl fun cdv A outer s H E hr => ?_)
  exact (ds_cons wi_E (ds_par rfl sc_law_grant.nd rfl rfl (by decide) rfl rfl (da_cons (de_fn c_law_role_v2 hr (by decide) (takes_of rfl rfl rfl rfl) (da_cons (de_var (pv 0)) (da_cons (de_var (pv 1)) (da_cons (de_var (pv 2)) da_nil)))) (da_cons (de_fn c_law_role_v2 hr (by decide) (takes_of rfl rfl rfl rfl) (da_cons (de_var (pv 0)) (da_cons (de_var (pv 1)) (da_cons (de_var (pv 2)) da_nil)))) da_nil)) (by rfl))
    (ds_cons wi_E (ds_set (i := 5) sc_law_grant.nd rfl (Or.inl rfl) (de_fn c_law_take_v2 hr (by decide) (takes_of rfl rfl rfl rfl) (da_cons (de_var (pv 0)) (da_cons de_int da_nil))))
    (ds_cons wi_E (ds_if (dt_cmp (op_ltP (hu64 hr)) op2_lt (de_var (pv 5)) de_int (nomark _)) (ds_one (ds_ret (de_tup (da_cons (de_var (pv 3)) (da_cons (de_tup (da_cons de_str (da_cons (de_fn c_law_take_v2 hr (by decide) (takes_of rfl rfl rfl rfl) (da_cons (de_var (pv 0)) (da_cons (de_var (pv 1)) da_nil))) da_nil))) da_nil))))) ds_nil)
    (ds_cons wi_E (ds_if (dt_cmp (op_ltP (hu64 hr)) op2_lt (de_var (pv 5)) de_int (nomark _)) (ds_one (ds_ret (de_tup (da_cons (de_var (pv 3)) (da_cons (de_tup (da_cons de_str (da_cons (de_var (pv 4)) da_nil))) da_nil))))) ds_nil)
    (ds_cons wi_E (ds_if (dt_cmp (op_ltP (hu64 hr)) op2_lt (de_var (pv 5)) de_int (nomark _)) (ds_one (ds_ret (de_tup (da_cons (de_var (pv 3)) (da_cons (de_tup (da_cons de_str (da_cons (de_var (pv 4)) (da_cons (de_fn c_law_take_v2 hr (by decide) (takes_of rfl rfl rfl rfl) (da_cons (de_var (pv 0)) (da_cons (de_var (pv 2)) da_nil))) da_nil)))) da_nil))))) ds_nil)
    (ds_cons wi_E (ds_set (i := 6) sc_law_grant.nd rfl (Or.inl rfl) (de_fn c_law_role_v2 hr (by decide) (takes_of rfl rfl rfl rfl) (da_cons (de_var (pv 0)) (da_cons (de_var (pv 1)) (da_cons (de_var (pv 2)) da_nil)))))
    (ds_cons wi_E (ds_if (dt_cmp (op_eqU (hu64 hr)) op2_eq (de_var (pv 4)) (de_var (pv 6)) (nomark _)) (ds_one (ds_ret (de_tup (da_cons (de_var (pv 3)) (da_cons (de_tup (da_cons de_str (da_cons (de_var (pv 4)) da_nil))) da_nil))))) ds_nil)
    (ds_one (ds_ret (de_tup (da_cons (de_var (pv 3)) (da_cons (de_tup (da_cons de_str (da_cons (de_callB (call_min2D rfl (hu66 hr)) opn_min2 b_min (by decide +kernel) (da_cons (de_var (pv 4)) (da_cons (de_var (pv 6)) da_nil))) (da_cons (de_callB (call_max2D rfl (hu66 hr)) opn_max2 b_max (by decide +kernel) (da_cons (de_var (pv 4)) (da_cons (de_var (pv 6)) da_nil))) da_nil)))) da_nil))))))))))))
abbrev N_law_role_text : List Str := ["_law_role_here"]
theorem sc_law_role_text : FnScope N_law_role_text ["_law_role_here"] (defScope s_law_role_text) := ⟨rfl, rfl, rfl, by decide +kernel, rfl, by decide +kernel, by decide +kernel⟩
theorem ok_law_role_text {f : Addr} {fd : FuncData} (F : Fun K "_law_role_text" "_law_role_text" s_law_role_text f fd) (b_str : mg "str" = none) :
    FnOk P w K mg base (L2.CX P w) 1 f fd ["_law_role_here"] (spF ⟨K, cl, fc, P, w⟩ fn_law_role_text) := by
  refine fn_drop (fn_ok (N := N_law_role_text) (ms := ms_law_role_text) F sc_law_role_text rfl fun cdv A outer s H E hr => ?_)
  exact (ds_one (ds_ret (de_op op_addU op2_add (de_op op_addU op2_add (de_callTy call_strU opn_str b_str (by decide +kernel) (da_cons (de_idx (ix_all (hu1 hr)) op2_idxA (de_var (pv 0)) de_int) da_nil)) de_str) (de_callTy call_strU opn_str b_str (by decide +kernel) (da_cons (de_idx (ix_all (hu1 hr)) op2_idxA (de_var (pv 0)) de_int) da_nil)))))
abbrev N_law_grant_text : List Str := ["_law_value", "_law_role_here", "_law_body", "_law_found"]
theorem sc_law_grant_text : FnScope N_law_grant_text ["_law_value"] (defScope s_law_grant_text) := ⟨rfl, rfl, rfl, by decide +kernel, rfl, by decide +kernel, by decide +kernel⟩
theorem ok_law_grant_text {f : Addr} {fd : FuncData} (F : Fun K "_law_grant_text" "_law_grant_text" s_law_grant_text f fd) (b_str : mg "str" = none) (c_law_role_text : Cal P w K mg base ⟨K, cl, fc, P, w⟩ "_law_role_text" 1 fn_law_role_text) :
    FnOk P w K mg base (L2.CX P w) 2 f fd ["_law_value"] (spF ⟨K, cl, fc, P, w⟩ fn_law_grant_text) := by
  refine fn_drop (fn_ok (N := N_law_grant_text) (ms := ms_law_grant_text) F sc_law_grant_text rfl fun cdv A outer s H E hr => ?_)
  exact (ds_cons wi_E (ds_asg (tg_tup (tgs_cons tg_name (tgs_cons tg_name tgs_nil))) (de_var (pv 0)) (pg_tup rfl (pgs_cons (pg_name (i := 1) sc_law_grant_text.nd rfl (Or.inl rfl)) (pgs_cons (pg_name (i := 2) sc_law_grant_text.nd rfl (Or.inl rfl)) pgs_nil))))
    (ds_cons wi_E (ds_set (i := 3) sc_law_grant_text.nd rfl (Or.inl rfl) (de_op op_addU op2_add (de_fn c_law_role_text hr (by decide) (takes_of rfl rfl rfl rfl) (da_cons (de_var (pv 1)) da_nil)) de_str))
    (ds_cons wi_E (ds_if (dt_cmp (op_eqU (hu64 hr)) op2_eq (de_idx (ix_all (hu1 hr)) op2_idxA (de_var (pv 2)) de_int) de_str (nomark _)) (ds_one (ds_ret (de_op op_addU op2_add (de_var (pv 3)) (de_callTy call_strU opn_str b_str (by decide +kernel) (da_cons (de_idx (ix_all (hu1 hr)) op2_idxA (de_var (pv 2)) de_int) da_nil))))) ds_nil)
    (ds_cons wi_E (ds_if (dt_cmp (op_eqU (hu64 hr)) op2_eq (de_idx (ix_all (hu1 hr)) op2_idxA (de_var (pv 2)) de_int) de_str (nomark _)) (ds_one (ds_ret (de_op op_addU op2_add (de_var (pv 3)) (de_fn c_law_role_text hr (by decide) (takes_of rfl rfl rfl rfl) (da_cons (de_idx (ix_all (hu1 hr)) op2_idxA (de_var (pv 2)) de_int) da_nil))))) ds_nil)
    (ds_cons wi_E (ds_if (dt_cmp (op_eqU (hu64 hr)) op2_eq (de_idx (ix_all (hu1 hr)) op2_idxA (de_var (pv 2)) de_int) de_str (nomark _)) (ds_one (ds_ret (de_op op_addU op2_add (de_op op_addU op2_add (de_op op_addU op2_add (de_var (pv 3)) (de_fn c_law_role_text hr (by decide) (takes_of rfl rfl rfl rfl) (da_cons (de_idx (ix_all (hu1 hr)) op2_idxA (de_var (pv 2)) de_int) da_nil))) de_str) (de_callTy call_strU opn_str b_str (by decide +kernel) (da_cons (de_idx (ix_all (hu1 hr)) op2_idxA (de_var (pv 2)) de_int) da_nil))))) ds_nil)
    (ds_one (ds_ret (de_op op_addU op2_add (de_op op_addU op2_add (de_op op_addU op2_add (de_var (pv 3)) (de_fn c_law_role_text hr (by decide) (takes_of rfl rfl rfl rfl) (da_cons (de_idx (ix_all (hu1 hr)) op2_idxA (de_var (pv 2)) de_int) da_nil))) de_str) (de_fn c_law_role_text hr (by decide) (takes_of rfl rfl rfl rfl) (da_cons (de_idx (ix_all (hu1 hr)) op2_idxA (de_var (pv 2)) de_int) da_nil))))))))))
abbrev N_law_numbersx : List Str := ["_law_word", "_law_many", "_law_place", "_law_sign"]
theorem sc_law_numbersx : FnScope N_law_numbersx ["_law_word", "_law_many"] (defScope s_law_numbersx) := ⟨rfl, rfl, rfl, by decide +kernel, rfl, by decide +kernel, by decide +kernel⟩
theorem ok_law_numbersx {f : Addr} {fd : FuncData} (F : Fun K "_law_numbers" "_law_numbers" s_law_numbersx f fd) (b_enumerate : mg "enumerate" = none) (b_int : mg "int" = none) (b_len : mg "len" = none) (b_range : mg "range" = none) (b_tuple : mg "tuple" = none) :
    FnOk P w K mg base (L2.CX P w) 1 f fd ["_law_word", "_law_many"] (spF ⟨K, cl, fc, P, w⟩ fn_law_numbersx) := by
  refine fn_drop (fn_ok (N := N_law_numbersx) (ms := ms_law_numbersx) F sc_law_numbersx rfl fun cdv A outer s H E hr => ?_)
  exact (ds_cons wi_E (ds_if (dt_cmp (op_neU (hu64 hr)) op2_ne (de_callB call_lenU opn_len b_len PySem.boot_len (da_cons (de_var (pv 0)) da_nil)) (de_op op_sub op2_sub (de_op op_mulU op2_mul de_int (de_var (pv 1))) de_int) (nomark _)) (ds_one (ds_ret de_non)) ds_nil)
    (ds_cons wi_E (ds_for wi_E (passes_of rfl) rfl (tg_tup (tgs_cons tg_name (tgs_cons tg_name tgs_nil))) (di_enumS b_enumerate (de_var (pv 0))) (pg_tup rfl (pgs_cons (pg_name (i := 2) sc_law_numbersx.nd rfl (Or.inl rfl)) (pgs_cons (pg_name (i := 3) sc_law_numbersx.nd rfl (Or.inl rfl)) pgs_nil)))
    (ds_one (ds_if (dt_cmp (op_notInU (hu65 hr)) op2_notIn (de_var (pv 3)) (de_idx (ix_all (hu1 hr)) op2_idxA (de_tup (da_cons de_str (da_cons de_str da_nil))) (de_callTy call_intU opn_int b_int (by decide +kernel) (da_cons (de_cmp (op_eqU (hu64 hr)) op2_eq (de_op op_mod op2_mod (de_var (pv 2)) de_int) de_int (nomark _)) da_nil))) (by rfl)) (ds_one (ds_ret de_non)) ds_nil)))
    (ds_one (ds_ret (de_callTy call_tuple_of opn_tuple b_tuple (by decide +kernel) (da_cons (de_lc (ow := [("_law_place", 2)]) rfl sc_law_numbersx.nd tg_name (by decide) (di_rg1 b_range (da_cons (de_var (pv 1)) da_nil)) (blkOk_by (N := N_law_numbersx) (sc := defScope s_law_numbersx) (by decide +kernel)) (fun _ _ _ _ _ => (pg_name (i := 2) sc_law_numbersx.nd rfl (Or.inl rfl))) (fun _ _ _ _ _ => dts_nil) (fun _ _ _ _ _ => (de_callTy call_intU opn_int b_int (by decide +kernel) (da_cons (de_idx (ix_all (hu1 hr)) op2_idxA (de_var (pv 0)) (de_op op_mulU op2_mul de_int (de_var (pv 2)))) da_nil)))) da_nil))))))
abbrev N_law_read_grantx : List Str := ["_law_words_here", "_law_role_here", "_law_one", "_law_two", "_law_three", "_law_other", "_law_many"]
theorem sc_law_read_grantx : FnScope N_law_read_grantx ["_law_words_here"] (defScope s_law_read_grantx) := ⟨rfl, rfl, rfl, by decide +kernel, rfl, by decide +kernel, by decide +kernel⟩
theorem ok_law_read_grantx {f : Addr} {fd : FuncData} (F : Fun K "_law_read_grant" "_law_read_grant" s_law_read_grantx f fd) (b_len : mg "len" = none) (c_law_numbersx : Cal P w K mg base ⟨K, cl, fc, P, w⟩ "_law_numbers" 1 fn_law_numbersx) :
    FnOk P w K mg base (L2.CX P w) 2 f fd ["_law_words_here"] (spF ⟨K, cl, fc, P, w⟩ fn_law_read_grantx) := by
  refine fn_drop (fn_ok (N := N_law_read_grantx) (ms := ms_law_read_grantx) F sc_law_read_grantx rfl fun cdv A outer s H E hr => ?_)
  exact (ds_cons wi_E (ds_set (i := 1) sc_law_read_grantx.nd rfl (Or.inl rfl) (de_if (dt_cmp (op_neL (hu64 hr)) op2_neL (de_var (pv 0)) (de_lst da_nil) (nomark _)) (de_fn c_law_numbersx hr (by decide) (takes_of rfl rfl rfl rfl) (da_cons (de_idx (ix_all (hu1 hr)) op2_idxA (de_var (pv 0)) de_int) (da_cons de_int da_nil))) de_non))
    (ds_cons wi_E (ds_if (dt_cmp op_isN op2_is (de_var (pv 1)) de_non (nomark _)) (ds_one (ds_ret de_int)) ds_nil)
    (ds_cons wi_E (ds_if (PW.pt (dw_or (dt_cmp (op_ltP (hu64 hr)) op2_lt (de_callB call_lenU opn_len b_len PySem.boot_len (da_cons (de_var (pv 0)) da_nil)) de_int (nomark _)) (dw_or1 (dt_cmp (op_neU (hu64 hr)) op2_ne (de_idx (ix_all (hu1 hr)) op2_idxA (de_var (pv 0)) de_int) de_str (nomark _))))) (ds_one (ds_ret de_int)) ds_nil)
    (ds_cons wi_E (ds_if (dt_cmp (op_ltP (hu64 hr)) op2_lt (de_callB call_lenU opn_len b_len PySem.boot_len (da_cons (de_var (pv 0)) da_nil)) de_int (nomark _)) (ds_one (ds_ret de_int)) ds_nil)
    (ds_cons wi_E (ds_asg (tg_lstT (tgs_cons tg_name (tgs_cons tg_name (tgs_cons tg_name tgs_nil)))) (de_lc (ow := [("_law_many", 6)]) rfl sc_law_read_grantx.nd tg_name (by decide) (di_seq (hl := (de_tup (da_cons de_int (da_cons de_int (da_cons de_int da_nil)))))) (blkOk_by (N := N_law_read_grantx) (sc := defScope s_law_read_grantx) (by decide +kernel)) (fun _ _ _ _ _ => (pg_name (i := 6) sc_law_read_grantx.nd rfl (Or.inl rfl))) (fun _ _ _ _ _ => dts_nil) (fun _ _ _ _ _ => (de_fn c_law_numbersx hr (by decide) takes0 (da_cons (de_idx (ix_all (hu1 hr)) op2_idxA (de_var (pv 0)) de_int) (da_cons (de_var (pv 6)) da_nil))))) (pg_lst rfl (pgs_cons (pg_name (i := 2) sc_law_read_grantx.nd rfl (Or.inl rfl)) (pgs_cons (pg_name (i := 3) sc_law_read_grantx.nd rfl (Or.inl rfl)) (pgs_cons (pg_name (i := 4) sc_law_read_grantx.nd rfl (Or.inl rfl)) pgs_nil)))))
    (ds_cons wi_E (ds_if (PW.pt (dw_and (dt_cmp op_isN op2_is (de_var (pv 2)) de_non (nomark _)) (dw_and (dt_cmp op_isN op2_is (de_var (pv 3)) de_non (nomark _)) (dw_and1 (dt_cmp op_isN op2_is (de_var (pv 4)) de_non (nomark _)))))) (ds_one (ds_ret de_int)) ds_nil)
    (ds_cons wi_E (ds_if (PW.pt (dw_or (dt_cmp op_isN op2_is (de_var (pv 3)) de_non (nomark _)) (dw_or1 (dt_cmp (op_eqU (hu64 hr)) op2_eq (de_callB call_lenU opn_len b_len PySem.boot_len (da_cons (de_var (pv 0)) da_nil)) de_int (nomark _))))) (ds_cons wi_E (ds_if (dt_cmp op_gt op2_gt0 (de_callB call_lenU opn_len b_len PySem.boot_len (da_cons (de_var (pv 0)) da_nil)) de_int (nomark _)) (ds_one (ds_ret de_int)) ds_nil)
    (ds_cons wi_E (ds_if (dt_cmp op_notN op2_isNot (de_var (pv 2)) de_non (nomark _)) (ds_one (ds_ret (de_tup (da_cons (de_var (pv 1)) (da_cons (de_tup (da_cons de_str (da_cons (de_idx (ix_all (hu1 hr)) op2_idxA (de_var (pv 2)) de_int) da_nil))) da_nil))))) ds_nil)
    (ds_one (ds_ret (de_tup (da_cons (de_var (pv 1)) (da_cons (de_if (dt_cmp op_notN op2_isNot (de_var (pv 3)) de_non (nomark _)) (de_tup (da_cons de_str (da_cons (de_var (pv 3)) da_nil))) (de_tup (da_cons de_str (da_cons (de_slice (he := (de_var (pv 4))) (hl := do_none) (hu := (do_some de_int))) (da_cons (de_idx (ix_all (hu1 hr)) op2_idxA (de_var (pv 4)) de_int) da_nil))))) da_nil))))))) ds_nil)
    (ds_cons wi_E (ds_if (dt_cmp (op_neU (hu64 hr)) op2_ne (de_idx (ix_all (hu1 hr)) op2_idxA (de_var (pv 0)) de_int) de_str (nomark _)) (ds_one (ds_ret de_int)) ds_nil)
    (ds_cons wi_E (ds_set (i := 5) sc_law_read_grantx.nd rfl (Or.inl rfl) (de_if (dt_cmp op_gt op2_gt0 (de_callB call_lenU opn_len b_len PySem.boot_len (da_cons (de_var (pv 0)) da_nil)) de_int (nomark _)) (de_fn c_law_numbersx hr (by decide) (takes_of rfl rfl rfl rfl) (da_cons (de_idx (ix_all (hu1 hr)) op2_idxA (de_var (pv 0)) de_int) (da_cons de_int da_nil))) de_non))
    (ds_cons wi_E (ds_if (dt_cmp op_isN op2_is (de_var (pv 5)) de_non (nomark _)) (ds_one (ds_ret de_int)) ds_nil)
    (ds_one (ds_ret (de_if (dt_cmp op_gt op2_gt0 (de_callB call_lenU opn_len b_len PySem.boot_len (da_cons (de_var (pv 0)) da_nil)) de_int (nomark _)) de_int (de_tup (da_cons (de_var (pv 1)) (da_cons (de_tup (da_cons de_str (da_cons (de_var (pv 3)) (da_cons (de_var (pv 5)) da_nil)))) da_nil))))))))))))))))
abbrev N_law_words : List Str := ["_law_text", "_law_word"]
theorem sc_law_words : FnScope N_law_words ["_law_text"] (defScope s_law_words) := ⟨rfl, rfl, rfl, by decide +kernel, rfl, by decide +kernel, by decide +kernel⟩
theorem ok_law_words {f : Addr} {fd : FuncData} (F : Fun K "_law_words" "_law_words" s_law_words f fd)  :
    FnOk P w K mg base (L2.CX P w) 1 f fd ["_law_text"] (spF ⟨K, cl, fc, P, w⟩ fn_law_words) := by
  refine fn_drop (fn_ok (N := N_law_words) (ms := ms_law_words) F sc_law_words rfl fun cdv A outer s H E hr => ?_)
  exact (ds_one (ds_ret (de_lc (ow := [("_law_word", 1)]) rfl sc_law_words.nd tg_name (by decide) (di_seq (hl := (de_bms PySem.F.slot_str_split PySem.F.type_str_split mt_split opm_split (de_var (pv 0)) (da_cons de_str da_nil)))) (blkOk_by (N := N_law_words) (sc := defScope s_law_words) (by decide +kernel)) (fun _ _ _ _ _ => (pg_name (i := 1) sc_law_words.nd rfl (Or.inl rfl))) (fun _ _ _ _ _ => (dts_one (dt_cmp (op_neU (hu64 hr)) op2_ne (de_var (pv 1)) de_str (nomark _)))) (fun _ _ _ _ _ => (de_var (pv 1))))))
abbrev N_law_torn : List Str := ["_law_deck_here", "_law_text", "_law_at", "_law_more", "_law_some"]
theorem sc_law_torn : FnScope N_law_torn ["_law_deck_here", "_law_text"] (defScope s_law_torn) := ⟨rfl, rfl, rfl, by decide +kernel, rfl, by decide +kernel, by decide +kernel⟩
theorem ok_law_torn {f : Addr} {fd : FuncData} (F : Fun K "_law_torn" "_law_torn" s_law_torn f fd) (b_len : mg "len" = none) (c_law_pick : Cal P w K mg base ⟨K, cl, fc, P, w⟩ "_law_pick" 2 fn_law_pick) (c_law_take_v2 : Cal P w K mg base ⟨K, cl, fc, P, w⟩ "_law_take" 1 fn_law_take_v2) :
    FnOk P w K mg base (L2.CX P w) 3 f fd ["_law_deck_here", "_law_text"] (spF ⟨K, cl, fc, P, w⟩ fn_law_torn) := by
  refine fn_drop (fn_ok (N := N_law_torn) (ms := ms_law_torn) F sc_law_torn rfl fun cdv A outer s H E hr => ?_)
  exact (ds_cons wi_E (ds_par rfl sc_law_torn.nd rfl rfl (by decide) rfl rfl (da_cons (de_fn c_law_take_v2 hr (by decide) (takes_of rfl rfl rfl rfl) (da_cons (de_var (pv 0)) (da_cons (de_op op_addU op2_add (de_callB call_lenU opn_len b_len PySem.boot_len (da_cons (de_var (pv 1)) da_nil)) de_int) da_nil))) (da_cons (de_fn c_law_pick hr (by decide) (takes_of rfl rfl rfl rfl) (da_cons (de_var (pv 0)) (da_cons (de_lst (da_cons de_str (da_cons de_str (da_cons de_str (da_cons de_str (da_cons de_str (da_cons de_str (da_cons de_str (da_cons de_str (da_cons de_str (da_cons de_str (da_cons de_str da_nil)))))))))))) da_nil))) da_nil)) (by rfl))
    (ds_bump wi_E (dsb_set (i := 4) sc_law_torn.nd rfl (Or.inl rfl) (deb_lst (dab_skip (de_op op_addU op2_add (de_op op_addU op2_add (de_slice (he := (de_var (pv 1))) (hl := do_none) (hu := (do_some (de_var (pv 2))))) (de_var (pv 3))) (de_slice (he := (de_var (pv 1))) (hl := (do_some (de_var (pv 2)))) (hu := do_none))) (dab_skip (de_op op_addU op2_add (de_op op_addU op2_add (de_slice (he := (de_var (pv 1))) (hl := do_none) (hu := (do_some (de_var (pv 2))))) (de_var (pv 3))) (de_slice (he := (de_var (pv 1))) (hl := (do_some (de_op op_addU op2_add (de_var (pv 2)) de_int))) (hu := do_none))) (dab_skip (de_slice (he := (de_var (pv 1))) (hl := do_none) (hu := (do_some (de_var (pv 2))))) (dab_here (deb_op op_addU op2_add (de_var (pv 1)) deb_str) (da_cons (de_op op_addU op2_add de_str (de_var (pv 1))) (da_cons (de_slice (he := (de_var (pv 1))) (hl := (do_some (de_var (pv 2)))) (hu := do_none)) da_nil))))))))
    (dst_one (dst_ret (det_fn c_law_pick hr (by decide) (takes_of rfl rfl rfl rfl) (dat_cons (det_of (de_var (pv 0))) (dat_cons (det_op op_addU op2_add (det_of (de_var (pv 4))) (det_lst (dat_cons (det_repl (de_var (pv 1))) (dat_cons (det_of (de_op op_addU op2_add (de_var (pv 1)) de_str)) (dat_cons (det_of (de_upper (de_var (pv 1)))) (dat_cons (det_of (de_op op_addU op2_add (de_var (pv 1)) de_str)) (dat_cons (det_repl (de_var (pv 1))) (dat_of da_nil)))))))) (dat_of da_nil))))))))
abbrev N_law_told_v8 : List Str := ["_law_value", "error"]
theorem sc_law_told_v8 : FnScope N_law_told_v8 ["_law_value"] (defScope s_law_told_v8) := ⟨rfl, rfl, rfl, by decide +kernel, rfl, by decide +kernel, by decide +kernel⟩
theorem ok_law_told_v8 {f : Addr} {fd : FuncData} (F : Fun K "_law_told" "_law_told" s_law_told_v8 f fd) (c_read_grant : Cal P w K mg base ⟨K, cl, fc, P, w⟩ "read_grant" 6 fn_read_grant) (tr_15_15 : ∀ c ∈ [15], PySem.W.exmOne K (.ref (cl c)) (.ref (cl 15)) = some (isSub c 15)) (x_BadText : mg "BadText" = some (.ref (cl 15))) (xf_line_15_15 : ∀ c ∈ (List.filter (fun c => isSub c 15) [15]), Xc K (cl c) ∧ PySem.W.findIn K (.ref (cl c)) "line" = some none) (xf_number_15_15 : ∀ c ∈ (List.filter (fun c => isSub c 15) [15]), Xc K (cl c) ∧ PySem.W.findIn K (.ref (cl c)) "number" = some none) :
    FnOk P w K mg base (L2.CX P w) 7 f fd ["_law_value"] (spF ⟨K, cl, fc, P, w⟩ fn_law_told_v8) := by
  refine fn_drop (fn_ok (N := N_law_told_v8) (ms := ms_law_told_v8) F sc_law_told_v8 rfl fun cdv A outer s H E hr => ?_)
  exact (ds_one (ds_try1 (i := 1) rfl rfl sc_law_told_v8.nd rfl rfl ⟨rfl, by decide, .inl x_BadText⟩ (takes_of rfl rfl rfl rfl) tr_15_15 (fun _ _ _ tkb _ => (ds_one (ds_ret (de_lst (da_cons de_str (da_cons (de_fn c_read_grant hr (by decide) tkb (da_cons (de_var (pv 0)) da_nil)) da_nil)))))) (fun a oe cls dd pn hz hf => (xss_one (xs_ret (xe_lst (xa_cons (xe_c pe_str rp_str) (xa_cons (xe_fld rfl xf_line_15_15 hz hf (pv 1)) (xa_cons (xe_fld rfl xf_number_15_15 hz hf (pv 1)) xa_nil)))))))))
abbrev N_law_k51 : List Str := ["_law_script", "_law_deck_here", "_law_turn", "_law_text", "_law_words_here", "_law_at", "_law_odd_here", "_law_some", "_law_far", "_law_value", "_law_found", "_law_due"]
theorem sc_law_k51 : FnScope N_law_k51 ["_law_script"] (defScope s_law_k51) := ⟨rfl, rfl, rfl, by decide +kernel, rfl, by decide +kernel, by decide +kernel⟩
theorem ok_law_k51 {f : Addr} {fd : FuncData} (F : Fun K "law" "law" s_law_k51 f fd) (b_int : mg "int" = none) (b_isinstance : mg "isinstance" = none) (b_len : mg "len" = none) (b_range : mg "range" = none) (b_repr : mg "repr" = none) (b_str : mg "str" = none) (c_law_deck_v2 : Cal P w K mg base ⟨K, cl, fc, P, w⟩ "_law_deck" 1 fn_law_deck_v2) (c_law_grant : Cal P w K mg base ⟨K, cl, fc, P, w⟩ "_law_grant" 3 fn_law_grant) (c_law_grant_text : Cal P w K mg base ⟨K, cl, fc, P, w⟩ "_law_grant_text" 2 fn_law_grant_text) (c_law_odd_v2 : Cal P w K mg base ⟨K, cl, fc, P, w⟩ "_law_odd" 3 fn_law_odd_v2) (c_law_pick : Cal P w K mg base ⟨K, cl, fc, P, w⟩ "_law_pick" 2 fn_law_pick) (c_law_read_grantx : Cal P w K mg base ⟨K, cl, fc, P, w⟩ "_law_read_grant" 2 fn_law_read_grantx) (c_law_take_v2 : Cal P w K mg base ⟨K, cl, fc, P, w⟩ "_law_take" 1 fn_law_take_v2) (c_law_told_v8 : Cal P w K mg base ⟨K, cl, fc, P, w⟩ "_law_told" 7 fn_law_told_v8) (c_law_torn : Cal P w K mg base ⟨K, cl, fc, P, w⟩ "_law_torn" 3 fn_law_torn) (c_law_words : Cal P w K mg base ⟨K, cl, fc, P, w⟩ "_law_words" 1 fn_law_words) (hsm : smB K = true) :
    FnG P w K mg base (L2.CX P w) 8 f fd ["_law_script"] (spF ⟨K, cl, fc, P, w⟩ fn_law_k51) := by
  refine fnG_ok (N := N_law_k51) (ms := ms_law_k51) F sc_law_k51 rfl fun cdv A outer s H E hgd hr => ?_
  exact (ds_cons wi_E (ds_set (i := 1) sc_law_k51.nd rfl (Or.inl rfl) (de_fn c_law_deck_v2 hr (by decide) (takes_of rfl rfl rfl rfl) (da_cons (de_var (pv 0)) da_nil)))
    (ds_cons wi_E (ds_for wi_E (passes_of rfl) rfl tg_name (di_rg1 b_range (da_cons de_int da_nil)) (pg_name (i := 2) sc_law_k51.nd rfl (Or.inl rfl))
    (ds_cons wi_E (ds_set (i := 3) sc_law_k51.nd rfl (Or.inl rfl) (de_fn c_law_grant_text hr (by decide) (takes_of rfl rfl rfl rfl) (da_cons (de_fn c_law_grant hr (by decide) (takes_of rfl rfl rfl rfl) (da_cons (de_var (pv 1)) (da_cons de_int (da_cons de_int da_nil)))) da_nil)))
    (ds_cons wi_E (ds_set (i := 4) sc_law_k51.nd rfl (Or.inl rfl) (de_bms PySem.F.slot_str_split PySem.F.type_str_split mt_split opm_split (de_var (pv 3)) (da_cons de_str da_nil)))
    (ds_cons wi_E (ds_set (i := 5) sc_law_k51.nd rfl (Or.inl rfl) (de_fn c_law_take_v2 hr (by decide) (takes_of rfl rfl rfl rfl) (da_cons (de_var (pv 1)) (da_cons (de_callB call_lenU opn_len b_len PySem.boot_len (da_cons (de_var (pv 4)) da_nil)) da_nil))))
    (ds_cons wi_E (ds_set (i := 6) sc_law_k51.nd rfl (Or.inl rfl) (de_fn c_law_pick hr (by decide) (takes_of rfl rfl rfl rfl) (da_cons (de_var (pv 1)) (da_cons (de_lst (da_cons de_str (da_cons de_str (da_cons de_str (da_cons de_str (da_cons de_str (da_cons de_str (da_cons de_str (da_cons de_str (da_cons de_str (da_cons de_str (da_cons de_str (da_cons de_str (da_cons de_str (da_cons de_str (da_cons de_str da_nil)))))))))))))))) da_nil))))
    (ds_cons wi_E (ds_set (i := 7) sc_law_k51.nd rfl (Or.inl rfl) (de_lst (da_cons (de_var (pv 3)) (da_cons (de_fn c_law_torn hr (by decide) (takes_of rfl rfl rfl rfl) (da_cons (de_var (pv 1)) (da_cons (de_var (pv 3)) da_nil))) (da_cons (de_fn c_law_torn hr (by decide) (takes_of rfl rfl rfl rfl) (da_cons (de_var (pv 1)) (da_cons (de_fn c_law_torn hr (by decide) (takes_of rfl rfl rfl rfl) (da_cons (de_var (pv 1)) (da_cons (de_var (pv 3)) da_nil))) da_nil))) (da_cons (de_bms PySem.F.slot_str_join PySem.F.type_str_join mt_join opm_join de_str (da_cons (de_slice (he := (de_var (pv 4))) (hl := do_none) (hu := (do_some (de_var (pv 5))))) da_nil)) da_nil))))))
    (ds_cons wi_E (ds_set (i := 7) sc_law_k51.nd rfl (Or.inl rfl) (de_op op_addU op2_add (de_var (pv 7)) (de_lst (da_cons (de_bms PySem.F.slot_str_join PySem.F.type_str_join mt_join opm_join de_str (da_cons (de_op op_addU op2_add (de_op op_addU op2_add (de_slice (he := (de_var (pv 4))) (hl := do_none) (hu := (do_some (de_var (pv 5))))) (de_lst (da_cons (de_var (pv 6)) da_nil))) (de_slice (he := (de_var (pv 4))) (hl := (do_some (de_var (pv 5)))) (hu := do_none))) da_nil)) (da_cons (de_bms PySem.F.slot_str_join PySem.F.type_str_join mt_join opm_join de_str (da_cons (de_op op_addU op2_add (de_op op_addU op2_add (de_slice (he := (de_var (pv 4))) (hl := do_none) (hu := (do_some (de_var (pv 5))))) (de_lst (da_cons (de_var (pv 6)) da_nil))) (de_slice (he := (de_var (pv 4))) (hl := (do_some (de_op op_addU op2_add (de_var (pv 5)) de_int))) (hu := do_none))) da_nil)) (da_cons (de_op op_addU op2_add (de_op op_addU op2_add (de_var (pv 3)) de_str) (de_var (pv 6))) da_nil))))))
    (ds_cons wi_E (ds_set (i := 8) sc_law_k51.nd rfl (Or.inl rfl) (de_lst (da_cons (de_op op_addU op2_add (de_var (pv 3)) (de_op op_mulS op2_mulS de_str de_int)) (da_cons (de_op op_addU op2_add (de_op op_addU op2_add (de_var (pv 3)) (de_op op_mulS op2_mulS de_str de_int)) de_str) (da_cons (de_op op_addU op2_add de_str (de_op op_mulS op2_mulS de_str de_int)) (da_cons (de_op op_addU op2_add de_str (de_op op_mulS op2_mulS de_str de_int)) (da_cons (de_op op_mulS op2_mulS de_str de_int) da_nil)))))))
    (ds_cons wi_E (ds_for wi_E (passes_of rfl) rfl tg_name (di_seq (hl := (de_op op_addU op2_add (de_op op_addU op2_add (de_var (pv 7)) (de_var (pv 8))) (de_lst (da_cons de_str (da_cons de_str (da_cons de_str (da_cons de_str (da_cons de_str (da_cons de_str da_nil)))))))))) (pg_name (i := 9) sc_law_k51.nd rfl (Or.inl rfl))
    (ds_cons wi_E (ds_set (i := 10) sc_law_k51.nd rfl (Or.inl rfl) (de_fn c_law_read_grantx hr (by decide) (takes_of rfl rfl rfl rfl) (da_cons (de_fn c_law_words hr (by decide) (takes_of rfl rfl rfl rfl) (da_cons (de_var (pv 9)) da_nil)) da_nil)))
    (ds_cons wi_E (ds_set (i := 11) sc_law_k51.nd rfl (Or.inl rfl) (de_if (dt_val (de_callB call_isi opn_isi b_isinstance (by decide +kernel) (da_cons (de_var (pv 10)) (da_cons (de_ty b_int (by decide +kernel)) da_nil)))) (de_lst (da_cons de_str (da_cons de_int (da_cons (de_var (pv 10)) da_nil)))) (de_lst (da_cons de_str (da_cons (de_var (pv 10)) da_nil)))))
    (ds_one (ds_if (dt_cmp (op_neU (hu64 hr)) op2_ne (de_callB (call_reprZ hsm hgd (hu66 hr)) opn_reprZ b_repr (by decide +kernel) (da_cons (de_lst (da_cons (de_fn c_law_told_v8 hr (by decide) (takes_of rfl rfl rfl rfl) (da_cons (de_var (pv 9)) da_nil)) (da_cons (de_fn c_law_told_v8 hr (by decide) (takes_of rfl rfl rfl rfl) (da_cons (de_var (pv 9)) da_nil)) da_nil))) da_nil)) (de_callB (call_reprZ hsm hgd (hu66 hr)) opn_reprZ b_repr (by decide +kernel) (da_cons (de_lst (da_cons (de_var (pv 11)) (da_cons (de_var (pv 11)) da_nil))) da_nil)) (nomark _)) (ds_one (ds_ret de_bl)) ds_nil)))))
    (ds_one (ds_for wi_E (passes_of rfl) rfl tg_name (di_seq (hl := (de_lst (da_cons de_non (da_cons de_int (da_cons de_bl (da_cons (de_var (pv 4)) (da_cons (de_tup (da_cons (de_var (pv 3)) da_nil)) (da_cons (de_fn c_law_odd_v2 hr (by decide) (takes_of rfl rfl rfl rfl) (da_cons (de_var (pv 1)) da_nil)) da_nil))))))))) (pg_name (i := 9) sc_law_k51.nd rfl (Or.inl rfl))
    (ds_one (ds_if (PW.pt (dw_and (dt_not (dt_val (de_callB call_isi opn_isi b_isinstance (by decide +kernel) (da_cons (de_var (pv 9)) (da_cons (de_ty b_str (by decide +kernel)) da_nil))))) (dw_and1 (dt_cmp (op_neU (hu64 hr)) op2_ne (de_callB (call_reprZ hsm hgd (hu66 hr)) opn_reprZ b_repr (by decide +kernel) (da_cons (de_fn c_law_told_v8 hr (by decide) (takes_of rfl rfl rfl rfl) (da_cons (de_var (pv 9)) da_nil)) da_nil)) (de_callB (call_reprZ hsm hgd (hu66 hr)) opn_reprZ b_repr (by decide +kernel) (da_cons (de_lst (da_cons de_str (da_cons de_non (da_cons de_non da_nil)))) da_nil)) (nomark _))))) (ds_one (ds_ret de_bl)) ds_nil)))))))))))))
    (ds_one (ds_ret de_bl))))
end
theorem facts {P : Program} {w : World} {K : PySem.W.Frag} {h : Heap} {mg : Str → Option Value} {f : Addr} (X : K.In h) (Gm : h.Ns mainGlobals mg) (hfa : mg ("law" : Str) = some (.ref f)) (c : SaysP fal fnl gel (fun K => exAll K exl) K) :
    ∃ (fd : FuncData) (sp : Sp), (∀ (s : Shared) (u : Value), BindsTo s fd ⟨[u], []⟩ [("_law_script", u)]) ∧ (∀ (H : Hp) (a : Addr) (ns : List Int), ns.length ≤ 63 → L2.Only H → SqL K H a (ns.map V.int) → sp [.ref a] H (fun v _ => v = .bl true) fun _ _ _ => False) ∧
      ∀ base : Heap, K.In base → base.Ns mainGlobals mg → FnG P w K mg base (L2.CX P w) 8 f fd ["_law_script"] sp := by
  have D := c.d
  obtain ⟨fd_words_of, F_words_of⟩ := D.def_ 0 (d := d_words_of) rfl
  obtain ⟨fd_numbers_in, F_numbers_in⟩ := D.def_ 1 (d := d_numbers_in) rfl
  obtain ⟨fd_check_words, F_check_words⟩ := D.def_ 2 (d := d_check_words) rfl
  obtain ⟨fd_body_in, F_body_in⟩ := D.def_ 3 (d := d_body_in) rfl
  obtain ⟨fd_grant_in, F_grant_in⟩ := D.def_ 4 (d := d_grant_in) rfl
  obtain ⟨fd_read_grant, F_read_grant⟩ := D.def_ 5 (d := d_read_grant) rfl
  obtain ⟨fd_law_deck_v2, F_law_deck_v2⟩ := D.def_ 6 (d := d_law_deck_v2) rfl
  obtain ⟨fd_law_take_v2, F_law_take_v2⟩ := D.def_ 7 (d := d_law_take_v2) rfl
  obtain ⟨fd_law_pick, F_law_pick⟩ := D.def_ 8 (d := d_law_pick) rfl
  obtain ⟨fd_law_odd_v2, F_law_odd_v2⟩ := D.def_ 9 (d := d_law_odd_v2) rfl
  obtain ⟨fd_law_role_v2, F_law_role_v2⟩ := D.def_ 10 (d := d_law_role_v2) rfl
  obtain ⟨fd_law_grant, F_law_grant⟩ := D.def_ 11 (d := d_law_grant) rfl
  obtain ⟨fd_law_role_text, F_law_role_text⟩ := D.def_ 12 (d := d_law_role_text) rfl
  obtain ⟨fd_law_grant_text, F_law_grant_text⟩ := D.def_ 13 (d := d_law_grant_text) rfl
  obtain ⟨fd_law_numbersx, F_law_numbersx⟩ := D.def_ 14 (d := d_law_numbersx) rfl
  obtain ⟨fd_law_read_grantx, F_law_read_grantx⟩ := D.def_ 15 (d := d_law_read_grantx) rfl
  obtain ⟨fd_law_words, F_law_words⟩ := D.def_ 16 (d := d_law_words) rfl
  obtain ⟨fd_law_torn, F_law_torn⟩ := D.def_ 17 (d := d_law_torn) rfl
  obtain ⟨fd_law_told_v8, F_law_told_v8⟩ := D.def_ 18 (d := d_law_told_v8) rfl
  obtain ⟨fd_law_k51, F_law_k51⟩ := D.def_ 19 (d := d_law_k51) rfl
  have B_words_of := F_words_of.bindsN (ps := ["text"]) fun _ _ _ _ _ _ us hl => match us, hl with | [_], _ => rfl
  have B_numbers_in := F_numbers_in.bindsN (ps := ["word", "many"]) fun _ _ _ _ _ _ us hl => match us, hl with | [_, _], _ => rfl
  have B_check_words := F_check_words.bindsN (ps := ["words", "line", "number", "many"]) fun _ _ _ _ _ _ us hl => match us, hl with | [_, _, _, _], _ => rfl
  have B_body_in := F_body_in.bindsN (ps := ["words", "line"]) fun _ _ _ _ _ _ us hl => match us, hl with | [_, _], _ => rfl
  have B_grant_in := F_grant_in.bindsN (ps := ["words", "line"]) fun _ _ _ _ _ _ us hl => match us, hl with | [_, _], _ => rfl
  have B_read_grant := F_read_grant.bindsN (ps := ["value"]) fun _ _ _ _ _ _ us hl => match us, hl with | [_], _ => rfl
  have B_law_deck_v2 := F_law_deck_v2.bindsN (ps := ["_law_script"]) fun _ _ _ _ _ _ us hl => match us, hl with | [_], _ => rfl
  have B_law_take_v2 := F_law_take_v2.bindsN (ps := ["_law_deck_here", "_law_many"]) fun _ _ _ _ _ _ us hl => match us, hl with | [_, _], _ => rfl
  have B_law_pick := F_law_pick.bindsN (ps := ["_law_deck_here", "_law_some"]) fun _ _ _ _ _ _ us hl => match us, hl with | [_, _], _ => rfl
  have B_law_odd_v2 := F_law_odd_v2.bindsN (ps := ["_law_deck_here"]) fun _ _ _ _ _ _ us hl => match us, hl with | [_], _ => rfl
  have B_law_role_v2 := F_law_role_v2.bindsN (ps := ["_law_deck_here", "_law_owners", "_law_labels"]) fun _ _ _ _ _ _ us hl => match us, hl with | [_, _, _], _ => rfl
  have B_law_grant := F_law_grant.bindsN (ps := ["_law_deck_here", "_law_owners", "_law_labels"]) fun _ _ _ _ _ _ us hl => match us, hl with | [_, _, _], _ => rfl
  have B_law_role_text := F_law_role_text.bindsN (ps := ["_law_role_here"]) fun _ _ _ _ _ _ us hl => match us, hl with | [_], _ => rfl
  have B_law_grant_text := F_law_grant_text.bindsN (ps := ["_law_value"]) fun _ _ _ _ _ _ us hl => match us, hl with | [_], _ => rfl
  have B_law_numbersx := F_law_numbersx.bindsN (ps := ["_law_word", "_law_many"]) fun _ _ _ _ _ _ us hl => match us, hl with | [_, _], _ => rfl
  have B_law_read_grantx := F_law_read_grantx.bindsN (ps := ["_law_words_here"]) fun _ _ _ _ _ _ us hl => match us, hl with | [_], _ => rfl
  have B_law_words := F_law_words.bindsN (ps := ["_law_text"]) fun _ _ _ _ _ _ us hl => match us, hl with | [_], _ => rfl
  have B_law_torn := F_law_torn.bindsN (ps := ["_law_deck_here", "_law_text"]) fun _ _ _ _ _ _ us hl => match us, hl with | [_, _], _ => rfl
  have B_law_told_v8 := F_law_told_v8.bindsN (ps := ["_law_value"]) fun _ _ _ _ _ _ us hl => match us, hl with | [_], _ => rfl
  have B_law_k51 := F_law_k51.bindsA (ps := ["_law_script"]) fun _ _ _ _ _ _ us hl => match us, hl with | [_], _ => rfl
  have G_words_of := He.glo_ok X Gm (D.fact 0 (f := .glo "words_of") rfl)
  have G_numbers_in := He.glo_ok X Gm (D.fact 1 (f := .glo "numbers_in") rfl)
  have G_check_words := He.glo_ok X Gm (D.fact 2 (f := .glo "check_words") rfl)
  have G_body_in := He.glo_ok X Gm (D.fact 3 (f := .glo "body_in") rfl)
  have G_grant_in := He.glo_ok X Gm (D.fact 4 (f := .glo "grant_in") rfl)
  have G_read_grant := He.glo_ok X Gm (D.fact 5 (f := .glo "read_grant") rfl)
  have G_law_deck_v2 := He.glo_ok X Gm (D.fact 6 (f := .glo "_law_deck") rfl)
  have G_law_take_v2 := He.glo_ok X Gm (D.fact 7 (f := .glo "_law_take") rfl)
  have G_law_pick := He.glo_ok X Gm (D.fact 8 (f := .glo "_law_pick") rfl)
  have G_law_odd_v2 := He.glo_ok X Gm (D.fact 9 (f := .glo "_law_odd") rfl)
  have G_law_role_v2 := He.glo_ok X Gm (D.fact 10 (f := .glo "_law_role") rfl)
  have G_law_grant := He.glo_ok X Gm (D.fact 11 (f := .glo "_law_grant") rfl)
  have G_law_role_text := He.glo_ok X Gm (D.fact 12 (f := .glo "_law_role_text") rfl)
  have G_law_grant_text := He.glo_ok X Gm (D.fact 13 (f := .glo "_law_grant_text") rfl)
  have G_law_numbersx := He.glo_ok X Gm (D.fact 14 (f := .glo "_law_numbers") rfl)
  have G_law_read_grantx := He.glo_ok X Gm (D.fact 15 (f := .glo "_law_read_grant") rfl)
  have G_law_words := He.glo_ok X Gm (D.fact 16 (f := .glo "_law_words") rfl)
  have G_law_torn := He.glo_ok X Gm (D.fact 17 (f := .glo "_law_torn") rfl)
  have G_law_told_v8 := He.glo_ok X Gm (D.fact 18 (f := .glo "_law_told") rfl)
  have G_law_k51 := He.glo_ok X Gm (D.fact 19 (f := .glo "law") rfl)
  have b_abs := He.free_ok X Gm (D.fact 20 (f := .free "abs") rfl)
  have b_all := He.free_ok X Gm (D.fact 21 (f := .free "all") rfl)
  have b_enumerate := He.free_ok X Gm (D.fact 22 (f := .free "enumerate") rfl)
  have b_int := He.free_ok X Gm (D.fact 23 (f := .free "int") rfl)
  have b_isinstance := He.free_ok X Gm (D.fact 24 (f := .free "isinstance") rfl)
  have b_len := He.free_ok X Gm (D.fact 25 (f := .free "len") rfl)
  have b_max := He.free_ok X Gm (D.fact 26 (f := .free "max") rfl)
  have b_min := He.free_ok X Gm (D.fact 27 (f := .free "min") rfl)
  have b_range := He.free_ok X Gm (D.fact 28 (f := .free "range") rfl)
  have b_repr := He.free_ok X Gm (D.fact 29 (f := .free "repr") rfl)
  have b_str := He.free_ok X Gm (D.fact 30 (f := .free "str") rfl)
  have b_tuple := He.free_ok X Gm (D.fact 31 (f := .free "tuple") rfl)
  obtain ⟨fd_BadText_init, F_BadText_init⟩ := D.def_ 20 (d := d_BadText_init) rfl
  have B_BadText_init := F_BadText_init.bindsN (ps := ["self", "line", "number"]) fun _ _ _ _ _ _ us hl => match us, hl with | [_, _, _], _ => rfl
  have I_BadText := iniB_ok (x := "BadText") (ex_0 c.more)
  have e := hfa.symm.trans G_law_k51
  cases e
  refine ⟨fd_law_k51, spF ⟨K, clA K, fun _ => 0, P, w⟩ fn_law_k51, fun s v => B_law_k51 s [v] rfl, fun H a ns hl hO hS => law_sp rfl hO hS (Q.k51_main ns hl), fun base _ _ => ?_⟩
  have e_BadText : CalE2 P w K mg base ⟨K, clA K, fun _ => 0, P, w⟩ "BadText" 15 1 "line" "number" := ⟨_, _, _, ok_BadText_init (toFun F_BadText_init) I_BadText.1 (He.noat_ok (D.fact 33 (f := .noat "BadText" "line") rfl)) (He.noat_ok (D.fact 34 (f := .noat "BadText" "number") rfl)), I_BadText.1, I_BadText.2.1, I_BadText.2.2, B_BadText_init, He.glo_ok X Gm (D.fact 32 (f := .glo "BadText") rfl)⟩
  have g_FIGURES := He.str_ok X Gm (D.fact 35 (f := .str "FIGURES" "0123456789") rfl)
  have g_MOST_WORDS := He.int_ok X Gm (D.fact 36 (f := .int "MOST_WORDS" 99999) rfl)
  have hsm : smB K = true := ex_1 c.more
  have tr_15_15 : ∀ c ∈ [15], PySem.W.exmOne K (.ref (clA K c)) (.ref (clA K 15)) = some (isSub c 15) := fun k hk => by
    rcases List.mem_cons.mp hk with e | hk
    · subst e
      exact PySem.W.exm_ref (xcB_ok (ex_2 c.more)).f.exC (xcB_ok (ex_2 c.more)).f.hdC (xcB_ok (ex_2 c.more)).ty (of_decide_eq_true (ex_3 c.more))
    exact absurd hk List.not_mem_nil
  have x_BadText : mg "BadText" = some (.ref (clA K 15)) := He.glo_ok X Gm (D.fact 32 (f := .glo "BadText") rfl)
  have xf_line_15_15 : ∀ c ∈ (List.filter (fun c => isSub c 15) [15]), Xc K (clA K c) ∧ PySem.W.findIn K (.ref (clA K c)) "line" = some none := fun k hk => by
    replace hk : k ∈ ([15] : List Nat) := hk
    rcases List.mem_cons.mp hk with e | hk
    · subst e
      exact ⟨xcB_ok (ex_2 c.more), of_decide_eq_true (ex_4 c.more)⟩
    exact absurd hk List.not_mem_nil
  have xf_number_15_15 : ∀ c ∈ (List.filter (fun c => isSub c 15) [15]), Xc K (clA K c) ∧ PySem.W.findIn K (.ref (clA K c)) "number" = some none := fun k hk => by
    replace hk : k ∈ ([15] : List Nat) := hk
    rcases List.mem_cons.mp hk with e | hk
    · subst e
      exact ⟨xcB_ok (ex_2 c.more), of_decide_eq_true (ex_5 c.more)⟩
    exact absurd hk List.not_mem_nil
  have c_words_of : Cal P w K mg base ⟨K, clA K, fun _ => 0, P, w⟩ "words_of" 1 fn_words_of := ⟨_, _, _, ok_words_of (toFun F_words_of) , G_words_of, F_words_of.kp, B_words_of⟩
  have c_numbers_in : Cal P w K mg base ⟨K, clA K, fun _ => 0, P, w⟩ "numbers_in" 1 fn_numbers_in := ⟨_, _, _, ok_numbers_in (toFun F_numbers_in) b_all b_int b_len b_tuple g_FIGURES, G_numbers_in, F_numbers_in.kp, B_numbers_in⟩
  have c_check_words : Cal P w K mg base ⟨K, clA K, fun _ => 0, P, w⟩ "check_words" 3 fn_check_words := ⟨_, _, _, ok_check_words (toFun F_check_words) b_len b_min e_BadText, G_check_words, F_check_words.kp, B_check_words⟩
  have c_body_in : Cal P w K mg base ⟨K, clA K, fun _ => 0, P, w⟩ "body_in" 4 fn_body_in := ⟨_, _, _, ok_body_in (toFun F_body_in) b_len c_check_words c_numbers_in e_BadText g_MOST_WORDS, G_body_in, F_body_in.kp, B_body_in⟩
  have c_grant_in : Cal P w K mg base ⟨K, clA K, fun _ => 0, P, w⟩ "grant_in" 5 fn_grant_in := ⟨_, _, _, ok_grant_in (toFun F_grant_in) c_body_in c_check_words c_numbers_in e_BadText g_MOST_WORDS, G_grant_in, F_grant_in.kp, B_grant_in⟩
  have c_read_grant : Cal P w K mg base ⟨K, clA K, fun _ => 0, P, w⟩ "read_grant" 6 fn_read_grant := ⟨_, _, _, ok_read_grant (toFun F_read_grant) b_isinstance b_str c_grant_in c_words_of e_BadText, G_read_grant, F_read_grant.kp, B_read_grant⟩
  have c_law_deck_v2 : Cal P w K mg base ⟨K, clA K, fun _ => 0, P, w⟩ "_law_deck" 1 fn_law_deck_v2 := ⟨_, _, _, ok_law_deck_v2 (toFun F_law_deck_v2) b_abs b_int b_len, G_law_deck_v2, F_law_deck_v2.kp, B_law_deck_v2⟩
  have c_law_take_v2 : Cal P w K mg base ⟨K, clA K, fun _ => 0, P, w⟩ "_law_take" 1 fn_law_take_v2 := ⟨_, _, _, ok_law_take_v2 (toFun F_law_take_v2) b_int, G_law_take_v2, F_law_take_v2.kp, B_law_take_v2⟩
  have c_law_pick : Cal P w K mg base ⟨K, clA K, fun _ => 0, P, w⟩ "_law_pick" 2 fn_law_pick := ⟨_, _, _, ok_law_pick (toFun F_law_pick) b_len c_law_take_v2, G_law_pick, F_law_pick.kp, B_law_pick⟩
  have c_law_odd_v2 : Cal P w K mg base ⟨K, clA K, fun _ => 0, P, w⟩ "_law_odd" 3 fn_law_odd_v2 := ⟨_, _, _, ok_law_odd_v2 (toFun F_law_odd_v2) c_law_pick, G_law_odd_v2, F_law_odd_v2.kp, B_law_odd_v2⟩
  have c_law_role_v2 : Cal P w K mg base ⟨K, clA K, fun _ => 0, P, w⟩ "_law_role" 2 fn_law_role_v2 := ⟨_, _, _, ok_law_role_v2 (toFun F_law_role_v2) c_law_take_v2, G_law_role_v2, F_law_role_v2.kp, B_law_role_v2⟩
  have c_law_grant : Cal P w K mg base ⟨K, clA K, fun _ => 0, P, w⟩ "_law_grant" 3 fn_law_grant := ⟨_, _, _, ok_law_grant (toFun F_law_grant) b_max b_min c_law_role_v2 c_law_take_v2, G_law_grant, F_law_grant.kp, B_law_grant⟩
  have c_law_role_text : Cal P w K mg base ⟨K, clA K, fun _ => 0, P, w⟩ "_law_role_text" 1 fn_law_role_text := ⟨_, _, _, ok_law_role_text (toFun F_law_role_text) b_str, G_law_role_text, F_law_role_text.kp, B_law_role_text⟩
  have c_law_grant_text : Cal P w K mg base ⟨K, clA K, fun _ => 0, P, w⟩ "_law_grant_text" 2 fn_law_grant_text := ⟨_, _, _, ok_law_grant_text (toFun F_law_grant_text) b_str c_law_role_text, G_law_grant_text, F_law_grant_text.kp, B_law_grant_text⟩
  have c_law_numbersx : Cal P w K mg base ⟨K, clA K, fun _ => 0, P, w⟩ "_law_numbers" 1 fn_law_numbersx := ⟨_, _, _, ok_law_numbersx (toFun F_law_numbersx) b_enumerate b_int b_len b_range b_tuple, G_law_numbersx, F_law_numbersx.kp, B_law_numbersx⟩
  have c_law_read_grantx : Cal P w K mg base ⟨K, clA K, fun _ => 0, P, w⟩ "_law_read_grant" 2 fn_law_read_grantx := ⟨_, _, _, ok_law_read_grantx (toFun F_law_read_grantx) b_len c_law_numbersx, G_law_read_grantx, F_law_read_grantx.kp, B_law_read_grantx⟩
  have c_law_words : Cal P w K mg base ⟨K, clA K, fun _ => 0, P, w⟩ "_law_words" 1 fn_law_words := ⟨_, _, _, ok_law_words (toFun F_law_words) , G_law_words, F_law_words.kp, B_law_words⟩
  have c_law_torn : Cal P w K mg base ⟨K, clA K, fun _ => 0, P, w⟩ "_law_torn" 3 fn_law_torn := ⟨_, _, _, ok_law_torn (toFun F_law_torn) b_len c_law_pick c_law_take_v2, G_law_torn, F_law_torn.kp, B_law_torn⟩
  have c_law_told_v8 : Cal P w K mg base ⟨K, clA K, fun _ => 0, P, w⟩ "_law_told" 7 fn_law_told_v8 := ⟨_, _, _, ok_law_told_v8 (toFun F_law_told_v8) c_read_grant tr_15_15 x_BadText xf_line_15_15 xf_number_15_15, G_law_told_v8, F_law_told_v8.kp, B_law_told_v8⟩
  exact ok_law_k51 (toFun F_law_k51) b_int b_isinstance b_len b_range b_repr b_str c_law_deck_v2 c_law_grant c_law_grant_text c_law_odd_v2 c_law_pick c_law_read_grantx c_law_take_v2 c_law_told_v8 c_law_torn c_law_words hsm
end T51
open PySem PySem.W PySem.Calls PyProof.Rows
theorem PySem.Challenge.cw_grantsgrow_k51_texts_of_no_grants_holds : PySem.Challenge.rw_grantsgrow_k51_texts_of_no_grants.Holds := by
  w_on; o_law
  refine HandSHeadRun.head_any (r := OpenLaw.row PySem.Challenge.rw_grantsgrow_k51_texts_of_no_grants) (q := view (OpenLaw.row PySem.Challenge.rw_grantsgrow_k51_texts_of_no_grants).prog [26]) (H := T51.hk) (ob := T51.ob) (M := 40000) (loose := T51.loose) (d := HandSHeadRun.topDef (OpenLaw.row PySem.Challenge.rw_grantsgrow_k51_texts_of_no_grants).prog 26) (kwd := []) T51.ob_eq
    (by kernel_rfl) (fun s => by kernel_rfl) T51.run (by kernel_rfl) (by kernel_rfl) (by kernel_rfl) (by rfl) (by first | assumption | decide +kernel) (by decide +kernel) ⟨rfl, rfl, rfl, rfl, rfl, by decide +kernel⟩ ?hw ?hc
  case hw => w_witness2
  case hc =>
    refine G.walkG (l := PySem.Challenge.rw_grantsgrow_k51_texts_of_no_grants) (n := 63) (k := 8) (x := "_law_script") (CX := fun w => L2.CX (PySem.Challenge.rw_grantsgrow_k51_texts_of_no_grants).prog w) rfl (by decide) (by kernel_rfl) ⟨rfl, by decide, by decide⟩ ?F (fun w H s e s' z => G.noCX z)
    intro w mg fa h Y Gm hmg0
    obtain ⟨K, KX, c⟩ := Y
    have hmg : mg ("law" : PySem.Str) = some (.ref fa) := by
      have e : (HandSHeadRun.topDef (OpenLaw.row PySem.Challenge.rw_grantsgrow_k51_texts_of_no_grants).prog 26).name = ("law" : PySem.Str) := by kernel_rfl
      rw [← e]
      exact hmg0
    obtain ⟨fd, sp, hb, hsp, hF⟩ := T51.facts (P := (PySem.Challenge.rw_grantsgrow_k51_texts_of_no_grants).prog) (w := w) KX Gm hmg c
    exact ⟨K, fd, sp, KX, hb, hsp, hF⟩
end
