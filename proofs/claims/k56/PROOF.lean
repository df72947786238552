import PyProof.Rows.All
import Wide.All
import OpenK.AllK
import Wide.FinOn
import HandS.ForMost
import HandS.ForExc
import HandS.ExcInit
import HandS.CallSlots
import HandS.Lambda
import KE.KDictKeyed
import KE.KeyNested
import HandS.Wide
import HandS.TupAny
import HandS.Deep
import HandS.IsInst
import HandS.FStr
import HandS.TupLen
import KE.LtSeq
import KE.DataMinMax
import HandS.RaiseMore
import HandS.ReplaceLit
import HandS.HeadEnd
import HandS.HeadHook4
import HandS.Head2
import HandS.Defaults
import HandS.TupSets
import HandS.SortOrd
import HandS.Property
import HandS.DictEq
import KE.KDictOf
import KE.KDictCopyH
import HandS.Zip
import KE.GoesEnum
import PyProof.FString5
import HandS.DictComp
import HandS.Style
import HandS.SortInts
import HandS.Small
import HandS.OwnIter
import HandS.Conv
import HandS.OwnEq
import HandS.TupMul
import HandS.TryMany
import HandS.ExcField
import KE.KExcIs
import HandS.ExcIs
import HandS.CallLocal
import KE.KDictSum
import HandS.SetBool
import KE.KExcInit
import HandS.ExcValue
import KE.KCallOwn
import HandS.Iter
import HandS.ListEq
import HandS.MakeKw
import HandS.Nested
import HandS.EndTab
import HandS.Finally
import HandS.Text
import PyProof.StrOps2
import PyProof.NeKinds
import HandS.Strs
import PySem.Challenge.RW_grantsgrow_k56_errors_and_bounds
set_option Elab.async false
set_option linter.all false
set_option maxRecDepth 100000
set_option maxHeartbeats 4000000
section
namespace G
open PySem L2
inductive D where
  | non | bl (b : Bool) | int (i : Int) | str (x : Str)
  | tup (xs : List D) | lst (xs : List D) | dic (ks vs : List D) | ins (c : Nat) (ns : List Str) (vs : List D)
  | ref (i : Nat) | fn (i : Nat) | scr (xs : List D) | ktp (xs : List D) | ty (n : String) | cl (c : Nat)
  | lam (f c : Addr) (q : Str) (ds : List D) (us : List V)
  deriving Inhabited
inductive Ob where
  | lst (xs : List D) | dic (ks vs : List D) | ins (c : Nat) (ns : List Str) (vs : List D) | tbl (i : Nat) (q : Str) | ndc (ks vs : List D) | fdc (o : Obj) (u : HO) (ks vs : List D) | exc (c : Nat) (ns : List Str) (vs : List D)
  deriving Inhabited
abbrev Sto := List Ob
structure Bas where
  K : PySem.W.Frag
  cls : Nat → Addr
  fn : Nat → Addr
  P : Program
  w : World
structure Mp where
  mu : Nat → Addr
  n : Nat
  Z : Hp
def Mp.out (m : Mp) (a : Addr) : Prop := ∀ i, i < m.n → m.mu i ≠ a
def KTup (K : PySem.W.Frag) (a : Addr) (vs : List V) : Prop := SqT K (fun _ => none) a vs
def KLst (K : PySem.W.Frag) (a : Addr) (vs : List V) : Prop := SqL K (fun _ => none) a vs
def TupAt (m : Mp) (a : Addr) (vs : List V) : Prop := m.Z a = some (.tup vs) ∧ m.out a
def LstAt (m : Mp) (a : Addr) (vs : List V) : Prop := m.Z a = some (.lst vs) ∧ m.out a
def ScrAt (B : Bas) (m : Mp) (a : Addr) (vs : List V) : Prop := (Rd m.Z a (.lst vs) ∧ m.out a) ∨ KLst B.K a vs
def keyD : D → Option Key
  | .int i => some (.inl i)
  | .str x => some (.inr x)
  | _ => none
def keysD : List D → Option (List Key)
  | [] => some []
  | d :: r => match keyD d, keysD r with
    | some k, some ks => some (k :: ks)
    | _, _ => none
def tkeyD : D → Option (List Key)
  | .tup ds => keysD ds
  | _ => none
def tkeysD : List D → Option (List (List Key))
  | [] => some []
  | d :: r => match tkeyD d, tkeysD r with
    | some k, some ks => some (k :: ks)
    | _, _ => none
def DicAt (o : Option HO) (ks : List D) (vs : List V) : Prop :=
  ks.length = vs.length ∧ ((∃ q, ks ≠ [] ∧ keysD ks = some q ∧ o = some (.dK (q.zip vs))) ∨ ∃ q, tkeysD ks = some q ∧ o = some (.dT (q.zip vs)))
mutual
def Rep (B : Bas) (m : Mp) : D → V → Prop
  | .non, v => v = .non
  | .bl b, v => v = .bl b
  | .int i, v => v = .int i
  | .str x, v => v = .str x
  | .tup ds, v => ∃ a vs, v = .ref a ∧ TupAt m a vs ∧ Reps B m ds vs
  | .lst ds, v => ∃ a vs, v = .ref a ∧ LstAt m a vs ∧ Reps B m ds vs
  | .dic ks ds, v => ∃ a vs, v = .ref a ∧ m.out a ∧ DicAt (m.Z a) ks vs ∧ Reps B m ds vs
  | .ins c ns ds, v => ∃ a dx vs, v = .ref a ∧ m.out a ∧ m.Z a = some (.ins (B.cls c) dx (ns.zip vs)) ∧ ns.length = vs.length ∧ Reps B m ds vs
  | .ref i, v => i < m.n ∧ v = .ref (m.mu i)
  | .fn i, v => v = .ref (B.fn i)
  | .ty n, v => v = .ty n
  | .cl c, v => v = .ref (B.cls c)
  | .scr ds, v => ∃ a vs, v = .ref a ∧ ScrAt B m a vs ∧ Reps B m ds vs
  | .ktp ds, v => ∃ a vs, v = .ref a ∧ KTup B.K a vs ∧ Reps B m ds vs
  | .lam f c q ds us, v => v = .ref f ∧ m.Z c = some (LamX.CodeO c q) ∧ m.out c ∧ Reps B m ds us
def Reps (B : Bas) (m : Mp) : List D → List V → Prop
  | [], vs => vs = []
  | d :: ds, vs => ∃ v r, vs = v :: r ∧ Rep B m d v ∧ Reps B m ds r
end
abbrev NK := NestedKey
mutual
def nkD : D → Option NK
  | .int i => some (.num i)
  | .str x => some (.text x)
  | .tup ds => (nkDs ds).map .tup
  | _ => none
def nkDs : List D → Option (List NK)
  | [] => some []
  | d :: r => match nkD d, nkDs r with
    | some k, some ks => some (k :: ks)
    | _, _ => none
end
def trip (qs : List (NK × Addr)) (us : List Value) : List (NK × Addr × Value) := (qs.zip us).map fun z => (z.1.1, z.1.2, z.2)
def ndO (P : Program) (w : World) (a : Addr) (qs : List (NK × Addr)) (vs : List V) : HO := .ext fun h => vs.length ≤ sizeLine ∧ (a == sysModules) = false ∧ ∃ us : List Value, Vals vs us ∧ qs.length = us.length ∧
  ∃ o es ep, h.get? a = some o ∧ o.ExactDict ∧ o.data = .dict es ep ∧ es.toList = (trip qs us).map (entryOfKey (nestedKind P w)) ∧ (qs.map (·.1)).Nodup
def NdAt (B : Bas) (a : Addr) (o : Option HO) (qs : List (NK × Addr)) (vs : List V) : Prop := (qs = [] ∧ vs = [] ∧ o = some (.dT [])) ∨ ((∀ q ∈ qs, q.1.depth ≤ 8) ∧ o = some (ndO B.P B.w a qs vs))
theorem NdAt.some {B : Bas} {a : Addr} {o : Option HO} {qs : List (NK × Addr)} {vs : List V} (h : NdAt B a o qs vs) : ∃ u, o = some u := by
  rcases h with ⟨_, _, e⟩ | ⟨_, e⟩
  · exact ⟨_, e⟩
  · exact ⟨_, e⟩
def ObR (B : Bas) (m : Mp) (a : Addr) : Ob → Prop
  | .tbl i q => a = B.fn i ∧ ∃ ps : Array Value, m.Z a = some (.tbl ps) ∧ TriplesOk ps.toList ∧ ∀ (pos : Pos) (cv : Value), codeAmong pos ps.toList = some cv → ∃ c, cv = .ref c ∧ m.Z c = some (LamX.CodeO c q) ∧ m.out c
  | .ndc ks ds => ∃ (qs : List (NK × Addr)) (vs : List V), NdAt B a (m.Z a) qs vs ∧ nkDs ks = some (qs.map (·.1)) ∧ Reps B m ks (qs.map fun q => V.ref q.2) ∧ Reps B m ds vs
  | .lst ds => ∃ vs, m.Z a = some (.lst vs) ∧ Reps B m ds vs
  | .dic ks ds => ∃ vs, DicAt (m.Z a) ks vs ∧ Reps B m ds vs
  | .fdc o u ks ds => m.Z a = some (.frz o u) ∧ ∃ vs, DicAt (some u) ks vs ∧ Reps B m ds vs
  | .ins c ns ds => ∃ dx vs, m.Z a = some (.ins (B.cls c) dx (ns.zip vs)) ∧ ns.length = vs.length ∧ Reps B m ds vs
  | .exc c ns ds => ∃ vs, ns.length = vs.length ∧ Reps B m ds vs ∧ ((ns = [] ∧ m.Z a = some (exo a (B.cls c) none)) ∨ ∃ dx, m.Z a = some (exo a (B.cls c) (some dx)) ∧ m.Z dx = some (exd dx (ns.zip vs)) ∧ m.out dx)
structure Cor (B : Bas) (m : Mp) (S : Sto) : Prop where
  n : m.n = S.length
  ob : ∀ i o, S[i]? = some o → ObR B m (m.mu i) o
  inj : ∀ i j, i < m.n → j < m.n → m.mu i = m.mu j → i = j
def Sub (m : Mp) (H : Hp) : Prop := ∀ a o, m.Z a = some o → H a = some o
structure Kp (m m' : Mp) : Prop where
  le : m.n ≤ m'.n
  mu : ∀ i, i < m.n → m'.mu i = m.mu i
  keep : ∀ a o, m.Z a = some o → m.out a → m'.Z a = some o ∧ m'.out a
def Tp (o : HO) : Prop := ∃ vs, o = .tup vs
structure Le (m : Mp) (H : Hp) (m' : Mp) (H' : Hp) : Prop extends Kp m m' where
  fr0 : ∀ a o, m.Z a = none → H a = some o → H' a = some o ∧ (m'.Z a = none ∨ (m'.Z a = some o ∧ m'.out a ∧ Tp o))
  sub : Sub m' H'
theorem Le.fr {m m' : Mp} {H H' : Hp} (l : Le m H m' H') (a : Addr) (o : HO) (h1 : m.Z a = none) (h2 : H a = some o) (nt : ¬ Tp o := by rintro ⟨_, e⟩; cases e) : H' a = some o ∧ m'.Z a = none := by
  obtain ⟨p, q | ⟨_, _, q⟩⟩ := l.fr0 a o h1 h2
  · exact ⟨p, q⟩
  · exact absurd q nt
theorem Kp.trans {m m1 m2 : Mp} (a : Kp m m1) (b : Kp m1 m2) : Kp m m2 where
  le := Nat.le_trans a.le b.le
  mu := fun i h => (b.mu i (Nat.lt_of_lt_of_le h a.le)).trans (a.mu i h)
  keep := fun x o h1 h2 => let ⟨p, q⟩ := a.keep x o h1 h2; b.keep x o p q
theorem Kp.refl (m : Mp) : Kp m m := ⟨Nat.le_refl _, fun _ _ => rfl, fun _ _ z o => ⟨z, o⟩⟩
theorem Le.refl {m : Mp} {H : Hp} (h : Sub m H) : Le m H m H := ⟨Kp.refl m, fun _ _ z o => ⟨o, .inl z⟩, h⟩
theorem Le.trans {m m1 m2 : Mp} {H H1 H2 : Hp} (a : Le m H m1 H1) (b : Le m1 H1 m2 H2) : Le m H m2 H2 where
  toKp := a.toKp.trans b.toKp
  fr0 := fun x o h1 h2 => by
    obtain ⟨p, q | ⟨q1, q2, q3⟩⟩ := a.fr0 x o h1 h2
    · exact b.fr0 x o q p
    · obtain ⟨k1, k2⟩ := b.keep x o q1 q2
      exact ⟨b.sub x o k1, .inr ⟨k1, k2, q3⟩⟩
  sub := b.sub
theorem KTup.sq {K : PySem.W.Frag} {H : Hp} {a : Addr} {vs : List V} (h : KTup K a vs) : SqT K H a vs := by
  rcases h with (h | ⟨o, h⟩) | h
  · cases h
  · cases h
  · exact .inr h
theorem KLst.sq {K : PySem.W.Frag} {H : Hp} {a : Addr} {vs : List V} (h : KLst K a vs) : SqL K H a vs := by
  rcases h with (h | ⟨o, h⟩) | h
  · cases h
  · cases h
  · exact .inr h
section
variable {B : Bas} {m m' : Mp} {H H' : Hp}
theorem Rd.sub {Z : Hp} {a : Addr} {u : HO} (s : ∀ o, Z a = some o → H a = some o) (h : Rd Z a u) : Rd H a u := by
  rcases h with h | ⟨o, h⟩
  · exact .inl (s _ h)
  · exact .inr ⟨o, s _ h⟩
theorem TupAt.sq {a : Addr} {vs : List V} (s : Sub m H) (h : TupAt m a vs) : SqT B.K H a vs := .inl (.inl (s a _ h.1))
theorem LstAt.sq {a : Addr} {vs : List V} (s : Sub m H) (h : LstAt m a vs) : SqL B.K H a vs := .inl (.inl (s a _ h.1))
theorem ScrAt.sq {a : Addr} {vs : List V} (s : Sub m H) (h : ScrAt B m a vs) : SqL B.K H a vs := by
  rcases h with ⟨h, _⟩ | h
  · exact .inl (Rd.sub (s a) h)
  · exact h.sq
theorem rd_keep (l : Kp m m') {a : Addr} {u : HO} (h : Rd m.Z a u) (o : m.out a) : Rd m'.Z a u ∧ m'.out a := by
  rcases h with h | ⟨x, h⟩
  · exact ⟨.inl (l.keep _ _ h o).1, (l.keep _ _ h o).2⟩
  · exact ⟨.inr ⟨x, (l.keep _ _ h o).1⟩, (l.keep _ _ h o).2⟩
theorem TupAt.mono (l : Kp m m') {a : Addr} {vs : List V} (h : TupAt m a vs) : TupAt m' a vs := l.keep _ _ h.1 h.2
theorem LstAt.mono (l : Kp m m') {a : Addr} {vs : List V} (h : LstAt m a vs) : LstAt m' a vs := l.keep _ _ h.1 h.2
theorem ScrAt.mono (l : Kp m m') {a : Addr} {vs : List V} (h : ScrAt B m a vs) : ScrAt B m' a vs := by
  rcases h with ⟨h, o⟩ | h
  · exact .inl (rd_keep l h o)
  · exact .inr h
theorem DicAt.some {o : Option HO} {ks : List D} {vs : List V} (h : DicAt o ks vs) : ∃ u, o = some u := by
  rcases h with ⟨_, ⟨q, _, _, e⟩ | ⟨q, _, e⟩⟩
  · exact ⟨_, e⟩
  · exact ⟨_, e⟩
mutual
theorem Rep.monoK (l : Kp m m') : ∀ {d : D} {v : V}, Rep B m d v → Rep B m' d v
  | .non, _, h => by simpa only [Rep] using h
  | .bl _, _, h => by simpa only [Rep] using h
  | .int _, _, h => by simpa only [Rep] using h
  | .str _, _, h => by simpa only [Rep] using h
  | .tup ds, v, h => by
    simp only [Rep] at h ⊢
    obtain ⟨a, vs, e, t, r⟩ := h
    exact ⟨a, vs, e, t.mono l, Reps.monoK l r⟩
  | .lst ds, v, h => by
    simp only [Rep] at h ⊢
    obtain ⟨a, vs, e, t, r⟩ := h
    exact ⟨a, vs, e, t.mono l, Reps.monoK l r⟩
  | .dic ks ds, v, h => by
    simp only [Rep] at h ⊢
    obtain ⟨a, vs, e, o, t, r⟩ := h
    obtain ⟨u, hu⟩ := t.some
    obtain ⟨k1, k2⟩ := l.keep a u hu o
    exact ⟨a, vs, e, k2, by rw [k1, ← hu]; exact t, Reps.monoK l r⟩
  | .ins c ns ds, v, h => by
    simp only [Rep] at h ⊢
    obtain ⟨a, dx, vs, e, o, t, n, r⟩ := h
    obtain ⟨k1, k2⟩ := l.keep a _ t o
    exact ⟨a, dx, vs, e, k2, k1, n, Reps.monoK l r⟩
  | .ref i, v, h => by
    simp only [Rep] at h ⊢
    exact ⟨Nat.lt_of_lt_of_le h.1 l.le, by rw [l.mu i h.1]; exact h.2⟩
  | .fn _, _, h => by simpa only [Rep] using h
  | .ty _, _, h => by simpa only [Rep] using h
  | .cl _, _, h => by simpa only [Rep] using h
  | .scr ds, v, h => by
    simp only [Rep] at h ⊢
    obtain ⟨a, vs, e, t, r⟩ := h
    exact ⟨a, vs, e, t.mono l, Reps.monoK l r⟩
  | .ktp ds, v, h => by
    simp only [Rep] at h ⊢
    obtain ⟨a, vs, e, t, r⟩ := h
    exact ⟨a, vs, e, t, Reps.monoK l r⟩
  | .lam f c q ds us, v, h => by
    simp only [Rep] at h ⊢
    obtain ⟨e, t, o, r⟩ := h
    obtain ⟨k1, k2⟩ := l.keep c _ t o
    exact ⟨e, k1, k2, Reps.monoK l r⟩
theorem Reps.monoK (l : Kp m m') : ∀ {ds : List D} {vs : List V}, Reps B m ds vs → Reps B m' ds vs
  | [], _, h => by simpa only [Reps] using h
  | d :: ds, _, h => by
    simp only [Reps] at h ⊢
    obtain ⟨v, r, e, p, q⟩ := h
    exact ⟨v, r, e, Rep.monoK l p, Reps.monoK l q⟩
end
theorem ObR.monoK (l : Kp m m') {a : Addr} (hz : m'.Z a = m.Z a) {o : Ob} (h : ObR B m a o) : ObR B m' a o := by
  cases o with
  | tbl i q =>
    obtain ⟨ea, ps, e, t, f⟩ := h
    refine ⟨ea, ps, hz.trans e, t, fun pos cv hc => ?_⟩
    obtain ⟨c, e1, e2, e3⟩ := f pos cv hc
    obtain ⟨k1, k2⟩ := l.keep c _ e2 e3
    exact ⟨c, e1, k1, k2⟩
  | ndc ks ds => obtain ⟨qs, vs, e, n, r1, r2⟩ := h; exact ⟨qs, vs, by rw [hz]; exact e, n, r1.monoK l, r2.monoK l⟩
  | lst ds => obtain ⟨vs, e, r⟩ := h; exact ⟨vs, hz.trans e, r.monoK l⟩
  | dic ks ds => obtain ⟨vs, e, r⟩ := h; exact ⟨vs, by rw [hz]; exact e, r.monoK l⟩
  | fdc o u ks ds => obtain ⟨e, vs, q, r⟩ := h; exact ⟨hz.trans e, vs, q, r.monoK l⟩
  | ins c ns ds => obtain ⟨dx, vs, e, n, r⟩ := h; exact ⟨dx, vs, hz.trans e, n, r.monoK l⟩
  | exc c ns ds =>
    obtain ⟨vs, n, r, h⟩ := h
    refine ⟨vs, n, r.monoK l, ?_⟩
    rcases h with ⟨e0, e⟩ | ⟨dx, e1, e2, q⟩
    · exact .inl ⟨e0, hz.trans e⟩
    · exact .inr ⟨dx, hz.trans e1, (l.keep dx _ e2 q).1, (l.keep dx _ e2 q).2⟩
theorem ObR.some {a : Addr} {o : Ob} (h : ObR B m a o) : ∃ u, m.Z a = some u := by
  cases o with
  | tbl i q => obtain ⟨_, ps, e, _⟩ := h; exact ⟨_, e⟩
  | ndc ks ds => obtain ⟨qs, vs, e, _⟩ := h; exact e.some
  | lst ds => obtain ⟨vs, e, r⟩ := h; exact ⟨_, e⟩
  | dic ks ds => obtain ⟨vs, e, r⟩ := h; exact e.some
  | fdc o u ks ds => obtain ⟨e, _⟩ := h; exact ⟨_, e⟩
  | ins c ns ds => obtain ⟨dx, vs, e, n, r⟩ := h; exact ⟨_, e⟩
  | exc c ns ds =>
    obtain ⟨vs, n, r, h⟩ := h
    rcases h with ⟨e0, e⟩ | ⟨dx, e1, e2, q⟩
    · exact ⟨_, e⟩
    · exact ⟨_, e1⟩
theorem Rep.mono (l : Le m H m' H') {d : D} {v : V} (h : Rep B m d v) : Rep B m' d v := Rep.monoK l.toKp h
theorem Reps.mono (l : Le m H m' H') {d : List D} {v : List V} (h : Reps B m d v) : Reps B m' d v := Reps.monoK l.toKp h
theorem ObR.mono (l : Le m H m' H') {a : Addr} (hz : m'.Z a = m.Z a) {o : Ob} (h : ObR B m a o) : ObR B m' a o := ObR.monoK l.toKp hz h
theorem Cor.same {S : Sto} (c : Cor B m S) (l : Le m H m' H') (hn : m'.n = m.n) (hz : ∀ i, i < m.n → m'.Z (m.mu i) = m.Z (m.mu i)) : Cor B m' S where
  n := hn.trans c.n
  ob := fun i o e => by
    have hi : i < m.n := by rw [c.n]; exact (List.getElem?_eq_some_iff.mp e).1
    rw [l.mu i hi]
    exact (c.ob i o e).mono l (hz i hi)
  inj := fun i j hi hj e => by
    rw [hn] at hi hj
    rw [l.mu i hi, l.mu j hj] at e
    exact c.inj i j hi hj e
theorem Cor.at {S : Sto} (c : Cor B m S) {i : Nat} (hi : i < m.n) : ∃ u, m.Z (m.mu i) = some u := by
  have h : i < S.length := by rw [← c.n]; exact hi
  exact (c.ob i _ (List.getElem?_eq_getElem h)).some
theorem Cor.out_of {S : Sto} (c : Cor B m S) {a : Addr} (h : m.Z a = none) : m.out a := fun i hi e => by
  obtain ⟨u, hu⟩ := c.at hi
  rw [e, h] at hu
  cases hu
theorem Sub.none (s : Sub m H) {a : Addr} (h : H a = none) : m.Z a = none := by
  cases e : m.Z a with
  | none => rfl
  | some o => rw [s a o e] at h; cases h
def Mp.put (m : Mp) (p : Addr) (o : HO) : Mp := { m with Z := upd m.Z p o }
theorem Le.new {S : Sto} {p : Addr} {o : HO} (c : Cor B m S) (s : Sub m H) (h : H p = none) : Le m H (m.put p o) (upd H p o) where
  le := Nat.le_refl _
  mu := fun _ _ => rfl
  keep := fun a u e q => ⟨by show upd m.Z p o a = _; rw [upd_ne (ne_of_none e (s.none h))]; exact e, q⟩
  fr0 := fun a u e q => by
    have ne : a ≠ p := ne_of_none q h
    exact ⟨by rw [upd_ne ne]; exact q, .inl <| by show upd m.Z p o a = _; rw [upd_ne ne]; exact e⟩
  sub := fun a u e => by
    by_cases ha : a = p
    · subst ha
      have e' : upd m.Z a o a = some u := e
      rw [upd_same] at e' ⊢
      exact e'
    · have e' : upd m.Z p o a = some u := e
      rw [upd_ne ha] at e' ⊢
      exact s a u e'
theorem Cor.new {S : Sto} {p : Addr} {o : HO} (c : Cor B m S) (s : Sub m H) (h : H p = none) : Cor B (m.put p o) S :=
  c.same (Le.new (o := o) c s h) rfl fun i hi => by
    obtain ⟨u, hu⟩ := c.at hi
    show upd m.Z p o (m.mu i) = _
    rw [upd_ne (ne_of_none hu (s.none h))]
theorem Le.take {S : Sto} {p : Addr} {o : HO} (c : Cor B m S) (s : Sub m H) (hz : m.Z p = none) (h : H p = some o) : Sub (m.put p o) H := fun a u e => by
  by_cases ha : a = p
  · subst ha
    have e' : upd m.Z a o a = some u := e
    rw [upd_same] at e'
    cases e'
    exact h
  · have e' : upd m.Z p o a = some u := e
    rw [upd_ne ha] at e'
    exact s a u e'
end
abbrev En := List (Option D)
def EnR (B : Bas) (m : Mp) (en : En) (σ : St) : Prop := en.length = σ.length ∧ ∀ (i : Nat) (d : D), en[i]? = some (some d) → ∃ v, σ[i]? = some (some v) ∧ Rep B m d v
theorem EnR.mono {B : Bas} {m m' : Mp} {H H' : Hp} {en : En} {σ : St} (l : Le m H m' H') (h : EnR B m en σ) : EnR B m' en σ :=
  ⟨h.1, fun i d e => let ⟨v, a, b⟩ := h.2 i d e; ⟨v, a, b.mono l⟩⟩
theorem EnR.set {B : Bas} {m : Mp} {en : En} {σ : St} {d : D} {v : V} (i : Nat) (h : EnR B m en σ) (r : Rep B m d v) : EnR B m (en.set i (some d)) (σ.set i (some v)) := by
  refine ⟨by rw [List.length_set, List.length_set, h.1], fun j x e => ?_⟩
  by_cases hj : i = j
  · subst hj
    have hi : i < en.length := by
      have := (List.getElem?_eq_some_iff.mp e).1
      rwa [List.length_set] at this
    rw [List.getElem?_set_self hi] at e
    cases e
    exact ⟨v, by rw [List.getElem?_set_self (by rw [← h.1]; exact hi)], r⟩
  · rw [List.getElem?_set_ne hj] at e
    rw [List.getElem?_set_ne hj]
    exact h.2 j x e
inductive Res (α : Type) where
  | ok (a : α) (S : Sto)
  | ex (c : Nat) (ns : List Str) (vs : List D) (S : Sto)
  | bad
def Res.bind {α β : Type} (r : Res α) (k : α → Sto → Res β) : Res β := match r with
  | .ok a S => k a S
  | .ex c ns vs S => .ex c ns vs S
  | .bad => .bad
@[simp] theorem Res.bind_ok {α β : Type} (a : α) (S : Sto) (k : α → Sto → Res β) : (Res.ok a S).bind k = k a S := rfl
@[simp] theorem Res.bind_ex {α β : Type} (c : Nat) (ns : List Str) (vs : List D) (S : Sto) (k : α → Sto → Res β) : (Res.ex c ns vs S : Res α).bind k = .ex c ns vs S := rfl
@[simp] theorem Res.bind_bad {α β : Type} (k : α → Sto → Res β) : (Res.bad : Res α).bind k = .bad := rfl
def ExR (B : Bas) (m : Mp) (ns : List Str) (vs : List D) (dd : Option Addr) : Prop :=
  (ns = [] ∧ vs = [] ∧ dd = none) ∨ ∃ a us, dd = some a ∧ m.Z a = some (.xd (ns.zip us)) ∧ m.out a ∧ ns.length = us.length ∧ Reps B m vs us
def Post {α β : Type} (B : Bas) (R : Mp → α → β → Prop) (W : XK) (m : Mp) (H : Hp) (Q : β → Hp → Prop) (r : Res α) : Prop := match r with
  | .ok a S' => ∀ m' H' v, Le m H m' H' → Cor B m' S' → R m' a v → Q v H'
  | .ex c ns vs S' => ∀ m' H' dd, Le m H m' H' → Cor B m' S' → ExR B m' ns vs dd → W (.ref (B.cls c)) dd H'
  | .bad => False
section
variable {α β γ δ : Type} {B : Bas} {R : Mp → α → β → Prop} {R2 : Mp → γ → δ → Prop} {W : XK} {m m1 : Mp} {H H1 : Hp} {Q Q' : β → Hp → Prop} {r : Res α}
theorem Post.imp (h : Post B R W m H Q r) (f : ∀ v H', Q v H' → Q' v H') : Post B R W m H Q' r := by
  cases r with
  | ok a S => exact fun m' H' v l c x => f _ _ (h m' H' v l c x)
  | ex c ns vs S => exact h
  | bad => exact h
theorem Post.shift (l : Le m H m1 H1) (h : Post B R W m H Q r) : Post B R W m1 H1 Q r := by
  cases r with
  | ok a S => exact fun m' H' v l' c x => h m' H' v (l.trans l') c x
  | ex c ns vs S => exact fun m' H' dd l' c x => h m' H' dd (l.trans l') c x
  | bad => exact h
theorem Post.bind {Q2 : δ → Hp → Prop} {k : α → Sto → Res γ} (h : Post B R2 W m H Q2 (r.bind k)) :
    Post B R W m H (fun v H1 => ∃ a S m1, r = .ok a S ∧ Le m H m1 H1 ∧ Cor B m1 S ∧ R m1 a v ∧ Post B R2 W m1 H1 Q2 (k a S)) r := by
  cases r with
  | ok a S => exact fun m' H' v l c x => ⟨a, S, m', rfl, l, c, x, Post.shift l h⟩
  | ex c ns vs S => exact h
  | bad => exact h
end
abbrev ME := En → Sto → Res D
abbrev MT := En → Sto → Res Bool
abbrev MA := En → Sto → Res (List D)
abbrev at' (W : WX) (σ : St) : XK := fun c d H => W c d σ H
def RT : Mp → Bool → Bool → Prop := fun _ a b => a = b
def tE (B : Bas) (W : WX) (e : ME) : TE := fun σ H Q => ∃ m S en, Sub m H ∧ Cor B m S ∧ EnR B m en σ ∧ Post B (Rep B) (at' W σ) m H Q (e en S)
def tT (B : Bas) (W : WX) (e : MT) : TT := fun σ H Q => ∃ m S en, Sub m H ∧ Cor B m S ∧ EnR B m en σ ∧ Post B RT (at' W σ) m H Q (e en S)
def tA (B : Bas) (W : WX) (e : MA) : TA := fun σ H Q => ∃ m S en, Sub m H ∧ Cor B m S ∧ EnR B m en σ ∧ Post B (Reps B) (at' W σ) m H Q (e en S)
theorem PE.cut {X : Cx} {e : Expr} {t t' : TE} (h : PE X e t) (f : ∀ σ H Q, t' σ H Q → t σ H Q) : PE X e t' := ⟨fun pins s σ H Q I q => h.run pins s σ H Q I (f σ H Q q)⟩
theorem PT.cut {X : Cx} {e : Expr} {t t' : TT} (h : PT X e t) (f : ∀ σ H Q, t' σ H Q → t σ H Q) : PT X e t' := ⟨fun pins s σ H Q I q => h.run pins s σ H Q I (f σ H Q q)⟩
theorem PA.cut {X : Cx} {e : List Expr} {t t' : TA} (h : PA X e t) (f : ∀ σ H Q, t' σ H Q → t σ H Q) : PA X e t' := ⟨fun pos pins s σ H Q I q => h.run pos pins s σ H Q I (f σ H Q q)⟩
theorem PS.cut {X : Cx} {e : Stmt} {t t' : TS} (h : PS X e t) (f : ∀ D σ H, t' D σ H → t D σ H) : PS X e t' := ⟨fun pins s σ H D I q => h.run pins s σ H D I (f D σ H q)⟩
theorem PSs.cut {X : Cx} {e : List Stmt} {t t' : TS} (h : PSs X e t) (f : ∀ D σ H, t' D σ H → t D σ H) : PSs X e t' := ⟨fun pins s σ H D I q => h.run pins s σ H D I (f D σ H q)⟩
end G
end
section
namespace G
open PySem L2
theorem Le.self {B : Bas} {m : Mp} {H : Hp} {S : Sto} (h : Sub m H) : Le m H m H := Le.refl h
def seqT : D → Option (List D)
  | .tup ds => some ds
  | .ktp ds => some ds
  | _ => none
def seqL (S : Sto) : D → Option (List D)
  | .lst ds => some ds
  | .scr ds => some ds
  | .ref i => match S[i]? with
    | some (.lst ds) => some ds
    | _ => none
  | _ => none
def plL (S : Sto) : D → Option (List D)
  | .lst ds => some ds
  | .ref i => match S[i]? with
    | some (.lst ds) => some ds
    | _ => none
  | _ => none
def dicOf (S : Sto) : D → Option (List D × List D)
  | .dic ks ds => some (ks, ds)
  | .ref i => match S[i]? with
    | some (.dic ks ds) => some (ks, ds)
    | _ => none
  | _ => none
def insOf (S : Sto) : D → Option (Nat × List Str × List D)
  | .ins c ns ds => some (c, ns, ds)
  | .ref i => match S[i]? with
    | some (.ins c ns ds) => some (c, ns, ds)
    | _ => none
  | _ => none
section
variable {B : Bas} {m m' : Mp} {H H' : Hp} {S : Sto}
theorem Reps.length : ∀ {ds : List D} {vs : List V}, Reps B m ds vs → ds.length = vs.length
  | [], _, h => by simp only [Reps] at h; rw [h]; rfl
  | d :: ds, _, h => by
    simp only [Reps] at h
    obtain ⟨v, r, rfl, _, q⟩ := h
    simp only [List.length_cons, Reps.length q]
theorem Reps.get : ∀ {ds : List D} {vs : List V} {i : Nat} {d : D}, Reps B m ds vs → ds[i]? = some d → ∃ v, vs[i]? = some v ∧ Rep B m d v
  | [], _, _, _, _, e => by simp at e
  | d :: ds, _, 0, x, h, e => by
    simp only [Reps] at h
    obtain ⟨v, r, rfl, p, q⟩ := h
    simp at e
    subst e
    exact ⟨v, rfl, p⟩
  | d :: ds, _, i + 1, x, h, e => by
    simp only [Reps] at h
    obtain ⟨v, r, rfl, p, q⟩ := h
    obtain ⟨w, a, b⟩ := Reps.get (i := i) (d := x) q (by simpa using e)
    exact ⟨w, by simpa using a, b⟩
theorem Reps.append : ∀ {ds es : List D} {vs us : List V}, Reps B m ds vs → Reps B m es us → Reps B m (ds ++ es) (vs ++ us)
  | [], es, vs, us, h, q => by
    simp only [Reps] at h
    subst h
    exact q
  | d :: ds, es, vs, us, h, q => by
    simp only [Reps] at h
    obtain ⟨v, r, rfl, p, t⟩ := h
    show Reps B m (d :: (ds ++ es)) (v :: (r ++ us))
    simp only [Reps]
    exact ⟨v, _, rfl, p, Reps.append t q⟩
theorem Reps.take : ∀ {ds : List D} {vs : List V} (n : Nat), Reps B m ds vs → Reps B m (ds.take n) (vs.take n)
  | [], vs, n, h => by
    simp only [Reps] at h
    subst h
    simp [Reps]
  | d :: ds, vs, 0, h => by simp [Reps]
  | d :: ds, vs, n + 1, h => by
    simp only [Reps] at h
    obtain ⟨v, r, rfl, p, t⟩ := h
    simp only [List.take_succ_cons, Reps]
    exact ⟨v, _, rfl, p, Reps.take n t⟩
theorem Reps.drop : ∀ {ds : List D} {vs : List V} (n : Nat), Reps B m ds vs → Reps B m (ds.drop n) (vs.drop n)
  | [], vs, n, h => by
    simp only [Reps] at h
    subst h
    simp [Reps]
  | d :: ds, vs, 0, h => h
  | d :: ds, vs, n + 1, h => by
    simp only [Reps] at h
    obtain ⟨v, r, rfl, p, t⟩ := h
    exact Reps.drop n t
theorem Reps.nil_iff {ds : List D} {vs : List V} (h : Reps B m ds vs) : vs = [] ↔ ds = [] := by
  have := h.length
  constructor
  · intro e; subst e; simpa using this
  · intro e; subst e
    simp only [List.length_nil] at this
    exact List.eq_nil_of_length_eq_zero this.symm
theorem Reps.cons {d : D} {ds : List D} {v : V} {vs : List V} (a : Rep B m d v) (b : Reps B m ds vs) : Reps B m (d :: ds) (v :: vs) := by
  simp only [Reps]
  exact ⟨v, vs, rfl, a, b⟩
theorem Reps.nil : Reps B m [] [] := by simp only [Reps]
theorem repT {d : D} {ds : List D} {v : V} (s : Sub m H) (r : Rep B m d v) (e : seqT d = some ds) : ∃ a vs, v = .ref a ∧ SqT B.K H a vs ∧ Reps B m ds vs := by
  cases d <;> simp only [seqT] at e <;> try (cases e)
  · simp only [Rep] at r
    obtain ⟨a, vs, e, t, q⟩ := r
    exact ⟨a, vs, e, t.sq s, q⟩
  · simp only [Rep] at r
    obtain ⟨a, vs, e, t, q⟩ := r
    exact ⟨a, vs, e, t.sq, q⟩
theorem repL {d : D} {ds : List D} {v : V} (s : Sub m H) (c : Cor B m S) (r : Rep B m d v) (e : seqL S d = some ds) : ∃ a vs, v = .ref a ∧ SqL B.K H a vs ∧ Reps B m ds vs := by
  cases d <;> simp only [seqL] at e <;> try (cases e)
  · simp only [Rep] at r
    obtain ⟨a, vs, e, t, q⟩ := r
    exact ⟨a, vs, e, t.sq s, q⟩
  · simp only [Rep] at r
    obtain ⟨hi, rfl⟩ := r
    split at e
    · rename_i i x ys hx
      cases e
      obtain ⟨vs, z, q⟩ := c.ob _ _ hx
      exact ⟨_, vs, rfl, .inl (.inl (s _ _ z)), q⟩
    · cases e
  · simp only [Rep] at r
    obtain ⟨a, vs, e, t, q⟩ := r
    exact ⟨a, vs, e, t.sq s, q⟩
theorem repP {d : D} {ds : List D} {v : V} (s : Sub m H) (c : Cor B m S) (r : Rep B m d v) (e : plL S d = some ds) : ∃ a vs, v = .ref a ∧ H a = some (.lst vs) ∧ Reps B m ds vs := by
  cases d <;> simp only [plL] at e <;> try (cases e)
  · simp only [Rep] at r
    obtain ⟨a, vs, e, t, q⟩ := r
    exact ⟨a, vs, e, s _ _ t.1, q⟩
  · simp only [Rep] at r
    obtain ⟨hi, rfl⟩ := r
    split at e
    · rename_i i x ys hx
      cases e
      obtain ⟨vs, z, q⟩ := c.ob _ _ hx
      exact ⟨_, vs, rfl, s _ _ z, q⟩
    · cases e
theorem repD {d : D} {ks ds : List D} {v : V} (s : Sub m H) (c : Cor B m S) (r : Rep B m d v) (e : dicOf S d = some (ks, ds)) : ∃ a vs, v = .ref a ∧ DicAt (H a) ks vs ∧ Reps B m ds vs := by
  have lift : ∀ {a : Addr} {vs : List V}, DicAt (m.Z a) ks vs → DicAt (H a) ks vs := fun {a vs} h => by
    obtain ⟨u, hu⟩ := h.some
    rw [s _ _ hu, ← hu]
    exact h
  cases d <;> simp only [dicOf] at e <;> try (cases e)
  · simp only [Rep] at r
    obtain ⟨a, vs, e, o, t, q⟩ := r
    exact ⟨a, vs, e, lift t, q⟩
  · simp only [Rep] at r
    obtain ⟨hi, rfl⟩ := r
    split at e
    · rename_i i x ys zs hx
      cases e
      obtain ⟨vs, z, q⟩ := c.ob _ _ hx
      exact ⟨_, vs, rfl, lift z, q⟩
    · cases e
end
mutual
def pd : D → Option PyData
  | .non => some .none
  | .bl b => some (.bool b)
  | .int i => some (.int i)
  | .str x => some (.str x)
  | .tup ds => (pds ds).map .tuple
  | .ktp ds => (pds ds).map .tuple
  | .lst ds => (pds ds).map .list
  | .scr ds => (pds ds).map .list
  | _ => none
def pds : List D → Option (List PyData)
  | [] => some []
  | d :: r => match pd d, pds r with
    | some p, some q => some (p :: q)
    | _, _ => none
end
def pdv (S : Sto) (d : D) : Option PyData := match seqL S d with
  | some ds => (pds ds).map .list
  | none => pd d
section
variable {B : Bas} {m : Mp} {H : Hp} {S : Sto}
mutual
theorem Rep.dp (s : Sub m H) : ∀ {d : D} {v : V} {p : PyData}, Rep B m d v → pd d = some p → Dp B.K H v p
  | .non, v, p, r, e => by simp only [Rep] at r; simp only [pd] at e; cases e; subst r; exact .non
  | .bl b, v, p, r, e => by simp only [Rep] at r; simp only [pd] at e; cases e; subst r; exact .bl b
  | .int i, v, p, r, e => by simp only [Rep] at r; simp only [pd] at e; cases e; subst r; exact .int i
  | .str x, v, p, r, e => by simp only [Rep] at r; simp only [pd] at e; cases e; subst r; exact .str x
  | .tup ds, v, p, r, e => by
    simp only [Rep] at r
    simp only [pd] at e
    obtain ⟨a, vs, rfl, t, q⟩ := r
    cases h : pds ds with
    | none => rw [h] at e; cases e
    | some ps => rw [h] at e; cases e; exact .tup (t.sq s) (Reps.dp s q h)
  | .ktp ds, v, p, r, e => by
    simp only [Rep] at r
    simp only [pd] at e
    obtain ⟨a, vs, rfl, t, q⟩ := r
    cases h : pds ds with
    | none => rw [h] at e; cases e
    | some ps => rw [h] at e; cases e; exact .tup t.sq (Reps.dp s q h)
  | .lst ds, v, p, r, e => by
    simp only [Rep] at r
    simp only [pd] at e
    obtain ⟨a, vs, rfl, t, q⟩ := r
    cases h : pds ds with
    | none => rw [h] at e; cases e
    | some ps => rw [h] at e; cases e; exact .lst (t.sq s) (Reps.dp s q h)
  | .scr ds, v, p, r, e => by
    simp only [Rep] at r
    simp only [pd] at e
    obtain ⟨a, vs, rfl, t, q⟩ := r
    cases h : pds ds with
    | none => rw [h] at e; cases e
    | some ps => rw [h] at e; cases e; exact .lst (t.sq s) (Reps.dp s q h)
  | .dic _ _, v, p, r, e => by simp [pd] at e
  | .ins _ _ _, v, p, r, e => by simp [pd] at e
  | .ref _, v, p, r, e => by simp [pd] at e
  | .fn _, v, p, r, e => by simp [pd] at e
  | .ty _, v, p, r, e => by simp [pd] at e
  | .cl _, v, p, r, e => by simp [pd] at e
  | .lam _ _ _ _ _, v, p, r, e => by simp [pd] at e
theorem Reps.dp (s : Sub m H) : ∀ {ds : List D} {vs : List V} {ps : List PyData}, Reps B m ds vs → pds ds = some ps → DpAll B.K H vs ps
  | [], vs, ps, r, e => by simp only [Reps] at r; simp only [pds] at e; cases e; subst r; exact .nil
  | d :: ds, vs, ps, r, e => by
    simp only [Reps] at r
    obtain ⟨v, t, rfl, a, b⟩ := r
    simp only [pds] at e
    cases h1 : pd d with
    | none => rw [h1] at e; cases e
    | some p =>
      cases h2 : pds ds with
      | none => rw [h1, h2] at e; cases e
      | some q =>
        rw [h1, h2] at e
        cases e
        exact .cons (Rep.dp s a h1) (Reps.dp s b h2)
end
theorem Rep.dpv {d : D} {v : V} {p : PyData} (s : Sub m H) (c : Cor B m S) (r : Rep B m d v) (e : pdv S d = some p) : Dp B.K H v p := by
  unfold pdv at e
  cases h : seqL S d with
  | none => rw [h] at e; exact r.dp s e
  | some ds =>
    rw [h] at e
    obtain ⟨a, vs, rfl, q, t⟩ := repL s c r h
    cases h2 : pds ds with
    | none => simp only [h2] at e; cases e
    | some ps => simp only [h2] at e; cases e; exact .lst q (t.dp s h2)
end
def mVar (i : Nat) : ME := fun en S => match en[i]? with
  | some (some d) => .ok d S
  | _ => .bad
def mC (d : D) : ME := fun _ S => .ok d S
section
variable {X : Cx} {B : Bas} {W : WX} {e : Expr}
theorem de_var {i : Nat} (h : PE X e (tVar i)) : PE X e (tE B W (mVar i)) := PE.cut h fun σ H Q ⟨m, S, en, s, c, r, p⟩ => by
  unfold mVar at p
  split at p
  · rename_i d hd
    obtain ⟨v, hv, rv⟩ := r.2 i d hd
    exact ⟨v, hv, p m H v (Le.refl s) c rv⟩
  · exact p.elim
theorem de_c {d : D} {v : V} (h : PE X e (tC v)) (r : ∀ m, Rep B m d v) : PE X e (tE B W (mC d)) := PE.cut h fun σ H Q ⟨m, S, en, s, c, _, p⟩ => p m H v (Le.refl s) c (r m)
theorem rp_int {B : Bas} {i : Int} (m : Mp) : Rep B m (.int i) (.int i) := by simp only [Rep]
theorem rp_str {B : Bas} {x : Str} (m : Mp) : Rep B m (.str x) (.str x) := by simp only [Rep]
theorem rp_bl {B : Bas} {b : Bool} (m : Mp) : Rep B m (.bl b) (.bl b) := by simp only [Rep]
theorem rp_non {B : Bas} (m : Mp) : Rep B m .non .non := by simp only [Rep]
theorem de_int {i j pos} : PE X (.Constant (.int i) j pos) (tE B W (mC (.int i))) := de_c pe_int rp_int
theorem de_str {x j pos} : PE X (.Constant (.str x) j pos) (tE B W (mC (.str x))) := de_c pe_str rp_str
theorem de_bl {b j pos} : PE X (.Constant (.bool b) j pos) (tE B W (mC (.bl b))) := de_c pe_bl rp_bl
theorem de_non {j pos} : PE X (.Constant .none j pos) (tE B W (mC .non)) := de_c pe_non rp_non
end
def mOp (g : Sto → D → D → Option D) (a b : ME) : ME := fun en S => (a en S).bind fun x S1 => (b en S1).bind fun y S2 => match g S2 x y with
  | some d => .ok d S2
  | none => .bad
def Op2 (B : Bas) (r : R2) (g : Sto → D → D → Option D) : Prop := ∀ (m : Mp) (S : Sto) (H : Hp) (x y : V) (d1 d2 d : D), Sub m H → Cor B m S → Rep B m d1 x → Rep B m d2 y → g S d1 d2 = some d →
  ∀ Q : VK, (∀ m' H' v, Le m H m' H' → Cor B m' S → Rep B m' d v → Q v H') → r x y H Q
def Op1 (B : Bas) (r : V → Hp → VK → Prop) (g : Sto → D → Option D) : Prop := ∀ (m : Mp) (S : Sto) (H : Hp) (x : V) (d1 d : D), Sub m H → Cor B m S → Rep B m d1 x → g S d1 = some d →
  ∀ Q : VK, (∀ m' H' v, Le m H m' H' → Cor B m' S → Rep B m' d v → Q v H') → r x H Q
theorem Op2.or {B : Bas} {r r' : R2} {g g' : Sto → D → D → Option D} (h : Op2 B r g) (h' : Op2 B r' g') : Op2 B (fun x y H Q => r x y H Q ∨ r' x y H Q) (fun S a b => match g S a b with
    | some d => some d
    | none => g' S a b) := fun m S H x y d1 d2 d s c r1 r2 e Q q => by
  cases h1 : g S d1 d2 with
  | some z => simp only [h1] at e; cases e; exact .inl (h m S H x y d1 d2 _ s c r1 r2 h1 Q q)
  | none => simp only [h1] at e; exact .inr (h' m S H x y d1 d2 d s c r1 r2 e Q q)
theorem OpR.or {X : Cx} {f : Value → Value → Sem Value} {r r' : R2} (h : OpR X f r) (h' : OpR X f r') : OpR X f (fun x y H Q => r x y H Q ∨ r' x y H Q) := by
  intro pins s σ H x y v u Q I rx ry q
  rcases q with q | q
  · exact h pins s σ H x y v u Q I rx ry q
  · exact h' pins s σ H x y v u Q I rx ry q
theorem tOp_of {B : Bas} {W : WX} {r : R2} {g : Sto → D → D → Option D} {a b : ME} (h : Op2 B r g) (σ : St) (H : Hp) (Q : VK) (t : tE B W (mOp g a b) σ H Q) : tOp r (tE B W a) (tE B W b) σ H Q := by
  obtain ⟨m, S, en, s, c, er, p⟩ := t
  refine ⟨m, S, en, s, c, er, (Post.bind p).imp ?_⟩
  rintro x H1 ⟨d1, S1, m1, _, l1, c1, r1, p1⟩
  refine ⟨m1, S1, en, l1.sub, c1, er.mono l1, (Post.bind p1).imp ?_⟩
  rintro y H2 ⟨d2, S2, m2, _, l2, c2, r2, p2⟩
  cases e : g S2 d1 d2 with
  | none => rw [e] at p2; exact p2.elim
  | some d => rw [e] at p2; exact h m2 S2 H2 x y d1 d2 d l2.sub c2 (r1.mono l2) r2 e Q p2
section
variable {X : Cx} {B : Bas} {W : WX} {e a b : Expr} {pos : Pos} {ma mb : ME} {r : R2} {g : Sto → D → D → Option D}
theorem de_op {op : Operator} (ho : OpR X (binaryOp op) r) (h : Op2 B r g) (ha : PE X a (tE B W ma)) (hb : PE X b (tE B W mb)) : PE X (.BinOp a op b pos) (tE B W (mOp g ma mb)) :=
  PE.cut (pe_op ho ha hb) (tOp_of h)
theorem de_cmp {op : CmpOp} (ho : OpR X (compareOp op) r) (h : Op2 B r g) (ha : PE X a (tE B W ma)) (hb : PE X b (tE B W mb)) (hm : behindInMarks op b = false) : PE X (.Compare a [op] [b] pos) (tE B W (mOp g ma mb)) :=
  PE.cut (pe_cmpR ho ha hb hm) (tOp_of h)
def mTest (a : ME) : MT := fun en S => (a en S).bind fun x S1 => match x with
  | .bl k => .ok k S1
  | _ => .bad
theorem tTest_of (σ : St) (H : Hp) (Q : Bool → Hp → Prop) (t : tT B W (mTest ma) σ H Q) : tTest (tE B W ma) σ H Q := by
  obtain ⟨m, S, en, s, c, er, p⟩ := t
  refine ⟨m, S, en, s, c, er, (Post.bind p).imp ?_⟩
  rintro x H1 ⟨d1, S1, m1, _, l1, c1, r1, p1⟩
  cases d1 with
  | bl k =>
    simp only [Rep] at r1
    exact ⟨k, r1, p1 m1 H1 k (Le.refl l1.sub) c1 rfl⟩
  | _ => exact p1.elim
theorem dt_cmp {op : CmpOp} (ho : OpR X (compareOp op) r) (h : Op2 B r g) (ha : PE X a (tE B W ma)) (hb : PE X b (tE B W mb)) (hm : behindInMarks op b = false) : PT X (.Compare a [op] [b] pos) (tT B W (mTest (mOp g ma mb))) :=
  PT.cut (pt_cmpR ho ha hb hm) fun σ H Q t => tOp_of (W := W) h σ H _ (tTest_of σ H Q t)
theorem dt_val (h : PE X e (tE B W ma)) (he : ∀ whole, isTrue e X.env whole = (do let v ← whole; standAt e.pos; holding [v] (truthy v)) := by intro _; rfl) : PT X e (tT B W (mTest ma)) :=
  PT.cut (pt_val h he) fun σ H Q t => tTest_of σ H Q t
end
def mAnd (a b : MT) : MT := fun en S => (a en S).bind fun k S1 => match k with
  | true => b en S1
  | false => .ok false S1
def mOr (a b : MT) : MT := fun en S => (a en S).bind fun k S1 => match k with
  | true => .ok true S1
  | false => b en S1
def mNot (a : MT) : MT := fun en S => (a en S).bind fun k S1 => .ok (!k) S1
def mIf (t : MT) (a b : ME) : ME := fun en S => (t en S).bind fun k S1 => match k with
  | true => a en S1
  | false => b en S1
section
variable {X : Cx} {B : Bas} {W : WX} {e a b : Expr} {es : List Expr} {pos : Pos} {ta tb : MT} {ma mb : ME}
theorem dw_or1 (h : PT X a (tT B W ta)) : PW X (.BoolOp .Or [a] pos) (tT B W ta) := pw_or1 h
theorem PW.cut {t t' : TT} (h : PW X e t) (f : ∀ σ H Q, t' σ H Q → t σ H Q) : PW X e t' := ⟨fun whole pins s σ H Q I q => h.run whole pins s σ H Q I (f σ H Q q)⟩
theorem dw_or (h : PT X a (tT B W ta)) (h2 : PW X (.BoolOp .Or (b :: es) pos) (tT B W tb)) : PW X (.BoolOp .Or (a :: b :: es) pos) (tT B W (mOr ta tb)) :=
  PW.cut (pw_or h h2) fun σ H Q ⟨m, S, en, s, c, er, p⟩ => ⟨m, S, en, s, c, er, (Post.bind p).imp (by
    rintro k H1 ⟨d1, S1, m1, _, l1, c1, r1, p1⟩
    cases r1
    cases k with
    | true => exact iteT (p1 m1 H1 true (Le.refl l1.sub) c1 rfl)
    | false => exact iteF ⟨m1, S1, en, l1.sub, c1, er.mono l1, p1⟩)⟩
theorem de_if {c : Expr} (hc : PT X c (tT B W ta)) (ha : PE X a (tE B W ma)) (hb : PE X b (tE B W mb)) : PE X (.IfExp c a b pos) (tE B W (mIf ta ma mb)) :=
  PE.cut (pe_ifExp hc ha hb) fun σ H Q ⟨m, S, en, s, c, er, p⟩ => ⟨m, S, en, s, c, er, (Post.bind p).imp (by
    rintro k H1 ⟨d1, S1, m1, _, l1, c1, r1, p1⟩
    cases r1
    cases k with
    | true => exact iteT ⟨m1, S1, en, l1.sub, c1, er.mono l1, p1⟩
    | false => exact iteF ⟨m1, S1, en, l1.sub, c1, er.mono l1, p1⟩)⟩
def mAndV (a b : ME) : ME := fun en S => (a en S).bind fun x S1 => match x with
  | .bl true => b en S1
  | .bl false => .ok (.bl false) S1
  | _ => .bad
def mOrV (a b : ME) : ME := fun en S => (a en S).bind fun x S1 => match x with
  | .bl true => .ok (.bl true) S1
  | .bl false => b en S1
  | _ => .bad
def mNotV (a : ME) : ME := fun en S => (a en S).bind fun x S1 => match x with
  | .bl k => .ok (.bl (!k)) S1
  | _ => .bad
end
def aNil : MA := fun _ S => .ok [] S
def aCons (a : ME) (r : MA) : MA := fun en S => (a en S).bind fun x S1 => (r en S1).bind fun xs S2 => .ok (x :: xs) S2
def mTup (r : MA) : ME := fun en S => (r en S).bind fun xs S1 => if xs.length ≤ sizeLine then .ok (.tup xs) S1 else .bad
def mLst (r : MA) : ME := fun en S => (r en S).bind fun xs S1 => if xs.length ≤ sizeLine then .ok (.lst xs) S1 else .bad
def mNew (r : MA) : ME := fun en S => (r en S).bind fun xs S1 => if xs.length ≤ sizeLine then .ok (.ref S1.length) (S1 ++ [.lst xs]) else .bad
section
variable {B : Bas} {m : Mp} {H : Hp} {S : Sto}
theorem rp_tup {p : Addr} {ds : List D} {vs : List V} (c : Cor B m S) (s : Sub m H) (h : H p = none) (r : Reps B m ds vs) : Rep B (m.put p (.tup vs)) (.tup ds) (.ref p) := by
  simp only [Rep]
  exact ⟨p, vs, rfl, ⟨upd_same, c.out_of (s.none h)⟩, r.mono (Le.new c s h)⟩
theorem rp_lst {p : Addr} {ds : List D} {vs : List V} (c : Cor B m S) (s : Sub m H) (h : H p = none) (r : Reps B m ds vs) : Rep B (m.put p (.lst vs)) (.lst ds) (.ref p) := by
  simp only [Rep]
  exact ⟨p, vs, rfl, ⟨upd_same, c.out_of (s.none h)⟩, r.mono (Le.new c s h)⟩
def Mp.add (m : Mp) (p : Addr) (o : HO) : Mp := { mu := fun i => if i = m.n then p else m.mu i, n := m.n + 1, Z := upd m.Z p o }
theorem Mp.add_mu {p : Addr} {o : HO} {i : Nat} (h : i < m.n) : (m.add p o).mu i = m.mu i := by
  show (if i = m.n then p else m.mu i) = _
  rw [if_neg (Nat.ne_of_lt h)]
theorem Mp.add_last {p : Addr} {o : HO} : (m.add p o).mu m.n = p := by
  show (if m.n = m.n then p else _) = _
  rw [if_pos rfl]
theorem Le.add {p : Addr} {o : HO} (c : Cor B m S) (s : Sub m H) (h : H p = none) : Le m H (m.add p o) (upd H p o) where
  le := Nat.le_succ _
  mu := fun i hi => Mp.add_mu hi
  keep := fun a u e q => by
    have ne : a ≠ p := ne_of_none e (s.none h)
    refine ⟨by show upd m.Z p o a = _; rw [upd_ne ne]; exact e, fun i hi => ?_⟩
    rcases Nat.lt_succ_iff_lt_or_eq.mp (show i < m.n + 1 from hi) with z | z
    · rw [Mp.add_mu z]; exact q i z
    · rw [z, Mp.add_last]; exact ne.symm
  fr0 := fun a u e q => by
    have ne : a ≠ p := ne_of_none q h
    exact ⟨by rw [upd_ne ne]; exact q, .inl <| by show upd m.Z p o a = _; rw [upd_ne ne]; exact e⟩
  sub := (Le.new (o := o) c s h).sub
theorem Cor.add {p : Addr} {o : HO} {b : Ob} (c : Cor B m S) (s : Sub m H) (h : H p = none) (r : ObR B (m.add p o) p b) : Cor B (m.add p o) (S ++ [b]) where
  n := by
    rw [List.length_append, List.length_singleton, ← c.n]
    rfl
  ob := fun i x e => by
    by_cases hi : i < S.length
    · rw [List.getElem?_append_left hi] at e
      have hm : i < m.n := by rw [c.n]; exact hi
      rw [Mp.add_mu hm]
      refine (c.ob i x e).mono (Le.add (o := o) c s h) ?_
      obtain ⟨u, hu⟩ := c.at hm
      show upd m.Z p o (m.mu i) = _
      rw [upd_ne (ne_of_none hu (s.none h))]
    · have hi' : S.length ≤ i := Nat.le_of_not_lt hi
      rw [List.getElem?_append_right hi'] at e
      have z : i - S.length = 0 := by
        have := (List.getElem?_eq_some_iff.mp e).1
        simp only [List.length_singleton] at this
        omega
      have hin : i = m.n := by rw [c.n]; omega
      rw [z] at e
      cases e
      rw [hin, Mp.add_last]
      exact r
  inj := fun i j hi hj e => by
    have out := c.out_of (s.none h)
    rcases Nat.lt_succ_iff_lt_or_eq.mp (show i < m.n + 1 from hi) with z | z <;> rcases Nat.lt_succ_iff_lt_or_eq.mp (show j < m.n + 1 from hj) with y | y
    · rw [Mp.add_mu z, Mp.add_mu y] at e; exact c.inj i j z y e
    · rw [Mp.add_mu z, y, Mp.add_last] at e; exact absurd e (out i z)
    · rw [Mp.add_mu y, z, Mp.add_last] at e; exact absurd e.symm (out j y)
    · rw [z, y]
theorem rp_ref {p : Addr} {o : HO} (c : Cor B m S) : Rep B (m.add p o) (.ref S.length) (.ref p) := by
  simp only [Rep]
  refine ⟨by rw [← c.n]; exact Nat.lt_succ_self _, ?_⟩
  rw [← c.n, Mp.add_last]
end
section
variable {X : Cx} {B : Bas} {W : WX} {e : Expr} {es : List Expr} {pos : Pos} {ma : ME} {mr : MA}
theorem da_nil : PA X [] (tA B W aNil) := PA.cut pa_nil fun σ H Q ⟨m, S, en, s, c, er, p⟩ => p m H [] (Le.refl s) c Reps.nil
theorem tCons_of (σ : St) (H : Hp) (Q : List V → Hp → Prop) (t : tA B W (aCons ma mr) σ H Q) : tCons (tE B W ma) (tA B W mr) σ H Q := by
  obtain ⟨m, S, en, s, c, er, p⟩ := t
  refine ⟨m, S, en, s, c, er, (Post.bind p).imp ?_⟩
  rintro x H1 ⟨d1, S1, m1, _, l1, c1, r1, p1⟩
  refine ⟨m1, S1, en, l1.sub, c1, er.mono l1, (Post.bind p1).imp ?_⟩
  rintro xs H2 ⟨ds, S2, m2, _, l2, c2, r2, p2⟩
  exact p2 m2 H2 _ (Le.refl l2.sub) c2 (Reps.cons (r1.mono l2) r2)
theorem da_cons (ha : PE X e (tE B W ma)) (hr : PA X es (tA B W mr)) (he : starEach (e :: es) X.env = (false, eval e X.env) :: starEach es X.env := by rfl) : PA X (e :: es) (tA B W (aCons ma mr)) :=
  PA.cut (pa_cons ha hr he) tCons_of
theorem tTup_of (σ : St) (H : Hp) (Q : VK) (t : tE B W (mTup mr) σ H Q) : tTup (tA B W mr) σ H Q := by
  obtain ⟨m, S, en, s, c, er, p⟩ := t
  refine ⟨m, S, en, s, c, er, (Post.bind p).imp ?_⟩
  rintro xs H1 ⟨ds, S1, m1, _, l1, c1, r1, p1⟩
  split at p1
  · rename_i hl
    exact ⟨by rw [← r1.length]; exact hl, fun q hq => p1 _ _ _ (Le.new c1 l1.sub hq) (Cor.new c1 l1.sub hq) (rp_tup c1 l1.sub hq r1)⟩
  · exact p1.elim
theorem tLst_of (σ : St) (H : Hp) (Q : VK) (t : tE B W (mLst mr) σ H Q) : tLst (tA B W mr) σ H Q := by
  obtain ⟨m, S, en, s, c, er, p⟩ := t
  refine ⟨m, S, en, s, c, er, (Post.bind p).imp ?_⟩
  rintro xs H1 ⟨ds, S1, m1, _, l1, c1, r1, p1⟩
  split at p1
  · rename_i hl
    exact ⟨by rw [← r1.length]; exact hl, fun q hq => p1 _ _ _ (Le.new c1 l1.sub hq) (Cor.new c1 l1.sub hq) (rp_lst c1 l1.sub hq r1)⟩
  · exact p1.elim
theorem tNew_of (σ : St) (H : Hp) (Q : VK) (t : tE B W (mNew mr) σ H Q) : tLst (tA B W mr) σ H Q := by
  obtain ⟨m, S, en, s, c, er, p⟩ := t
  refine ⟨m, S, en, s, c, er, (Post.bind p).imp ?_⟩
  rintro xs H1 ⟨ds, S1, m1, _, l1, c1, r1, p1⟩
  split at p1
  · rename_i hl
    refine ⟨by rw [← r1.length]; exact hl, fun q hq => p1 _ _ _ (Le.add c1 l1.sub hq) (Cor.add c1 l1.sub hq ⟨xs, upd_same, r1.mono (Le.add c1 l1.sub hq)⟩) (rp_ref c1)⟩
  · exact p1.elim
def mCB (g : Sto → List D → Option D) (r : MA) : ME := fun en S => (r en S).bind fun xs S1 => match g S1 xs with
  | some d => .ok d S1
  | none => .bad
def OpN (B : Bas) (r : List V → Hp → VK → Prop) (g : Sto → List D → Option D) : Prop := ∀ (m : Mp) (S : Sto) (H : Hp) (xs : List V) (ds : List D) (d : D), Sub m H → Cor B m S → Reps B m ds xs → g S ds = some d →
  ∀ Q : VK, (∀ m' H' v, Le m H m' H' → Cor B m' S → Rep B m' d v → Q v H') → r xs H Q
theorem tCB_of {r : List V → Hp → VK → Prop} {g : Sto → List D → Option D} (h : OpN B r g) (σ : St) (H : Hp) (Q : VK) (t : tE B W (mCB g mr) σ H Q) : tCB r (tA B W mr) σ H Q := by
  obtain ⟨m, S, en, s, c, er, p⟩ := t
  refine ⟨m, S, en, s, c, er, (Post.bind p).imp ?_⟩
  rintro xs H1 ⟨ds, S1, m1, _, l1, c1, r1, p1⟩
  cases e : g S1 ds with
  | none => rw [e] at p1; exact p1.elim
  | some d => rw [e] at p1; exact h m1 S1 H1 xs ds d l1.sub c1 r1 e Q p1
end
end G
end
section
namespace G
open PySem L2
inductive Fl where
  | nx (en : En) | rt (d : D) | bk (en : En) | ct (en : En)
inductive FlV where
  | nx (σ : St) | rt (v : V) | bk (σ : St) | ct (σ : St)
def RFl (B : Bas) (m : Mp) : Fl → FlV → Prop
  | .nx en, .nx σ => EnR B m en σ
  | .rt d, .rt v => Rep B m d v
  | .bk en, .bk σ => EnR B m en σ
  | .ct en, .ct σ => EnR B m en σ
  | _, _ => False
def qOf (D : Ends) : FlV → Hp → Prop
  | .nx σ, H => D.nx σ H
  | .rt v, H => D.rt v H
  | .bk σ, H => D.bk σ H
  | .ct σ, H => D.ct σ H
abbrev MS := En → Sto → Res Fl
def tS (B : Bas) (W : WX) (f : MS) : TS := fun D σ H => ∃ m S en, Sub m H ∧ Cor B m S ∧ EnR B m en σ ∧ Post B (RFl B) (at' W σ) m H (qOf D) (f en S)
def WI (W : WX) : Prop := ∀ c d σ σ' H, W c d σ H → W c d σ' H
theorem Post.wx {α β : Type} {B : Bas} {R : Mp → α → β → Prop} {W W' : XK} {m : Mp} {H : Hp} {Q : β → Hp → Prop} {r : Res α} (h : Post B R W m H Q r) (f : ∀ c d H', W c d H' → W' c d H') : Post B R W' m H Q r := by
  cases r with
  | ok a S => exact h
  | ex c ns vs S => exact fun m' H' dd l c x => f _ _ _ (h m' H' dd l c x)
  | bad => exact h
def sNil : MS := fun en S => .ok (.nx en) S
def sSeq (a b : MS) : MS := fun en S => (a en S).bind fun f S1 => match f with
  | .nx en1 => b en1 S1
  | .rt d => .ok (.rt d) S1
  | .bk e => .ok (.bk e) S1
  | .ct e => .ok (.ct e) S1
def sIf (t : MT) (a b : MS) : MS := fun en S => (t en S).bind fun k S1 => match k with
  | true => a en S1
  | false => b en S1
def sRet (e : ME) : MS := fun en S => (e en S).bind fun d S1 => .ok (.rt d) S1
def sRetN : MS := fun _ S => .ok (.rt .non) S
def sDrop (e : ME) : MS := fun en S => (e en S).bind fun _ S1 => .ok (.nx en) S1
abbrev MG := D → En → Option En
def sAsg (e : ME) (g : MG) : MS := fun en S => (e en S).bind fun d S1 => match g d en with
  | some en1 => .ok (.nx en1) S1
  | none => .bad
def sPar (i j : Nat) (r : MA) : MS := fun en S => (r en S).bind fun ds S1 => match ds with
  | [x, y] => .ok (.nx ((en.set i (some x)).set j (some y))) S1
  | _ => .bad
def sBk : MS := fun en S => .ok (.bk en) S
def sCt : MS := fun en S => .ok (.ct en) S
def gN (i : Nat) : MG := fun d en => some (en.set i (some d))
abbrev MGs := List D → En → Option En
def gsNil : MGs := fun ds en => match ds with
  | [] => some en
  | _ => none
def gsCons (g : MG) (r : MGs) : MGs := fun ds en => match ds with
  | d :: ds => (g d en).bind (r ds)
  | [] => none
def gT (n : Nat) (g : MGs) : MG := fun d en => match d with
  | .tup ds => if ds.length = n then g ds en else none
  | _ => none
def Only (own : List Nat) (σ σ' : St) : Prop := σ'.length = σ.length ∧ ∀ j : Nat, j ∉ own → σ'[j]? = σ[j]?
theorem Only.refl (own : List Nat) (σ : St) : Only own σ σ := ⟨rfl, fun _ _ => rfl⟩
theorem Only.trans {o1 o2 : List Nat} {a b c : St} (h1 : Only o1 a b) (h2 : Only o2 b c) : Only (o1 ++ o2) a c :=
  ⟨h2.1.trans h1.1, fun j hj => (h2.2 j fun z => hj (List.mem_append_right _ z)).trans (h1.2 j fun z => hj (List.mem_append_left _ z))⟩
def TgR (B : Bas) (own : List Nat) (g : TG) (t : MG) : Prop := ∀ (m : Mp) (H : Hp) (en en' : En) (σ : St) (d : D) (v : V), Sub m H → Rep B m d v → EnR B m en σ → t d en = some en' → ∀ Q : St → Hp → Prop, (∀ σ', EnR B m en' σ' → Only own σ σ' → Q σ' H) → g v σ H Q
def TgsR (B : Bas) (own : List Nat) (g : TGs) (t : MGs) : Prop := ∀ (m : Mp) (H : Hp) (en en' : En) (σ : St) (d : List D) (v : List V), Sub m H → Reps B m d v → EnR B m en σ → t d en = some en' → ∀ Q : St → Hp → Prop, (∀ σ', EnR B m en' σ' → Only own σ σ' → Q σ' H) → g v σ H Q
theorem tg_name {B : Bas} {i : Nat} : TgR B [i] (gName i) (gN i) := fun m H en en' σ d v s r er e Q q => by
  cases e
  exact q _ (er.set i r) ⟨List.length_set, fun j hj => List.getElem?_set_ne (fun z => hj (by simp [z]))⟩
theorem tgs_nil {B : Bas} : TgsR B [] gNil gsNil := fun m H en en' σ d v s r er e Q q => by
  cases d with
  | nil =>
    simp only [Reps] at r
    cases e
    exact ⟨r, q σ er (Only.refl _ _)⟩
  | cons x xs => cases e
theorem tgs_cons {B : Bas} {o1 o2 : List Nat} {g : TG} {t : MG} {gs : TGs} {ts : MGs} (h : TgR B o1 g t) (hs : TgsR B o2 gs ts) : TgsR B (o1 ++ o2) (gCons g gs) (gsCons t ts) := fun m H en en' σ d v s r er e Q q => by
  cases d with
  | nil => cases e
  | cons x xs =>
    simp only [Reps] at r
    obtain ⟨y, ys, rfl, r1, r2⟩ := r
    simp only [gsCons] at e
    cases e1 : t x en with
    | none => rw [e1] at e; cases e
    | some en1 =>
      rw [e1] at e
      exact ⟨y, ys, rfl, h m H en en1 σ x y s r1 er e1 _ fun σ' er' o1 => hs m H en1 en' σ' xs ys s r2 er' e Q fun σ2 er2 o2 => q σ2 er2 (o1.trans o2)⟩
theorem tg_tup {B : Bas} {own : List Nat} {n : Nat} {gs : TGs} {ts : MGs} (hs : TgsR B own gs ts) : TgR B own (gTup B.K n gs) (gT n ts) := fun m H en en' σ d v s r er e Q q => by
  cases d with
  | tup ds =>
    simp only [gT] at e
    split at e
    · rename_i hn
      simp only [Rep] at r
      obtain ⟨a, vs, rfl, t, rs⟩ := r
      exact ⟨a, vs, rfl, t.sq s, by rw [← rs.length]; exact hn, hs m H en en' σ ds vs s rs er e Q q⟩
    · cases e
  | _ => cases e
section
variable {X : Cx} {B : Bas} {W : WX} {st : Stmt} {sts : List Stmt} {pos : Pos} {e : Expr} {ma mb : MS} {me : ME} {mt : MT} {mr : MA}
theorem ds_nil : PSs X [] (tS B W sNil) := PSs.cut pss_nil fun D σ H ⟨m, S, en, s, c, er, p⟩ => p m H (.nx σ) (Le.refl s) c er
theorem tSeq_of (hW : WI W) (D : Ends) (σ : St) (H : Hp) (t : tS B W (sSeq ma mb) D σ H) : tSeq (tS B W ma) (tS B W mb) D σ H := by
  obtain ⟨m, S, en, s, c, er, p⟩ := t
  refine ⟨m, S, en, s, c, er, (Post.bind p).imp ?_⟩
  rintro g H1 ⟨f, S1, m1, _, l1, c1, r1, p1⟩
  cases f with
  | nx en1 =>
    cases g with
    | nx σ1 => exact ⟨m1, S1, en1, l1.sub, c1, r1, p1.wx fun c d H' h => hW _ _ _ _ _ h⟩
    | _ => exact r1.elim
  | rt d =>
    cases g with
    | rt v => exact p1 m1 H1 (.rt v) (Le.refl l1.sub) c1 r1
    | _ => exact r1.elim
  | bk en1 =>
    cases g with
    | bk v => exact p1 m1 H1 (.bk v) (Le.refl l1.sub) c1 r1
    | _ => exact r1.elim
  | ct en1 =>
    cases g with
    | ct v => exact p1 m1 H1 (.ct v) (Le.refl l1.sub) c1 r1
    | _ => exact r1.elim
theorem ds_cons (hW : WI W) (h1 : PS X st (tS B W ma)) (h2 : PSs X sts (tS B W mb)) : PSs X (st :: sts) (tS B W (sSeq ma mb)) := PSs.cut (pss_cons h1 h2) (tSeq_of hW)
theorem ds_one (h1 : PS X st (tS B W ma)) : PSs X [st] (tS B W ma) := pss_one h1
theorem ds_if {c : Expr} {a b : List Stmt} (hc : PT X c (tT B W mt)) (ha : PSs X a (tS B W ma)) (hb : PSs X b (tS B W mb)) : PS X (.If c a b pos) (tS B W (sIf mt ma mb)) :=
  PS.cut (ps_if hc ha hb) fun D σ H ⟨m, S, en, s, c, er, p⟩ => ⟨m, S, en, s, c, er, (Post.bind p).imp (by
    rintro k H1 ⟨k', S1, m1, _, l1, c1, r1, p1⟩
    cases r1
    cases k with
    | true => exact iteT ⟨m1, S1, en, l1.sub, c1, er.mono l1, p1⟩
    | false => exact iteF ⟨m1, S1, en, l1.sub, c1, er.mono l1, p1⟩)⟩
theorem ds_ret (he : PE X e (tE B W me)) : PS X (.Return (some e) pos) (tS B W (sRet me)) :=
  PS.cut (ps_ret he) fun D σ H ⟨m, S, en, s, c, er, p⟩ => ⟨m, S, en, s, c, er, (Post.bind p).imp (by
    rintro v H1 ⟨d, S1, m1, _, l1, c1, r1, p1⟩
    exact p1 m1 H1 (.rt v) (Le.refl l1.sub) c1 r1)⟩
theorem tAsg_of {own : List Nat} {g : TG} {t : MG} (h : TgR B own g t) (D : Ends) (σ : St) (H : Hp) (q : tS B W (sAsg me t) D σ H) : tAsg (tE B W me) g D σ H := by
  obtain ⟨m, S, en, s, c, er, p⟩ := q
  refine ⟨m, S, en, s, c, er, (Post.bind p).imp ?_⟩
  rintro v H1 ⟨d, S1, m1, _, l1, c1, r1, p1⟩
  cases e1 : t d en with
  | none => rw [e1] at p1; exact p1.elim
  | some en1 =>
    rw [e1] at p1
    exact h m1 H1 en en1 σ d v l1.sub r1 (er.mono l1) e1 _ fun σ' er' _ => p1 m1 H1 (.nx σ') (Le.refl l1.sub) c1 er'
theorem ds_set {i : Nat} {x : Str} {pos' : Pos} (hN : X.N.Nodup) (hi : X.N[i]? = some x) (hx : Loc X.env.scope x) (he : PE X e (tE B W me)) (hs : swapsWith e (some (.Name x pos')) pos.line X.env = pure false := by rfl)
    (hf : X.fn x = true ∨ X.env.scope.names.lookup x = some .local := by first | exact .inl rfl | exact .inr rfl | assumption) : PS X (.Assign [.Name x pos'] e pos) (tS B W (sAsg me (gN i))) :=
  PS.cut (ps_set hN hi hx he hs hf) (tAsg_of tg_name)
theorem ds_par {i j : Nat} {x y : Str} {a b : Expr} {px py pt : Pos} {kt k2 pt2} (hc : X.calm = true) (hN : X.N.Nodup) (hi : X.N[i]? = some x) (hj : X.N[j]? = some y) (hij : i ≠ j)
    (hx : X.env.scope.names.lookup x = some .local) (hy : X.env.scope.names.lookup y = some .local) (ha : PA X [a, b] (tA B W mr))
    (hw : swappedStores [.Tuple [.Name x px, .Name y py] kt pt] (.Tuple [a, b] k2 pt2) X.env = pure (some [x, y]))
    (hs : swapsWithSole [.Tuple [.Name x px, .Name y py] kt pt] (.Tuple [a, b] k2 pt2) pos.line X.env = pure false := by rfl) : PS X (.Assign [.Tuple [.Name x px, .Name y py] kt pt] (.Tuple [a, b] k2 pt2) pos) (tS B W (sPar i j mr)) :=
  PS.cut (ps_par hc hN hi hj hij hx hy ha hw hs) fun D σ H ⟨m, S, en, s, c, er, p⟩ => ⟨m, S, en, s, c, er, (Post.bind p).imp (by
    rintro vs H1 ⟨ds, S1, m1, _, l1, c1, r1, p1⟩
    match ds, p1, r1 with
    | [x, y], p1, r1 =>
      simp only [Reps] at r1
      obtain ⟨v, r, rfl, rv, w, r', rfl, rw', rfl⟩ := r1
      exact ⟨v, w, rfl, p1 m1 H1 (.nx _) (Le.refl l1.sub) c1 (((er.mono l1).set i rv).set j rw')⟩
    | [], p1, _ => exact p1.elim
    | [_], p1, _ => exact p1.elim
    | _ :: _ :: _ :: _, p1, _ => exact p1.elim)⟩
end
structure Its where
  ds : List D
  P : Sto → Prop
def ItR (B : Bas) (m : Mp) (its : Its) (J : It) : Prop := ∀ (m' : Mp) (H' : Hp) (S : Sto), Kp m m' → Sub m' H' → Cor B m' S → its.P S →
  (∀ (i : Nat) (d : D), its.ds[i]? = some d → J.go i H' ∧ ∀ x H'', J.yld i H' x H'' → ∃ m'', Le m' H' m'' H'' ∧ Cor B m'' S ∧ Rep B m'' d x) ∧ ∀ i, its.ds.length ≤ i → J.stop i H'
abbrev MI := En → Sto → Res Its
def tI (B : Bas) (W : WX) (f : MI) : TI := fun σ H R => ∃ m S en, Sub m H ∧ Cor B m S ∧ EnR B m en σ ∧ Post B (ItR B) (at' W σ) m H R (f en S)
open Classical in
noncomputable def loop (g : MG) (b : MS) (P : Sto → Prop) : List D → En → Sto → Res Fl
  | [], en, S => if P S then .ok (.nx en) S else .bad
  | d :: ds, en, S => if P S then (match g d en with
    | none => .bad
    | some en1 => (b en1 S).bind fun f S1 => match f with
      | .nx en2 => loop g b P ds en2 S1
      | .ct en2 => loop g b P ds en2 S1
      | .bk en2 => .ok (.nx en2) S1
      | .rt d => .ok (.rt d) S1) else .bad
noncomputable def sFor (i : MI) (g : MG) (b : MS) : MS := fun en S => (i en S).bind fun its S1 => loop g b its.P its.ds en S1
theorem tFor_of {B : Bas} {W : WX} {mi : MI} {mb : MS} {g : TG} {t : MG} {own : List Nat} (hW : WI W) (ht : TgR B own g t) (D : Ends) (σ : St) (H : Hp) (q : tS B W (sFor mi t mb) D σ H) : tFor (tI B W mi) g (tS B W mb) D σ H := by
  obtain ⟨m, S, en, s, c, er, p⟩ := q
  refine ⟨m, S, en, s, c, er, (Post.bind p).imp ?_⟩
  rintro J H1 ⟨its, S1, m1, _, l1, c1, ir, p1⟩
  refine ⟨fun i k σ' H' => k = its.ds.length - i ∧ ∃ m' S' en', Le m1 H1 m' H' ∧ Cor B m' S' ∧ EnR B m' en' σ' ∧ Post B (RFl B) (at' W σ') m' H' (qOf D) (loop t mb its.P (its.ds.drop i) en' S'),
    ⟨_, rfl, m1, S1, en, Le.refl l1.sub, c1, er.mono l1, p1⟩, ?_⟩
  rintro i k σ' H' ⟨rfl, m', S', en', l', c', er', p'⟩
  by_cases hP : its.P S'
  · obtain ⟨hg, hs⟩ := ir m' H' S' l'.toKp l'.sub c' hP
    cases hd : its.ds[i]? with
    | none =>
      have hi : its.ds.length ≤ i := List.getElem?_eq_none_iff.mp hd
      rw [List.drop_eq_nil_of_le hi, loop, if_pos hP] at p'
      exact .inl ⟨hs i hi, p' m' H' (.nx σ') (Le.refl l'.sub) c' er'⟩
    | some d =>
      have hi : i < its.ds.length := (List.getElem?_eq_some_iff.mp hd).1
      obtain ⟨go, yl⟩ := hg i d hd
      have e1 : its.ds.drop i = d :: its.ds.drop (i + 1) := by
        rw [List.drop_eq_getElem_cons hi]
        congr 1
        exact (List.getElem?_eq_some_iff.mp hd).2
      rw [e1, loop, if_pos hP] at p'
      refine .inr ⟨go, fun σ2 H2 => its.ds.length - (i + 1) = its.ds.length - (i + 1) ∧ ∃ m2 S2 en2, Le m1 H1 m2 H2 ∧ Cor B m2 S2 ∧ EnR B m2 en2 σ2 ∧ Post B (RFl B) (at' W σ2) m2 H2 (qOf D) (loop t mb its.P (its.ds.drop (i + 1)) en2 S2),
        fun σ2 H2 n2 => ⟨its.ds.length - (i + 1), by omega, n2⟩, fun x H'' y => ?_⟩
      obtain ⟨m'', l2, c2, r2⟩ := yl x H'' y
      cases e2 : t d en' with
      | none => rw [e2] at p'; exact p'.elim
      | some en1 =>
        rw [e2] at p'
        refine ht m'' H'' en' en1 σ' d x l2.sub r2 (er'.mono l2) e2 _ fun σ2 er2 _ => ?_
        refine ⟨m'', S', en1, l2.sub, c2, er2, (Post.bind ((p'.shift l2).wx fun c d H3 h => hW _ _ _ _ _ h)).imp ?_⟩
        rintro f' H3 ⟨f, S3, m3, _, l3, c3, r3, p3⟩
        cases f with
        | nx en3 =>
          cases f' with
          | nx σ3 => exact ⟨rfl, m3, S3, en3, (l'.trans l2).trans l3, c3, r3, p3.wx fun c d H4 h => hW _ _ _ _ _ h⟩
          | _ => exact r3.elim
        | ct en3 =>
          cases f' with
          | ct σ3 => exact ⟨rfl, m3, S3, en3, (l'.trans l2).trans l3, c3, r3, p3.wx fun c d H4 h => hW _ _ _ _ _ h⟩
          | _ => exact r3.elim
        | bk en3 =>
          cases f' with
          | bk σ3 => exact p3 m3 H3 (.nx σ3) (Le.refl l3.sub) c3 r3
          | _ => exact r3.elim
        | rt d3 =>
          cases f' with
          | rt v3 => exact p3 m3 H3 (.rt v3) (Le.refl l3.sub) c3 r3
          | _ => exact r3.elim
  · exfalso
    cases hl : its.ds.drop i with
    | nil => rw [hl, loop, if_neg hP] at p'; exact p'
    | cons d ds => rw [hl, loop, if_neg hP] at p'; exact p'
theorem ds_for {X : Cx} {B : Bas} {W : WX} {tg iter : Expr} {body : List Stmt} {pos : Pos} {mi : MI} {mb : MS} {g : TG} {t : MG} {own : List Nat} (hW : WI W) (hp : PassesOwn (model X.prog X.w) X.A X.env X.xe) (hc : X.calm = true)
    (ht : TgR B own g t) (hi : PI X tg iter (tI B W mi)) (hg : PG X tg g) (hb : PSs X body (tS B W mb)) (hs : ∀ x, foldedSetIterable iter X.env x = pure x := by intro _; rfl) :
    PS X (.For tg iter body [] pos) (tS B W (sFor mi t mb)) := PS.cut (ps_for hp hc hi hg hb hs) (tFor_of hW ht)
def whil (t : MT) (b : MS) : Nat → En → Sto → Res Fl
  | 0, _, _ => .bad
  | n + 1, en, S => (t en S).bind fun k S1 => match k with
    | false => .ok (.nx en) S1
    | true => (b en S1).bind fun f S2 => match f with
      | .nx en2 => whil t b n en2 S2
      | .ct en2 => whil t b n en2 S2
      | .bk en2 => .ok (.nx en2) S2
      | .rt d => .ok (.rt d) S2
def sWhile (n : Nat) (t : MT) (b : MS) : MS := fun en S => whil t b n en S
structure Fn where
  n : Nat
  run : List D → Sto → Res D
def spF (B : Bas) (F : Fn) : Sp := fun vs H Q E => ∃ m S ds, Sub m H ∧ Cor B m S ∧ Reps B m ds vs ∧ ds.length = F.n ∧ Post B (Rep B) E m H Q (F.run ds S)
theorem spF_len {B : Bas} {F : Fn} {ps : List Str} (h : F.n = ps.length) (vs : List V) (H : Hp) (Q : VK) (E : XK) (q : spF B F vs H Q E) : vs.length = ps.length := by
  obtain ⟨m, S, ds, _, _, r, n, _⟩ := q
  rw [← r.length, n, h]
def startE (N : Nat) (ds : List D) : En := ds.map some ++ List.replicate (N - ds.length) none
def fnB (n N : Nat) (b : MS) : Fn := ⟨n, fun ds S => (b (startE N ds) S).bind fun f S1 => match f with
  | .nx _ => .ok .non S1
  | .rt d => .ok d S1
  | _ => .bad⟩
theorem start_en {B : Bas} {m : Mp} {N : List Str} {ds : List D} {vs : List V} (r : Reps B m ds vs) : EnR B m (startE N.length ds) (L2.start N vs) := by
  have hl := r.length
  refine ⟨by unfold startE L2.start; simp only [List.length_append, List.length_map, List.length_replicate]; omega, fun i d e => ?_⟩
  unfold startE at e
  by_cases hi : i < ds.length
  · rw [List.getElem?_append_left (by simpa using hi), List.getElem?_map] at e
    cases e2 : ds[i]? with
    | none => rw [e2] at e; cases e
    | some x =>
      rw [e2] at e
      cases e
      obtain ⟨v, hv, rv⟩ := r.get e2
      refine ⟨v, ?_, rv⟩
      unfold L2.start
      rw [List.getElem?_append_left (by simpa [← hl] using hi), List.getElem?_map, hv]
      rfl
  · rw [List.getElem?_append_right (by simpa using hi), List.getElem?_replicate] at e
    split at e <;> cases e
abbrev WE0 (E : XK) : WX := fun c d _ H => E c d H
theorem wi_E {E : XK} : WI (WE0 E) := fun _ _ _ _ _ h => h
abbrev W0 : WX := fun _ _ _ _ => False
theorem fn_body {B : Bas} {N : List Str} {n : Nat} {ms : MS} {vs : List V} {H : Hp} {Q : VK} {E : XK} (h : spF B (fnB n N.length ms) vs H Q E) : tS B (WE0 E) ms { nx := fun _ H' => Q .non H', rt := Q } (L2.start N vs) H := by
  obtain ⟨m, S, ds, s, c, r, hn, p⟩ := h
  refine ⟨m, S, startE N.length ds, s, c, start_en r, (Post.bind p).imp ?_⟩
  rintro f' H1 ⟨f, S1, m1, _, l1, c1, r1, p1⟩
  cases f with
  | nx en =>
    cases f' with
    | nx σ => exact p1 m1 H1 .non (Le.refl l1.sub) c1 (rp_non _)
    | _ => exact r1.elim
  | rt d =>
    cases f' with
    | rt v => exact p1 m1 H1 v (Le.refl l1.sub) c1 r1
    | _ => exact r1.elim
  | bk en => exact p1.elim
  | ct en => exact p1.elim
theorem fn_ok {P : Program} {w : World} {K : PySem.W.Frag} {mg : Str → Option Value} {base : Heap} {B : Bas} {x qual : Str} {st : Stmt} {f : Addr} {fd : FuncData} {N ps : List Str} {k n : Nat} {ms : MS} (F : Fun K x qual st f fd) (S : FnScope N ps (defScope st)) (hn : n = ps.length)
    (hbody : ∀ (cdv : Value) (A : Around) (outer : List Env) (s : Shared) (H : Hp) (E : XK), Room k (A.deeper (PyProof.Rows.envOfC qual (defScope st) s.heap.objs.size f cdv)) →
      PSs (cxOf (L2.CX P w) P w K mg base N qual (defScope st) f cdv A outer s H E) (defBody st) (tS B (WE0 E) ms)) : FnOk P w K mg base (L2.CX P w) (k + 1) f fd ps (spF B (fnB n N.length ms)) :=
  F.okX S (spF_len hn) fun cdv A outer s H vs Q E hr h => ⟨_, hbody cdv A outer s H E hr, fn_body h⟩
def mCall (F : Fn) (r : MA) : ME := fun en S => (r en S).bind fun ds S1 => if ds.length = F.n then F.run ds S1 else .bad
theorem tCall_of {B : Bas} {W : WX} {F : Fn} {mr : MA} (σ : St) (H : Hp) (Q : VK) (t : tE B W (mCall F mr) σ H Q) : tCallSD (spF B F) [] (fun σ => at' W σ) (tA B W mr) σ H Q := by
  obtain ⟨m, S, en, s, c, er, p⟩ := t
  refine ⟨m, S, en, s, c, er, (Post.bind p).imp ?_⟩
  rintro vs H1 ⟨ds, S1, m1, _, l1, c1, r1, p1⟩
  split at p1
  · rename_i hn
    exact ⟨m1, S1, ds, l1.sub, c1, by rw [List.append_nil]; exact r1, hn, p1⟩
  · exact p1.elim
section
variable {X : Cx} {B : Bas} {W : WX} {k : Nat} {f : Addr} {fd : FuncData} {ps : List Str} {F : Fn} {x : Str} {p pos : Pos} {e : Expr} {es : List Expr} {mr : MA}
theorem de_call (FO : FnOk X.prog X.w X.K X.mg X.base (L2.CX X.prog X.w) k f fd ps (spF B F)) (hr : Room k X.A) (tk : Takes X W) (hm : X.mg x = some (.ref f)) (hk : PySem.W.keepIn X.K (.ref f) = true) (hb : Binds X.K fd ps [])
    (ha : PA X (e :: es) (tA B W mr)) (hg : Gl X x := by rfl) (hdb : (x == ("__debug__" : Str)) = false := by decide) (he : starEach (e :: es) X.env = (false, eval e X.env) :: starEach es X.env := by rfl) (hpl : (backTo pos (starEach es X.env)).any (·.1) = false := by rfl) :
    PE X (.Call (.Name x p) (e :: es) [] pos) (tE B W (mCall F mr)) := PE.cut (pe_callSD FO hr hg hm hk hb .nil (fun σ => passAt tk σ) ha hdb he hpl) tCall_of
end
end G
end
section
namespace G
open PySem L2
mutual
def D.bel (n : Nat) : D → Prop
  | .tup ds => D.bels n ds
  | .lst ds => D.bels n ds
  | .scr ds => D.bels n ds
  | .ktp ds => D.bels n ds
  | .dic _ ds => D.bels n ds
  | .ins _ _ ds => D.bels n ds
  | .ref i => i < n
  | .non => True
  | .bl _ => True
  | .int _ => True
  | .str _ => True
  | .fn _ => True
  | .ty _ => True
  | .cl _ => True
  | .lam _ _ _ ds _ => D.bels n ds
def D.bels (n : Nat) : List D → Prop
  | [] => True
  | d :: r => D.bel n d ∧ D.bels n r
end
def Ob.bel (n : Nat) : Ob → Prop
  | .tbl _ _ => True
  | .ndc _ ds => D.bels n ds
  | .fdc _ _ _ ds => D.bels n ds
  | .lst ds => D.bels n ds
  | .dic _ ds => D.bels n ds
  | .ins _ _ ds => D.bels n ds
  | .exc _ _ ds => D.bels n ds
mutual
theorem nk_bel (n : Nat) : ∀ {d : D} {k : NK}, nkD d = some k → d.bel n
  | .int _, _, _ => by simp only [D.bel]
  | .str _, _, _ => by simp only [D.bel]
  | .tup ds, k, h => by
    simp only [nkD] at h
    obtain ⟨ks, h1, _⟩ := Option.map_eq_some_iff.mp h
    simp only [D.bel]
    exact nks_bel n h1
  | .non, _, h => by simp [nkD] at h
  | .bl _, _, h => by simp [nkD] at h
  | .lst _, _, h => by simp [nkD] at h
  | .dic _ _, _, h => by simp [nkD] at h
  | .ins _ _ _, _, h => by simp [nkD] at h
  | .ref _, _, h => by simp [nkD] at h
  | .fn _, _, h => by simp [nkD] at h
  | .scr _, _, h => by simp [nkD] at h
  | .ktp _, _, h => by simp [nkD] at h
  | .ty _, _, h => by simp [nkD] at h
  | .cl _, _, h => by simp [nkD] at h
  | .lam _ _ _ _ _, _, h => by simp [nkD] at h
theorem nks_bel (n : Nat) : ∀ {ds : List D} {ks : List NK}, nkDs ds = some ks → D.bels n ds
  | [], _, _ => by simp only [D.bels]
  | d :: ds, ks, h => by
    simp only [nkDs] at h
    cases h1 : nkD d with
    | none => rw [h1] at h; cases h
    | some k =>
      cases h2 : nkDs ds with
      | none => rw [h1, h2] at h; cases h
      | some ks' =>
        simp only [D.bels]
        exact ⟨nk_bel n h1, nks_bel n h2⟩
end
section
variable {B : Bas} {m : Mp}
mutual
theorem Rep.bel : ∀ {d : D} {v : V}, Rep B m d v → d.bel m.n
  | .non, _, _ => by simp only [D.bel]
  | .bl _, _, _ => by simp only [D.bel]
  | .int _, _, _ => by simp only [D.bel]
  | .str _, _, _ => by simp only [D.bel]
  | .fn _, _, _ => by simp only [D.bel]
  | .ty _, _, _ => by simp only [D.bel]
  | .cl _, _, _ => by simp only [D.bel]
  | .ref i, v, h => by
    simp only [Rep] at h
    simp only [D.bel]
    exact h.1
  | .tup ds, v, h => by
    simp only [Rep] at h
    obtain ⟨a, vs, e, t, r⟩ := h
    simp only [D.bel]
    exact Reps.bel r
  | .lst ds, v, h => by
    simp only [Rep] at h
    obtain ⟨a, vs, e, t, r⟩ := h
    simp only [D.bel]
    exact Reps.bel r
  | .scr ds, v, h => by
    simp only [Rep] at h
    obtain ⟨a, vs, e, t, r⟩ := h
    simp only [D.bel]
    exact Reps.bel r
  | .ktp ds, v, h => by
    simp only [Rep] at h
    obtain ⟨a, vs, e, t, r⟩ := h
    simp only [D.bel]
    exact Reps.bel r
  | .dic ks ds, v, h => by
    simp only [Rep] at h
    obtain ⟨a, vs, e, o, t, r⟩ := h
    simp only [D.bel]
    exact Reps.bel r
  | .ins c ns ds, v, h => by
    simp only [Rep] at h
    obtain ⟨a, dx, vs, e, o, t, n, r⟩ := h
    simp only [D.bel]
    exact Reps.bel r
  | .lam f c q ds us, v, h => by
    simp only [Rep] at h
    simp only [D.bel]
    exact Reps.bel h.2.2.2
theorem Reps.bel : ∀ {ds : List D} {vs : List V}, Reps B m ds vs → D.bels m.n ds
  | [], _, _ => by simp only [D.bels]
  | d :: ds, _, h => by
    simp only [Reps] at h
    obtain ⟨v, r, e, p, q⟩ := h
    simp only [D.bels]
    exact ⟨Rep.bel p, Reps.bel q⟩
end
theorem ObR.bel {a : Addr} {o : Ob} (h : ObR B m a o) : o.bel m.n := by
  cases o with
  | tbl i q => exact True.intro
  | ndc ks ds => obtain ⟨qs, vs, e, n, r1, r2⟩ := h; exact r2.bel
  | lst ds => obtain ⟨vs, e, r⟩ := h; exact r.bel
  | dic ks ds => obtain ⟨vs, e, r⟩ := h; exact r.bel
  | fdc o u ks ds => obtain ⟨e, vs, q, r⟩ := h; exact r.bel
  | ins c ns ds => obtain ⟨dx, vs, e, n, r⟩ := h; exact r.bel
  | exc c ns ds => obtain ⟨vs, n, r, h⟩ := h; exact r.bel
end
open Classical in
noncomputable def Mp.cut (m : Mp) (n : Nat) : Mp := { mu := m.mu, n := n, Z := fun a => if ∃ j, n ≤ j ∧ j < m.n ∧ m.mu j = a then none else m.Z a }
section
variable {B : Bas} {m : Mp} {n : Nat}
open Classical in
theorem Mp.cut_out {a : Addr} (h : m.out a) : (m.cut n).Z a = m.Z a := by
  show (if ∃ j, n ≤ j ∧ j < m.n ∧ m.mu j = a then none else m.Z a) = _
  rw [if_neg]
  rintro ⟨j, _, h2, h3⟩
  exact h j h2 h3
theorem Mp.cut_oo {a : Addr} (hn : n ≤ m.n) (h : m.out a) : (m.cut n).out a := fun i hi => h i (Nat.lt_of_lt_of_le hi hn)
mutual
theorem Rep.cutR (hn : n ≤ m.n) : ∀ {d : D} {v : V}, Rep B m d v → d.bel n → Rep B (m.cut n) d v
  | .non, _, h, _ => by simpa only [Rep] using h
  | .bl _, _, h, _ => by simpa only [Rep] using h
  | .int _, _, h, _ => by simpa only [Rep] using h
  | .str _, _, h, _ => by simpa only [Rep] using h
  | .fn _, _, h, _ => by simpa only [Rep] using h
  | .ty _, _, h, _ => by simpa only [Rep] using h
  | .cl _, _, h, _ => by simpa only [Rep] using h
  | .ref i, v, h, b => by
    simp only [Rep] at h ⊢
    simp only [D.bel] at b
    exact ⟨b, h.2⟩
  | .tup ds, v, h, b => by
    simp only [Rep] at h ⊢
    simp only [D.bel] at b
    obtain ⟨a, vs, e, t, r⟩ := h
    exact ⟨a, vs, e, ⟨(Mp.cut_out t.2).trans t.1, Mp.cut_oo hn t.2⟩, Reps.cutR hn r b⟩
  | .lst ds, v, h, b => by
    simp only [Rep] at h ⊢
    simp only [D.bel] at b
    obtain ⟨a, vs, e, t, r⟩ := h
    exact ⟨a, vs, e, ⟨(Mp.cut_out t.2).trans t.1, Mp.cut_oo hn t.2⟩, Reps.cutR hn r b⟩
  | .scr ds, v, h, b => by
    simp only [Rep] at h ⊢
    simp only [D.bel] at b
    obtain ⟨a, vs, e, t, r⟩ := h
    refine ⟨a, vs, e, ?_, Reps.cutR hn r b⟩
    rcases t with ⟨t, o⟩ | t
    · refine .inl ⟨?_, Mp.cut_oo hn o⟩
      rcases t with t | ⟨x, t⟩
      · exact .inl ((Mp.cut_out o).trans t)
      · exact .inr ⟨x, (Mp.cut_out o).trans t⟩
    · exact .inr t
  | .ktp ds, v, h, b => by
    simp only [Rep] at h ⊢
    simp only [D.bel] at b
    obtain ⟨a, vs, e, t, r⟩ := h
    exact ⟨a, vs, e, t, Reps.cutR hn r b⟩
  | .dic ks ds, v, h, b => by
    simp only [Rep] at h ⊢
    simp only [D.bel] at b
    obtain ⟨a, vs, e, o, t, r⟩ := h
    exact ⟨a, vs, e, Mp.cut_oo hn o, by rw [Mp.cut_out o]; exact t, Reps.cutR hn r b⟩
  | .ins c ns ds, v, h, b => by
    simp only [Rep] at h ⊢
    simp only [D.bel] at b
    obtain ⟨a, dx, vs, e, o, t, k, r⟩ := h
    exact ⟨a, dx, vs, e, Mp.cut_oo hn o, (Mp.cut_out o).trans t, k, Reps.cutR hn r b⟩
  | .lam f c q ds us, v, h, b => by
    simp only [Rep] at h ⊢
    simp only [D.bel] at b
    obtain ⟨e, t, o, r⟩ := h
    exact ⟨e, (Mp.cut_out o).trans t, Mp.cut_oo hn o, Reps.cutR hn r b⟩
theorem Reps.cutR (hn : n ≤ m.n) : ∀ {ds : List D} {vs : List V}, Reps B m ds vs → D.bels n ds → Reps B (m.cut n) ds vs
  | [], _, h, _ => by simpa only [Reps] using h
  | d :: ds, _, h, b => by
    simp only [Reps] at h ⊢
    simp only [D.bels] at b
    obtain ⟨v, r, e, p, q⟩ := h
    exact ⟨v, r, e, Rep.cutR hn p b.1, Reps.cutR hn q b.2⟩
end
theorem ObR.cutR (hn : n ≤ m.n) {a : Addr} {o : Ob} (hz : (m.cut n).Z a = m.Z a) (h : ObR B m a o) (b : o.bel n) : ObR B (m.cut n) a o := by
  cases o with
  | tbl i q =>
    obtain ⟨ea, ps, e, t, f⟩ := h
    refine ⟨ea, ps, hz.trans e, t, fun pos cv hc => ?_⟩
    obtain ⟨c, e1, e2, e3⟩ := f pos cv hc
    exact ⟨c, e1, (Mp.cut_out e3).trans e2, Mp.cut_oo hn e3⟩
  | ndc ks ds => obtain ⟨qs, vs, e, k, r1, r2⟩ := h; exact ⟨qs, vs, by rw [hz]; exact e, k, Reps.cutR hn r1 (nks_bel n k), Reps.cutR hn r2 b⟩
  | lst ds => obtain ⟨vs, e, r⟩ := h; exact ⟨vs, hz.trans e, Reps.cutR hn r b⟩
  | dic ks ds => obtain ⟨vs, e, r⟩ := h; exact ⟨vs, by rw [hz]; exact e, Reps.cutR hn r b⟩
  | fdc o u ks ds => obtain ⟨e, vs, q, r⟩ := h; exact ⟨hz.trans e, vs, q, Reps.cutR hn r b⟩
  | ins c ns ds => obtain ⟨dx, vs, e, k, r⟩ := h; exact ⟨dx, vs, hz.trans e, k, Reps.cutR hn r b⟩
  | exc c ns ds =>
    obtain ⟨vs, k, r, h⟩ := h
    refine ⟨vs, k, Reps.cutR hn r b, ?_⟩
    rcases h with ⟨e0, e⟩ | ⟨dx, e1, e2, q⟩
    · exact .inl ⟨e0, hz.trans e⟩
    · exact .inr ⟨dx, hz.trans e1, (Mp.cut_out q).trans e2, Mp.cut_oo hn q⟩
end
def Cl (S S' : Sto) : Prop := S.length ≤ S'.length ∧ ∀ i, i < S.length → S'[i]? = S[i]? ∨ ∃ o, S'[i]? = some o ∧ o.bel S.length
theorem Cl.app (S G : Sto) : Cl S (S ++ G) := ⟨by simp, fun i hi => .inl (List.getElem?_append_left hi)⟩
open Classical in
noncomputable def Res.drop (S : Sto) : Res D → Res D
  | .ok d S' => if Cl S S' ∧ d.bel S.length then .ok d (S'.take S.length) else .bad
  | .ex c ns vs S' => if Cl S S' ∧ D.bels S.length vs then .ex c ns vs (S'.take S.length) else .bad
  | .bad => .bad
noncomputable def dropF (F : Fn) : Fn := ⟨F.n, fun ds S => (F.run ds S).drop S⟩
theorem Res.drop_app {d : D} {S G : Sto} (h : d.bel S.length) : (Res.ok d (S ++ G)).drop S = .ok d S := by
  simp only [Res.drop]
  rw [if_pos ⟨Cl.app S G, h⟩, List.take_left']
  rfl
theorem Res.drop_self {d : D} {S : Sto} (h : d.bel S.length) : (Res.ok d S).drop S = .ok d S := by
  have := Res.drop_app (G := []) h
  rwa [List.append_nil] at this
open Classical in
theorem cut_all {B : Bas} {m m1 : Mp} {H H1 : Hp} {S S1 : Sto} (c : Cor B m S) (l : Le m H m1 H1) (c1 : Cor B m1 S1) (cl : Cl S S1) : Le m H (m1.cut S.length) H1 ∧ Cor B (m1.cut S.length) (S1.take S.length) := by
  have hn : S.length ≤ m1.n := by rw [c1.n]; exact cl.1
  refine ⟨⟨⟨by rw [c.n]; exact Nat.le_refl _, fun i hi => l.mu i hi, fun a o h1 h2 => ?_⟩, fun a o h1 h2 => ?_, fun a o h => ?_⟩, ⟨?_, fun i o e => ?_, fun i j hi hj e => ?_⟩⟩
  · obtain ⟨k1, k2⟩ := l.keep a o h1 h2
    exact ⟨(Mp.cut_out k2).trans k1, Mp.cut_oo hn k2⟩
  · obtain ⟨k1, k2 | ⟨k2, k3, k4⟩⟩ := l.fr0 a o h1 h2
    · refine ⟨k1, .inl ?_⟩
      show (if _ then none else m1.Z a) = none
      split
      · rfl
      · exact k2
    · exact ⟨k1, .inr ⟨(Mp.cut_out k3).trans k2, Mp.cut_oo hn k3, k4⟩⟩
  · have h' : (if ∃ j, S.length ≤ j ∧ j < m1.n ∧ m1.mu j = a then none else m1.Z a) = some o := h
    split at h'
    · cases h'
    · exact l.sub a o h'
  · show S.length = _
    rw [List.length_take, Nat.min_eq_left cl.1]
  · have hi : i < S.length := by
      have := (List.getElem?_eq_some_iff.mp e).1
      rw [List.length_take] at this
      omega
    rw [List.getElem?_take_of_lt hi] at e
    have ob := c1.ob i o e
    refine ObR.cutR hn ?_ ob ?_
    · show (if ∃ j, S.length ≤ j ∧ j < m1.n ∧ m1.mu j = m1.mu i then none else m1.Z (m1.mu i)) = m1.Z (m1.mu i)
      rw [if_neg]
      rintro ⟨j, h1, h2, h3⟩
      have := c1.inj j i h2 (Nat.lt_of_lt_of_le hi hn) h3
      omega
    · rcases cl.2 i hi with q | ⟨o', q, b⟩
      · rw [q] at e
        have := (c.ob i o e).bel
        rw [c.n] at this
        exact this
      · rw [q] at e
        cases e
        exact b
  · have hi' : i < m1.n := Nat.lt_of_lt_of_le hi hn
    have hj' : j < m1.n := Nat.lt_of_lt_of_le hj hn
    exact c1.inj i j hi' hj' e
theorem ExR.cutR {B : Bas} {m : Mp} {n : Nat} (hn : n ≤ m.n) {ns : List Str} {vs : List D} {dd : Option Addr} (h : ExR B m ns vs dd) (b : D.bels n vs) : ExR B (m.cut n) ns vs dd := by
  rcases h with h | ⟨a, us, e, z, o, l, r⟩
  · exact .inl h
  · exact .inr ⟨a, us, e, (Mp.cut_out o).trans z, Mp.cut_oo hn o, l, Reps.cutR hn r b⟩
theorem Post.drop {B : Bas} {E : XK} {m : Mp} {H : Hp} {Q : VK} {r : Res D} {S : Sto} (c : Cor B m S) (h : Post B (Rep B) E m H Q (r.drop S)) : Post B (Rep B) E m H Q r := by
  cases r with
  | bad => exact h
  | ok d S1 =>
    intro m1 H1 v l c1 rv
    simp only [Res.drop] at h
    split at h
    · rename_i hc
      obtain ⟨l2, c2⟩ := cut_all c l c1 hc.1
      exact h _ _ _ l2 c2 (rv.cutR (by rw [c1.n]; exact hc.1.1) hc.2)
    · exact h.elim
  | ex cl ns vs S1 =>
    intro m1 H1 dd l c1 rv
    simp only [Res.drop] at h
    split at h
    · rename_i hc
      obtain ⟨l2, c2⟩ := cut_all c l c1 hc.1
      exact h _ _ _ l2 c2 (rv.cutR (by rw [c1.n]; exact hc.1.1) hc.2)
    · exact h.elim
theorem fn_drop {P : Program} {w : World} {K : PySem.W.Frag} {mg : Str → Option Value} {base : Heap} {CX : CXT} {B : Bas} {f : Addr} {fd : FuncData} {ps : List Str} {k : Nat} {F : Fn} (h : FnOk P w K mg base CX k f fd ps (spF B F)) :
    FnOk P w K mg base CX k f fd ps (spF B (dropF F)) := h.imp fun vs H Q E ⟨m, S, ds, s, c, r, n, p⟩ => ⟨m, S, ds, s, c, r, n, p.drop c⟩
end G
end
section
namespace G
open PySem L2
section
variable {B : Bas} {m : Mp} {H : Hp} {S : Sto} {Q : VK} {d : D}
theorem q_val {v : V} (s : Sub m H) (c : Cor B m S) (q : ∀ m' H' v, Le m H m' H' → Cor B m' S → Rep B m' d v → Q v H') (r : Rep B m d v) : Q v H := q m H v (Le.refl s) c r
theorem q_tup {ds : List D} {vs : List V} (s : Sub m H) (c : Cor B m S) (q : ∀ m' H' v, Le m H m' H' → Cor B m' S → Rep B m' (.tup ds) v → Q v H') (r : Reps B m ds vs) (p : Addr) (hp : H p = none) : Q (.ref p) (upd H p (.tup vs)) :=
  q _ _ _ (Le.new c s hp) (Cor.new c s hp) (rp_tup c s hp r)
theorem q_lst {ds : List D} {vs : List V} (s : Sub m H) (c : Cor B m S) (q : ∀ m' H' v, Le m H m' H' → Cor B m' S → Rep B m' (.lst ds) v → Q v H') (r : Reps B m ds vs) (p : Addr) (hp : H p = none) : Q (.ref p) (upd H p (.lst vs)) :=
  q _ _ _ (Le.new c s hp) (Cor.new c s hp) (rp_lst c s hp r)
theorem Rep.int_eq {i : Int} {v : V} (r : Rep B m (.int i) v) : v = .int i := by simpa only [Rep] using r
theorem Rep.str_eq {i : Str} {v : V} (r : Rep B m (.str i) v) : v = .str i := by simpa only [Rep] using r
theorem Rep.bl_eq {i : Bool} {v : V} (r : Rep B m (.bl i) v) : v = .bl i := by simpa only [Rep] using r
theorem Rep.non_eq {v : V} (r : Rep B m .non v) : v = .non := by simpa only [Rep] using r
end
def dI (C : Int → Int → Prop) [∀ i j, Decidable (C i j)] (g : Int → Int → D) (_ : Sto) : D → D → Option D
  | .int i, .int j => if C i j then some (g i j) else none
  | _, _ => none
def dI0 (g : Int → Int → D) (_ : Sto) : D → D → Option D
  | .int i, .int j => some (g i j)
  | _, _ => none
theorem op2_I {B : Bas} {C : Int → Int → Prop} [∀ i j, Decidable (C i j)] {f : Int → Int → Int} : Op2 B (rI C fun i j => .int (f i j)) (dI C fun i j => .int (f i j)) := fun m S H x y d1 d2 d s c r1 r2 e Q q => by
  cases d1 with
  | int i =>
    cases d2 with
    | int j =>
      simp only [dI] at e
      split at e
      · cases e
        exact ⟨i, j, r1.int_eq, r2.int_eq, by assumption, q_val s c q (rp_int m)⟩
      · cases e
    | _ => cases e
  | _ => cases e
theorem op2_I0 {B : Bas} {f : Int → Int → Int} : Op2 B (rI0 fun i j => .int (f i j)) (dI0 fun i j => .int (f i j)) := fun m S H x y d1 d2 d s c r1 r2 e Q q => by
  cases d1 with
  | int i =>
    cases d2 with
    | int j => cases e; exact ⟨i, j, r1.int_eq, r2.int_eq, q_val s c q (rp_int m)⟩
    | _ => cases e
  | _ => cases e
theorem op2_B0 {B : Bas} {f : Int → Int → Bool} : Op2 B (rI0 fun i j => .bl (f i j)) (dI0 fun i j => .bl (f i j)) := fun m S H x y d1 d2 d s c r1 r2 e Q q => by
  cases d1 with
  | int i =>
    cases d2 with
    | int j => cases e; exact ⟨i, j, r1.int_eq, r2.int_eq, q_val s c q (rp_bl m)⟩
    | _ => cases e
  | _ => cases e
noncomputable instance (i j : Int) : Decidable (CMul i j) := Classical.propDecidable _
noncomputable instance (i j : Int) : Decidable (CDiv i j) := Classical.propDecidable _
noncomputable instance (i j : Int) : Decidable (CPow i j) := Classical.propDecidable _
def dSub := dI0 fun i j => .int (i - j)
noncomputable def dDiv := dI CDiv fun i j => .int (i / j)
def dMod := dI (fun _ j => 0 < j) fun i j => .int (i % j)
noncomputable def dPow := dI CPow fun i j => .int (i ^ j.toNat)
noncomputable def dShl := dI CPow fun i j => .int (i * 2 ^ j.toNat)
def dAnd := dI0 fun i j => .int (Builtin.bitAnd i j)
def dOr := dI0 fun i j => .int (Builtin.bitOr i j)
def dLe0 := dI0 fun i j => .bl (decide (i ≤ j))
def dGt0 := dI0 fun i j => .bl (decide (j < i))
def dGe0 := dI0 fun i j => .bl (decide (j ≤ i))
def dAdd (S : Sto) : D → D → Option D
  | .int i, .int j => some (.int (i + j))
  | .str x, .str y => if x.length + y.length ≤ sizeLine then some (.str (x ++ y)) else none
  | .tup x, .tup y => if x.length + y.length ≤ sizeLine then some (.tup (x ++ y)) else none
  | .ktp x, .ktp y => if x.length + y.length ≤ sizeLine ∧ x ≠ [] ∧ y ≠ [] then some (.tup (x ++ y)) else none
  | x, y => match plL S x, plL S y with
    | some x, some y => if x.length + y.length ≤ sizeLine then some (.lst (x ++ y)) else none
    | _, _ => none
def rStrAdd : R2 := fun x y H Q => ∃ i j, x = .str i ∧ y = .str j ∧ i.length + j.length ≤ sizeLine ∧ Q (.str (i ++ j)) H
def rAddU (K : PySem.W.Frag) : R2 := fun x y H Q => (rI0 (fun i j => .int (i + j)) x y H Q ∨ rStrAdd x y H Q) ∨ (rCatA K x y H Q ∨ rCat x y H Q)
theorem op_addU {X : Cx} : OpR X (binaryOp .Add) (rAddU X.K) := (op_add.or op_add_str).or (op_catA.or op_cat)
theorem op2_add {B : Bas} : Op2 B (rAddU B.K) dAdd := fun m S H x y d1 d2 d s c r1 r2 e Q q => by
  have fin : ∀ {a b : List D}, plL S d1 = some a → plL S d2 = some b → (if a.length + b.length ≤ sizeLine then some (D.lst (a ++ b)) else none) = some d → rAddU B.K x y H Q := fun {a b} h1 h2 e => by
    split at e
    · cases e
      obtain ⟨p1, vs, rfl, k1, q1⟩ := repP s c r1 h1
      obtain ⟨p2, us, rfl, k2, q2⟩ := repP s c r2 h2
      exact .inr (.inr ⟨p1, p2, vs, us, rfl, rfl, k1, k2, by rw [← q1.length, ← q2.length]; assumption, q_lst s c q (q1.append q2)⟩)
    · cases e
  unfold dAdd at e
  split at e
  · cases e
    exact .inl (.inl ⟨_, _, r1.int_eq, r2.int_eq, q_val s c q (rp_int m)⟩)
  · split at e
    · cases e
      exact .inl (.inr ⟨_, _, r1.str_eq, r2.str_eq, by assumption, q_val s c q (rp_str m)⟩)
    · cases e
  · split at e
    · cases e
      rename_i a b hl
      have r1' := r1
      have r2' := r2
      simp only [Rep] at r1 r2
      obtain ⟨p1, vs, rfl, k1, q1⟩ := r1
      obtain ⟨p2, us, rfl, k2, q2⟩ := r2
      refine .inr (.inl ⟨p1, p2, vs, us, rfl, rfl, k1.sq s, k2.sq s, by rw [← q1.length, ← q2.length]; exact hl, fun z => ?_, fun _ z => ?_, fun _ _ => q_tup s c q (q1.append q2)⟩)
      · have : a = [] := q1.nil_iff.mp z
        subst this
        exact q_val s c q r2'
      · have : b = [] := q2.nil_iff.mp z
        subst this
        rw [List.append_nil] at q
        exact q_val s c q r1'
    · cases e
  · split at e
    · cases e
      rename_i a b hl
      simp only [Rep] at r1 r2
      obtain ⟨p1, vs, rfl, k1, q1⟩ := r1
      obtain ⟨p2, us, rfl, k2, q2⟩ := r2
      exact .inr (.inl ⟨p1, p2, vs, us, rfl, rfl, k1.sq, k2.sq, by rw [← q1.length, ← q2.length]; exact hl.1, fun z => absurd (q1.nil_iff.mp z) hl.2.1, fun _ z => absurd (q2.nil_iff.mp z) hl.2.2, fun _ _ => q_tup s c q (q1.append q2)⟩)
    · cases e
  · split at e
    · rename_i h1 h2
      exact fin h1 h2 e
    · cases e
noncomputable def dMul (S : Sto) : D → D → Option D
  | .int i, .int j => if CMul i j then some (.int (i * j)) else none
  | x, .int k => match plL S x with
    | some xs => if -(2 ^ 63) ≤ k ∧ k < 2 ^ 63 ∧ xs.length * k.toNat ≤ sizeLine then some (.lst (List.replicate k.toNat xs).flatten) else none
    | none => none
  | _, _ => none
theorem Reps.flat {B : Bas} {m : Mp} {ds : List D} {vs : List V} (r : Reps B m ds vs) : ∀ n : Nat, Reps B m (List.replicate n ds).flatten (List.replicate n vs).flatten
  | 0 => Reps.nil
  | n + 1 => by
    rw [List.replicate_succ, List.replicate_succ, List.flatten_cons, List.flatten_cons]
    exact r.append (Reps.flat r n)
theorem op_mulU {X : Cx} : OpR X (binaryOp .Mult) (fun x y H Q => rI CMul (fun i j => .int (i * j)) x y H Q ∨ rRep x y H Q) := op_mul.or op_rep
theorem op2_mul {B : Bas} : Op2 B (fun x y H Q => rI CMul (fun i j => .int (i * j)) x y H Q ∨ rRep x y H Q) dMul := fun m S H x y d1 d2 d s c r1 r2 e Q q => by
  unfold dMul at e
  split at e
  · split at e
    · cases e
      exact .inl ⟨_, _, r1.int_eq, r2.int_eq, by assumption, q_val s c q (rp_int m)⟩
    · cases e
  · split at e
    · rename_i xs h1
      split at e
      · rename_i hk
        cases e
        obtain ⟨p1, vs, rfl, k1, q1⟩ := repP s c r1 h1
        exact .inr ⟨p1, _, vs, rfl, r2.int_eq, k1, hk.1, hk.2.1, by rw [← q1.length]; exact hk.2.2, q_lst s c q (q1.flat _)⟩
      · cases e
    · cases e
  · cases e
def dEqB (S : Sto) (x y : D) : Option Bool := match x, y with
  | .str a, .str b => some (decide (a = b))
  | x, y => match pdv S x, pdv S y with
    | some p, some q => if SeqAt.shaped p = true ∧ SeqAt.shaped q = true then some (PyData.eqv p q) else none
    | _, _ => none
def dEq (S : Sto) (x y : D) : Option D := (dEqB S x y).map .bl
def dNe (S : Sto) (x y : D) : Option D := (dEqB S x y).map fun b => .bl (!b)
theorem dEqB_of {B : Bas} {m : Mp} {H : Hp} {S : Sto} {x y : V} {d1 d2 : D} {k : Bool} (s : Sub m H) (c : Cor B m S) (r1 : Rep B m d1 x) (r2 : Rep B m d2 y) (e : dEqB S d1 d2 = some k) :
    (∃ a b : Str, x = .str a ∧ y = .str b ∧ k = decide (a = b)) ∨ ∃ p q, Dp B.K H x p ∧ Dp B.K H y q ∧ SeqAt.shaped p = true ∧ SeqAt.shaped q = true ∧ k = PyData.eqv p q := by
  unfold dEqB at e
  split at e
  · cases e
    exact .inl ⟨_, _, r1.str_eq, r2.str_eq, rfl⟩
  · split at e
    · rename_i p q h1 h2
      split at e
      · rename_i hs
        cases e
        exact .inr ⟨p, q, r1.dpv s c h1, r2.dpv s c h2, hs.1, hs.2, rfl⟩
      · cases e
    · cases e
theorem str_dec (a b : Str) : decide (V.str a = V.str b) = decide (a = b) := by
  by_cases h : a = b
  · subst h; simp
  · rw [decide_eq_false h, decide_eq_false fun z => h (by injection z)]
def rEqU (K : PySem.W.Frag) : R2 := fun x y H Q => rEq x y H Q ∨ rEqD K x y H Q
def rNeU (K : PySem.W.Frag) : R2 := fun x y H Q => rNe x y H Q ∨ rNeD K x y H Q
theorem op_eqU {X : Cx} (hu : X.A.units + 64 < cLine) : OpR X (compareOp .Eq) (rEqU X.K) := op_eq.or (op_eqD hu)
theorem op_neU {X : Cx} (hu : X.A.units + 64 < cLine) : OpR X (compareOp .NotEq) (rNeU X.K) := op_ne.or (op_neD hu)
theorem op2_eq {B : Bas} : Op2 B (rEqU B.K) dEq := fun m S H x y d1 d2 d s c r1 r2 e Q q => by
  unfold dEq at e
  cases h : dEqB S d1 d2 with
  | none => rw [h] at e; cases e
  | some k =>
    rw [h] at e
    cases e
    rcases dEqB_of s c r1 r2 h with ⟨a, b, rfl, rfl, rfl⟩ | ⟨p, z, a1, a2, a3, a4, rfl⟩
    · exact .inl ⟨rfl, by rw [str_dec]; exact q_val s c q (rp_bl m)⟩
    · exact .inr ⟨p, z, a1, a2, a3, a4, q_val s c q (rp_bl m)⟩
theorem op2_ne {B : Bas} : Op2 B (rNeU B.K) dNe := fun m S H x y d1 d2 d s c r1 r2 e Q q => by
  unfold dNe at e
  cases h : dEqB S d1 d2 with
  | none => rw [h] at e; cases e
  | some k =>
    rw [h] at e
    cases e
    rcases dEqB_of s c r1 r2 h with ⟨a, b, rfl, rfl, rfl⟩ | ⟨p, z, a1, a2, a3, a4, rfl⟩
    · exact .inl ⟨rfl, by rw [str_dec]; exact q_val s c q (rp_bl m)⟩
    · exact .inr ⟨p, z, a1, a2, a3, a4, q_val s c q (rp_bl m)⟩
def sign1 (w : Str) : Option Nat := match w.cps.toList with
  | [c] => some c
  | _ => none
def dInB (S : Sto) (x y : D) : Option Bool := match y with
  | .str z => match x with
    | .str w => (sign1 w).map fun c => decide (c ∈ z.cps.toList)
    | _ => none
  | y => match seqL S y, seqT y with
    | some ds, _ => match pdv S x, pds ds with
      | some p, some qs => if SeqAt.shaped p = true ∧ SeqAt.shaped (.list qs) = true then some (qs.any fun z => PyData.eqv z p) else none
      | _, _ => none
    | none, some ds => match pdv S x, pds ds with
      | some p, some qs => if SeqAt.shaped p = true ∧ SeqAt.shaped (.tuple qs) = true then some (qs.any fun z => PyData.eqv z p) else none
      | _, _ => none
    | none, none => none
def dIn (S : Sto) (x y : D) : Option D := (dInB S x y).map .bl
def dNotIn (S : Sto) (x y : D) : Option D := (dInB S x y).map fun b => .bl (!b)
def isNon : D → Bool
  | .non => true
  | _ => false
def dIs (_ : Sto) (x y : D) : Option D := match y with
  | .non => some (.bl (isNon x))
  | _ => none
def dIsNot (_ : Sto) (x y : D) : Option D := match y with
  | .non => some (.bl (!isNon x))
  | _ => none
def dNeg (_ : Sto) : D → Option D
  | .int i => some (.int (-i))
  | _ => none
def mUn (g : Sto → D → Option D) (a : ME) : ME := fun en S => (a en S).bind fun x S1 => match g S1 x with
  | some d => .ok d S1
  | none => .bad
theorem op1_neg {B : Bas} : Op1 B (rU fun i => .int (-i)) dNeg := fun m S H x d1 d s c r1 e Q q => by
  cases d1 with
  | int i => cases e; exact ⟨i, r1.int_eq, q_val s c q (rp_int m)⟩
  | _ => cases e
theorem tUn_of {B : Bas} {W : WX} {r : V → Hp → VK → Prop} {g : Sto → D → Option D} {a : ME} (h : Op1 B r g) (σ : L2.St) (H : Hp) (Q : VK) (t : tE B W (mUn g a) σ H Q) : tUn r (tE B W a) σ H Q := by
  obtain ⟨m, S, en, s, c, er, p⟩ := t
  refine ⟨m, S, en, s, c, er, (Post.bind p).imp ?_⟩
  rintro x H1 ⟨d1, S1, m1, _, l1, c1, r1, p1⟩
  cases e : g S1 d1 with
  | none => rw [e] at p1; exact p1.elim
  | some d => rw [e] at p1; exact h m1 S1 H1 x d1 d l1.sub c1 r1 e Q p1
theorem de_un {X : Cx} {B : Bas} {W : WX} {op : UnaryOp} {a : Expr} {pos : Pos} {ma : ME} {r : V → Hp → VK → Prop} {g : Sto → D → Option D} (ho : UnR X (unaryOp op) r) (h : Op1 B r g) (ha : PE X a (tE B W ma)) : PE X (.UnaryOp op a pos) (tE B W (mUn g ma)) :=
  PE.cut (pe_un ho ha) (tUn_of h)
def dIdx (S : Sto) (x y : D) : Option D := match y with
  | .int i => match x with
    | .str z => if z.length ≤ sizeLine then (atI z.cps.toList i).map fun c => .str ⟨#[c]⟩ else none
    | x => match seqL S x, seqT x with
      | some ds, _ => atI ds i
      | none, some ds => atI ds i
      | none, none => none
  | _ => none
theorem Reps.at {B : Bas} {m : Mp} {ds : List D} {vs : List V} {i : Int} {d : D} (r : Reps B m ds vs) (e : atI ds i = some d) : ∃ v, atI vs i = some v ∧ Rep B m d v := by
  unfold atI at e ⊢
  rw [← r.length]
  cases h : ixN ds.length i with
  | none => rw [h] at e; cases e
  | some j => rw [h] at e; exact r.get e
theorem op2_idx {B : Bas} : Op2 B (rIx B.K) dIdx := fun m S H x y d1 d2 d s c r1 r2 e Q q => by
  unfold dIdx at e
  split at e
  · split at e
    · split at e
      · rename_i z hz
        rename_i i' _
        cases h : atI z.cps.toList i' with
        | none => rw [h] at e; cases e
        | some c' => rw [h] at e; cases e; exact .inr (.inr ⟨z, _, c', r1.str_eq, r2.int_eq, hz, h, q_val s c q (rp_str m)⟩)
      · cases e
    · split at e
      · rename_i ds _ h1
        obtain ⟨a, vs, rfl, k, t⟩ := repL s c r1 h1
        obtain ⟨v, hv, rv⟩ := t.at e
        exact .inl ⟨a, vs, _, v, rfl, r2.int_eq, k, hv, q_val s c q rv⟩
      · rename_i ds _ h1
        obtain ⟨a, vs, rfl, k, t⟩ := repT s r1 h1
        obtain ⟨v, hv, rv⟩ := t.at e
        exact .inr (.inl ⟨a, vs, _, v, rfl, r2.int_eq, k, hv, q_val s c q rv⟩)
      · cases e
  · cases e
theorem de_idx {X : Cx} {B : Bas} {W : WX} {a b : Expr} {pos : Pos} {ma mb : ME} {r : R2} {g : Sto → D → D → Option D} (hr : IxR X r) (h : Op2 B r g) (ha : PE X a (tE B W ma)) (hb : PE X b (tE B W mb)) (hs : PlainIx b := by intro _ _; rfl) : PE X (.Subscript a b pos) (tE B W (mOp g ma mb)) :=
  PE.cut (pe_ix hr ha hb hs) (tOp_of h)
end G
end
section
namespace G
open PySem L2
theorem PI.cut {X : Cx} {tg e : Expr} {t t' : TI} (h : PI X tg e t) (f : ∀ σ H R, t' σ H R → t σ H R) : PI X tg e t' := ⟨fun pins s σ H R I q => h.run pins s σ H R I (f σ H R q)⟩
def iSeqU (K : PySem.W.Frag) (tl : TE) : TI := fun σ H R => tl σ H fun x H1 => ∃ a, x = .ref a ∧ (((∃ xs, SqL K H1 a xs) ∧ R (Itl K a) H1) ∨ ((∃ xs, SqT K H1 a xs) ∧ R (Itt K a) H1))
theorem pi_seq {X : Cx} {tg l : Expr} {tl : TE} (hl : PE X l tl) : PI X tg l (iSeqU X.K tl) := ⟨fun pins s σ H R I h => by
  refine thn (hl.run pins s σ H _ I h) fun v s1 hq => ?_
  obtain ⟨x, H1, I1, r1, a, rfl, q⟩ := hq
  cases r1
  have fresh : ∀ b, b ∈ [s1.heap.objs.size] → FpOk X pins H1 b := fun b hb => by
    have e : b = s1.heap.objs.size := by simpa using hb
    rw [e]
    exact I1.fpOk (Nat.le_refl _) (I1.hok.fresh (Nat.le_refl _))
  rcases q with ⟨⟨xs, hs⟩, q⟩ | ⟨⟨xs, hs⟩, q⟩
  · obtain ⟨its, _, p, _⟩ := I1.list hs
    exact wpAny_pyIter_list p.isList ⟨_, _, _, _, H1, rfl, I1.kept (t' := s1.toks) (fun b o e => Heap.get?_push_of_some _ e), turn_list a _, ⟨_, Heap.get?_push_size _ rfl, rfl, rfl⟩, fresh, q⟩
  · obtain ⟨its, _, p, _⟩ := I1.tuple hs
    exact wpAny_pyIter_tuple (show s1.heap.IsTuple a its.toArray from p) ⟨_, _, _, _, H1, rfl, I1.kept (t' := s1.toks) (fun b o e => Heap.get?_push_of_some _ e), turn_tuple a _, ⟨_, Heap.get?_push_size _ rfl, rfl, rfl⟩, fresh, q⟩⟩
def iSeq (e : ME) : MI := fun en S => (e en S).bind fun d S1 => match seqL S1 d, seqT d with
  | some ds, _ => .ok ⟨ds, fun S => seqL S d = some ds⟩ S1
  | none, some ds => .ok ⟨ds, fun _ => True⟩ S1
  | none, none => .bad
theorem itr_list {B : Bas} {m : Mp} {a : Addr} {d : D} {ds : List D} (r : Rep B m d (.ref a)) : ItR B m ⟨ds, fun S => seqL S d = some ds⟩ (Itl B.K a) := fun m' H' S k s c p => by
  obtain ⟨a', vs, e, hs, rs⟩ := repL s c (r.monoK k) p
  cases e
  refine ⟨fun i x e => ?_, fun i hi => ⟨vs, hs, by rw [← rs.length]; exact hi⟩⟩
  obtain ⟨v, hv, rv⟩ := rs.get e
  refine ⟨⟨vs, v, hs, hv⟩, fun y H'' hy => ?_⟩
  obtain ⟨rfl, hy⟩ := hy
  have := hy vs hs
  rw [hv] at this
  cases this
  exact ⟨m', Le.refl s, c, rv⟩
theorem itr_tup {B : Bas} {m : Mp} {a : Addr} {d : D} {ds : List D} (r : Rep B m d (.ref a)) (e : seqT d = some ds) : ItR B m ⟨ds, fun _ => True⟩ (Itt B.K a) := fun m' H' S k s c _ => by
  obtain ⟨a', vs, e, hs, rs⟩ := repT s (r.monoK k) e
  cases e
  refine ⟨fun i x e => ?_, fun i hi => ⟨vs, hs, by rw [← rs.length]; exact hi⟩⟩
  obtain ⟨v, hv, rv⟩ := rs.get e
  refine ⟨⟨vs, v, hs, hv⟩, fun y H'' hy => ?_⟩
  obtain ⟨rfl, hy⟩ := hy
  have := hy vs hs
  rw [hv] at this
  cases this
  exact ⟨m', Le.refl s, c, rv⟩
theorem di_seq {X : Cx} {B : Bas} {W : WX} {tg l : Expr} {me : ME} (hK : B.K = X.K := by rfl) (hl : PE X l (tE B W me)) : PI X tg l (tI B W (iSeq me)) :=
  PI.cut (pi_seq hl) fun σ H R ⟨m, S, en, s, c, er, p⟩ => ⟨m, S, en, s, c, er, (Post.bind p).imp (by
    rintro v H1 ⟨d, S1, m1, _, l1, c1, r1, p1⟩
    rw [← hK]
    cases h1 : seqL S1 d with
    | some ds =>
      rw [h1] at p1
      obtain ⟨a, vs, rfl, hs, _⟩ := repL l1.sub c1 r1 h1
      exact ⟨a, rfl, .inl ⟨⟨vs, hs⟩, p1 m1 H1 _ (Le.refl l1.sub) c1 (itr_list r1)⟩⟩
    | none =>
      cases h2 : seqT d with
      | some ds =>
        rw [h1, h2] at p1
        obtain ⟨a, vs, rfl, hs, _⟩ := repT l1.sub r1 h2
        exact ⟨a, rfl, .inr ⟨⟨vs, hs⟩, p1 m1 H1 _ (Le.refl l1.sub) c1 (itr_tup r1 h2)⟩⟩
      | none => rw [h1, h2] at p1; exact p1.elim)⟩
def rangeD (lo : Int) (n : Nat) : List D := (List.range n).map fun k => .int (lo + (k : Nat))
theorem itr_range {B : Bas} {m : Mp} {lo : Int} {n : Nat} : ItR B m ⟨rangeD lo n, fun _ => True⟩ (Itr lo n) := fun m' H' S k s c _ => by
  refine ⟨fun i x e => ?_, fun i hi => by
    have hi : n ≤ i := by simpa [rangeD] using hi
    exact hi⟩
  have hi : i < n := by
    have := (List.getElem?_eq_some_iff.mp e).1
    simpa [rangeD] using this
  refine ⟨hi, fun y H'' hy => ?_⟩
  obtain ⟨rfl, rfl⟩ := hy
  refine ⟨m', Le.refl s, c, ?_⟩
  have : x = .int (lo + (i : Nat)) := by
    unfold rangeD at e
    rw [List.getElem?_map, List.getElem?_range hi] at e
    cases e
    rfl
  rw [this]
  exact rp_int m'
def rgOk (j : Int) : Prop := -(2 ^ 62) ≤ j ∧ j < 2 ^ 62
open Classical in
noncomputable def iRg1 (r : MA) : MI := fun en S => (r en S).bind fun ds S1 => match ds with
  | [.int j] => if rgOk j then .ok ⟨rangeD 0 j.toNat, fun _ => True⟩ S1 else .bad
  | _ => .bad
open Classical in
noncomputable def iRg2 (r : MA) : MI := fun en S => (r en S).bind fun ds S1 => match ds with
  | [.int i, .int j] => if rgOk i ∧ rgOk j then .ok ⟨rangeD i (j - i).toNat, fun _ => True⟩ S1 else .bad
  | _ => .bad
theorem di_rg1 {X : Cx} {B : Bas} {W : WX} {tg a : Expr} {mr : MA} {p pos : Pos} (hm : X.mg "range" = none) (ha : PA X [a] (tA B W mr)) (hg : Gl X "range" := by rfl) (hs : starEach [a] X.env = [(false, eval a X.env)] := by rfl) :
    PI X tg (.Call (.Name "range" p) [a] [] pos) (tI B W (iRg1 mr)) := PI.cut (pi_range1 hg hm ha hs) fun σ H R ⟨m, S, en, s, c, er, p⟩ => ⟨m, S, en, s, c, er, (Post.bind p).imp (by
    rintro vs H1 ⟨ds, S1, m1, _, l1, c1, r1, p1⟩
    split at p1
    · rename_i j _
      split at p1
      · rename_i hj
        simp only [Reps] at r1
        obtain ⟨v, r, rfl, rv, rfl⟩ := r1
        exact ⟨j, by rw [rv.int_eq], hj.1, hj.2, p1 m1 H1 _ (Le.refl l1.sub) c1 itr_range⟩
      · exact p1.elim
    · exact p1.elim)⟩
def Res.noex {α : Type} : Res α → Res α
  | .ok a S => .ok a S
  | _ => .bad
theorem Post.noex {α β : Type} {B : Bas} {R : Mp → α → β → Prop} {W W' : XK} {m : Mp} {H : Hp} {Q : β → Hp → Prop} {r : Res α} (h : Post B R W m H Q r.noex) : Post B R W' m H Q r := by
  cases r with
  | ok a S => exact h
  | ex c ns vs S => exact h.elim
  | bad => exact h
def wipeE (en : En) : List Nat → En
  | [] => en
  | v :: vs => (wipeE en vs).set v none
theorem wipeE_length (en : En) : ∀ vs : List Nat, (wipeE en vs).length = en.length
  | [] => rfl
  | v :: vs => by unfold wipeE; rw [List.length_set, wipeE_length en vs]
theorem wipe_other {σ : L2.St} {j : Nat} : ∀ {vs : List Nat}, j ∉ vs → (wipe σ vs)[j]? = σ[j]?
  | [], _ => rfl
  | v :: vs, h => by
    unfold wipe
    rw [List.getElem?_set_ne (fun z => h (by simp [z]))]
    exact wipe_other fun z => h (List.mem_cons_of_mem _ z)
theorem wipe_own {σ : L2.St} {j : Nat} (hj : j < σ.length) : ∀ {vs : List Nat}, j ∈ vs → (wipe σ vs)[j]? = some none
  | v :: vs, h => by
    unfold wipe
    by_cases e : v = j
    · subst e
      rw [List.getElem?_set_self (by rw [wipe_length]; exact hj)]
    · rw [List.getElem?_set_ne e]
      rcases List.mem_cons.mp h with z | z
      · exact absurd z.symm e
      · exact wipe_own hj z
theorem wipeE_some {en : En} {j : Nat} {d : D} : ∀ {vs : List Nat}, (wipeE en vs)[j]? = some (some d) → j ∉ vs ∧ en[j]? = some (some d)
  | [], h => ⟨by simp, h⟩
  | v :: vs, h => by
    unfold wipeE at h
    by_cases e : v = j
    · subst e
      by_cases hv : v < (wipeE en vs).length
      · rw [List.getElem?_set_self hv] at h; cases h
      · rw [List.getElem?_eq_none (by rw [List.length_set]; omega)] at h; cases h
    · rw [List.getElem?_set_ne e] at h
      obtain ⟨h1, h2⟩ := wipeE_some h
      exact ⟨by
        intro z
        rcases List.mem_cons.mp z with z | z
        · exact e z.symm
        · exact h1 z, h2⟩
theorem EnR.wipe {B : Bas} {m : Mp} {en : En} {σ : L2.St} (h : EnR B m en σ) (vs : List Nat) : EnR B m (wipeE en vs) (L2.wipe σ vs) := by
  refine ⟨by rw [wipeE_length, L2.wipe_length, h.1], fun i d e => ?_⟩
  obtain ⟨h1, h2⟩ := wipeE_some e
  obtain ⟨v, hv, rv⟩ := h.2 i d h2
  exact ⟨v, by rw [wipe_other h1]; exact hv, rv⟩
theorem wipe_only {own vs : List Nat} {σ σ' : L2.St} (h : Only own (wipe σ vs) σ') (hs : ∀ j ∈ own, j ∈ vs) : wipe σ' vs = wipe σ vs := by
  have hl : σ'.length = σ.length := by rw [h.1, wipe_length]
  apply List.ext_getElem?
  intro j
  by_cases hj : j ∈ vs
  · by_cases hk : j < σ.length
    · rw [wipe_own (by rw [hl]; exact hk) hj, wipe_own hk hj]
    · rw [List.getElem?_eq_none (by rw [wipe_length, hl]; omega), List.getElem?_eq_none (by rw [wipe_length]; omega)]
  · rw [wipe_other hj, h.2 j fun z => hj (hs j z)]
open Classical in
noncomputable def comp (g : MG) (t : MT) (e : ME) (P : Sto → Prop) (en : En) : List D → List D → Sto → Res (List D)
  | [], acc, S => if P S then .ok acc S else .bad
  | d :: ds, acc, S => if P S then (match g d en with
    | none => .bad
    | some en1 => (t en1 S).noex.bind fun k S1 => match k with
      | false => comp g t e P en ds acc S1
      | true => (e en1 S1).noex.bind fun x S2 => if acc.length < sizeLine then comp g t e P en ds (acc ++ [x]) S2 else .bad) else .bad
noncomputable def cItems (i : MI) (g : MG) (t : MT) (e : ME) (vs : List Nat) (en : En) (S : Sto) : Res (List D) := (i en S).bind fun its S1 => comp g t e its.P (wipeE en vs) its.ds [] S1
noncomputable def mLc (i : MI) (g : MG) (t : MT) (e : ME) (vs : List Nat) : ME := fun en S => (cItems i g t e vs en S).bind fun ds S1 => .ok (.lst ds) S1
noncomputable def mLcN (i : MI) (g : MG) (t : MT) (e : ME) (vs : List Nat) : ME := fun en S => (cItems i g t e vs en S).bind fun ds S1 => .ok (.ref S1.length) (S1 ++ [.lst ds])
def del (H : Hp) (p : Addr) : Hp := fun a => if a = p then none else H a
theorem del_at {H : Hp} {p : Addr} : del H p p = none := by unfold del; rw [if_pos rfl]
theorem del_ne {H : Hp} {p a : Addr} (h : a ≠ p) : del H p a = H a := by unfold del; rw [if_neg h]
theorem del_upd {H : Hp} {p : Addr} {o : HO} : del (upd H p o) p = del H p := by
  funext a
  by_cases h : a = p
  · rw [h, del_at, del_at]
  · rw [del_ne h, del_ne h, upd_ne h]
theorem upd_del {H : Hp} {p : Addr} {o : HO} (h : H p = some o) : upd (del H p) p o = H := by
  funext a
  by_cases e : a = p
  · rw [e, upd_same, h]
  · rw [upd_ne e, del_ne e]
theorem del_new {H : Hp} {p : Addr} (h : H p = none) : del H p = H := by
  funext a
  by_cases e : a = p
  · rw [e, del_at, h]
  · rw [del_ne e]
theorem Le.del {m m' : Mp} {H H' : Hp} {p : Addr} (l : Le m H m' H') (hz : m.Z p = none) (hp : ∃ o, H p = some o ∧ ¬ Tp o) : Le m (G.del H p) m' (G.del H' p) where
  toKp := l.toKp
  fr0 := fun a o h1 h2 => by
    by_cases e : a = p
    · rw [e, del_at] at h2; cases h2
    · rw [del_ne e] at h2 ⊢
      exact l.fr0 a o h1 h2
  sub := fun a o h => by
    obtain ⟨u, hu, nt⟩ := hp
    have e : a ≠ p := fun z => by
      rw [z, (l.fr p u hz hu nt).2] at h
      cases h
    rw [del_ne e]
    exact l.sub a o h
theorem comp_run {B : Bas} {W : WX} {m1 : Mp} {H1 : Hp} {S1 : Sto} {its : Its} {J : It} {en : En} {σ : L2.St} {vs own : List Nat} {g : TG} {t : MG} {tt : MT} {te : ME} {Q : VK} {K2 : List D → Sto → Res D}
    (sub1 : Sub m1 H1) (c1 : Cor B m1 S1) (er : EnR B m1 en σ) (ir : ItR B m1 its J) (ht : TgR B own g t) (hown : ∀ j ∈ own, j ∈ vs) (D : Addr) (hD : H1 D = none)
    (hend : ∀ (m' : Mp) (H' : Hp) (S' : Sto) (acc : List G.D) (av : List V), Le m1 H1 m' (del H' D) → Cor B m' S' → H' D = some (.lst av) → Reps B m' acc av → Post B (Rep B) (at' W σ) m' (del H' D) Q (K2 acc S') → Q (.ref D) H')
    (p1 : Post B (Rep B) (at' W σ) m1 H1 Q ((comp t tt te its.P (wipeE en vs) its.ds [] S1).bind K2)) :
    ∃ Wt : Nat → Nat → Hp → Prop, (∃ k, Wt 0 k (upd H1 D (.lst []))) ∧ ∀ i k H, Wt i k H →
      (J.stop i H ∧ Q (.ref D) H) ∨ (J.go i H ∧ ∃ Nx : Hp → Prop, (∀ H', Nx H' → ∃ m', m' < k ∧ Wt (i + 1) m' H') ∧ ∀ x H', J.yld i H x H' → g x (wipe σ vs) H' fun σ2 H2 => wipe σ2 vs = wipe σ vs ∧ tT B W0 tt σ2 H2 fun b H3 =>
        if b = true then tE B W0 te σ2 H3 fun y H4 => ∃ acc, H4 D = some (.lst acc) ∧ acc.length < sizeLine ∧ Nx (upd H4 D (.lst (acc ++ [y]))) else Nx H3) := by
  refine ⟨fun i k H' => k = its.ds.length - i ∧ ∃ m' S' acc av, Le m1 H1 m' (del H' D) ∧ Cor B m' S' ∧ H' D = some (.lst av) ∧ Reps B m' acc av ∧ Post B (Rep B) (at' W σ) m' (del H' D) Q ((comp t tt te its.P (wipeE en vs) (its.ds.drop i) acc S').bind K2),
    ⟨_, rfl, m1, S1, [], [], by rw [del_upd, del_new hD]; exact Le.refl sub1, c1, upd_same, Reps.nil, by rw [del_upd, del_new hD]; exact p1⟩, ?_⟩
  rintro i k H' ⟨rfl, m', S', acc, av, l', c', hDa, ra, p'⟩
  have zD : m'.Z D = none := l'.sub.none del_at
  have sub' : Sub m' H' := fun a o h => by
    have e : a ≠ D := fun z => by rw [z, zD] at h; cases h
    have := l'.sub a o h
    rwa [del_ne e] at this
  by_cases hP : its.P S'
  · obtain ⟨hg, hs⟩ := ir m' H' S' l'.toKp sub' c' hP
    cases hd : its.ds[i]? with
    | none =>
      have hi : its.ds.length ≤ i := List.getElem?_eq_none_iff.mp hd
      rw [List.drop_eq_nil_of_le hi, comp, if_pos hP] at p'
      exact .inl ⟨hs i hi, hend m' H' S' acc av l' c' hDa ra p'⟩
    | some d =>
      have hi : i < its.ds.length := (List.getElem?_eq_some_iff.mp hd).1
      obtain ⟨go, yl⟩ := hg i d hd
      have e1 : its.ds.drop i = d :: its.ds.drop (i + 1) := by
        rw [List.drop_eq_getElem_cons hi]
        congr 1
        exact (List.getElem?_eq_some_iff.mp hd).2
      rw [e1, comp, if_pos hP] at p'
      refine .inr ⟨go, fun H2 => its.ds.length - (i + 1) = its.ds.length - (i + 1) ∧ ∃ m2 S2 acc2 av2, Le m1 H1 m2 (del H2 D) ∧ Cor B m2 S2 ∧ H2 D = some (.lst av2) ∧ Reps B m2 acc2 av2 ∧ Post B (Rep B) (at' W σ) m2 (del H2 D) Q ((comp t tt te its.P (wipeE en vs) (its.ds.drop (i + 1)) acc2 S2).bind K2),
        fun H2 n2 => ⟨its.ds.length - (i + 1), by omega, n2⟩, fun x H'' y => ?_⟩
      obtain ⟨m2, l2, c2, r2⟩ := yl x H'' y
      have l2d := l2.del zD ⟨_, hDa, by rintro ⟨_, e⟩; cases e⟩
      obtain ⟨hD2, zD2⟩ := l2.fr D _ zD hDa
      cases e2 : t d (wipeE en vs) with
      | none => rw [e2] at p'; exact p'.elim
      | some en1 =>
        rw [e2] at p'
        refine ht m2 H'' (wipeE en vs) en1 (wipe σ vs) d x l2.sub r2 (((er.wipe vs).mono l').mono l2d) e2 _ fun σ2 er2 on => ⟨wipe_only on hown, ?_⟩
        simp only [] at p'
        have key : ∀ (m3 : Mp) (H3 : Hp), Le m2 H'' m3 H3 → H3 D = some (.lst av) ∧ m3.Z D = none ∧ Le m1 H1 m3 (del H3 D) := fun m3 H3 l3 => by
          obtain ⟨a1, a2⟩ := l3.fr D _ zD2 hD2
          exact ⟨a1, a2, (l'.trans l2d).trans (l3.del zD2 ⟨_, hD2, by rintro ⟨_, e⟩; cases e⟩)⟩
        have p2 := p'.shift l2d
        cases hk : tt en1 S' with
        | bad => rw [hk] at p2; exact p2.elim
        | ex c ns vs S3 => rw [hk] at p2; exact p2.elim
        | ok kk S3 =>
          rw [hk] at p2
          refine ⟨m2, S', en1, l2.sub, c2, er2, ?_⟩
          rw [hk]
          intro m3 H3 b l3 c3 rb
          cases rb
          obtain ⟨hD3, zD3, l13⟩ := key m3 H3 l3
          cases kk with
          | false =>
            refine iteF ⟨rfl, m3, S3, acc, av, l13, c3, hD3, (ra.mono l2d).mono l3, ?_⟩
            exact p2.shift (l3.del zD2 ⟨_, hD2, by rintro ⟨_, e⟩; cases e⟩)
          | true =>
            refine iteT ?_
            cases hx : te en1 S3 with
            | bad => simp only [Res.noex, Res.bind_ok, hx] at p2; exact p2.elim
            | ex c ns vs S4 => simp only [Res.noex, Res.bind_ok, hx] at p2; exact p2.elim
            | ok xx S4 =>
              simp only [Res.noex, Res.bind_ok, hx] at p2
              refine ⟨m3, S3, en1, l3.sub, c3, er2.mono l3, ?_⟩
              rw [hx]
              intro m4 H4 yv l4 c4 ry
              obtain ⟨hD4, zD4⟩ := l4.fr D _ zD3 hD3
              have l34 := l4.del zD3 ⟨_, hD3, by rintro ⟨_, e⟩; cases e⟩
              split at p2
              · rename_i hlen
                have ra4 : Reps B m4 (acc ++ [xx]) (av ++ [yv]) := (((ra.mono l2d).mono l3).mono l4).append (Reps.cons ry Reps.nil)
                refine ⟨av, hD4, by rw [← ra.length]; exact hlen, rfl, m4, S4, acc ++ [xx], av ++ [yv], by rw [del_upd]; exact l13.trans l34, c4, upd_same, ra4, ?_⟩
                rw [del_upd]
                exact (p2.shift (l3.del zD2 ⟨_, hD2, by rintro ⟨_, e⟩; cases e⟩)).shift l34
              · exact p2.elim
  · exfalso
    cases hl : its.ds.drop i with
    | nil => rw [hl, comp, if_neg hP] at p'; exact p'
    | cons d ds => rw [hl, comp, if_neg hP] at p'; exact p'
theorem tLc_of {B : Bas} {W : WX} {mi : MI} {g : TG} {t : MG} {tt : MT} {te : ME} {vs own : List Nat} (ht : TgR B own g t) (hown : ∀ j ∈ own, j ∈ vs) (σ : L2.St) (H : Hp) (Q : VK) (q : tE B W (mLc mi t tt te vs) σ H Q) : tLc (tI B W mi) g (tT B W0 tt) (tE B W0 te) vs σ H Q := by
  obtain ⟨m, S, en, s, c, er, p⟩ := q
  have p0 : Post B (Rep B) (at' W σ) m H Q ((mi en S).bind fun its S1 => (comp t tt te its.P (wipeE en vs) its.ds [] S1).bind fun ds S1 => .ok (.lst ds) S1) := by
    have : (mi en S).bind (fun its S1 => (comp t tt te its.P (wipeE en vs) its.ds [] S1).bind fun ds S1 => .ok (.lst ds) S1) = mLc mi t tt te vs en S := by
      unfold mLc cItems
      cases mi en S <;> rfl
    rw [this]
    exact p
  refine ⟨m, S, en, s, c, er, (Post.bind p0).imp ?_⟩
  rintro J H1 ⟨its, S1, m1, _, l1, c1, ir, p1⟩
  intro D hD
  refine comp_run l1.sub c1 (er.mono l1) ir ht hown D hD (fun m' H' S' acc av l' c' hDa ra pe => ?_) p1
  have := pe (m'.put D (.lst av)) (upd (del H' D) D (.lst av)) (.ref D) (Le.new c' l'.sub del_at) (Cor.new c' l'.sub del_at) (rp_lst c' l'.sub del_at ra)
  rwa [upd_del hDa] at this
section
variable {X : Cx} {B : Bas} {W : WX} {elt tg iter : Expr} {ifs : List Expr} {scope : Scope} {ow : List (Str × Nat)} {pos : Pos} {mi : MI} {g : TG} {t : MG} {tt : MT} {te : ME} {own : List Nat}
theorem de_lc (hc : X.calm = true) (hN : X.N.Nodup) (ht : TgR B own g t) (hown : ∀ j ∈ own, j ∈ ow.map (·.2)) (hi : PI X tg iter (tI B W mi)) (ok : BlkOk X.N X.env.scope scope ow)
    (hg : ∀ (s : Shared) (H : Hp) (C : Addr) (cl : List (Str × Addr)) (fp : List Addr), PG (X.blk s H scope (compEnvC scope cl C X.env) fp) tg g) (htt : ∀ (s : Shared) (H : Hp) (C : Addr) (cl : List (Str × Addr)) (fp : List Addr), PTs (X.blk s H scope (compEnvC scope cl C X.env) fp) ifs (tT B W0 tt))
    (he : ∀ (s : Shared) (H : Hp) (C : Addr) (cl : List (Str × Addr)) (fp : List Addr), PE (X.blk s H scope (compEnvC scope cl C X.env) fp) elt (tE B W0 te)) (hs : ∀ x, foldedSetIterable iter X.env x = pure x := by intro _; rfl) :
    PE X (.ListComp elt [⟨tg, iter, ifs, 0⟩] scope pos) (tE B W (mLc mi t tt te (ow.map (·.2)))) := PE.cut (pe_lc hc hN hi ok hg htt he hs) (tLc_of ht hown)
def tYesM : MT := fun _ S => .ok true S
theorem PTs.cut {es : List Expr} {t t' : TT} (h : PTs X es t) (f : ∀ σ H Q, t' σ H Q → t σ H Q) : PTs X es t' := ⟨fun pins s σ H Q I q => h.run pins s σ H Q I (f σ H Q q)⟩
theorem dts_nil : PTs X [] (tT B W tYesM) := PTs.cut pts_nil fun σ H Q ⟨m, S, en, s, c, er, p⟩ => p m H true (Le.refl s) c rfl
end
end G
end
section
namespace PySem.SeqAt
open Sem (wp)
open AutoSeq1 (wpAny_loadPart')
open MeetsSeq MeetsSeq2 MeetsSeq3 SeqRoads2
theorem tuple_ltF (l b : Addr) (items items2 : Array Value) (n n2 : Nat) (dd dd2 : Option Addr) (sl sl2 : Array (Option Value)) (e r : Nat → Bool) :
    Meets (Builtin.«tuple.__lt__» ⟨[.ref l, .ref b], []⟩)
      (fun A R s => (s.heap.get? l = some { cls := .type "tuple", dict := dd, data := .seq items n, slots := sl } ∧ s.heap.get? b = some { cls := .type "tuple", dict := dd2, data := .seq items2 n2, slots := sl2 }) ∧
        ((∀ j (h1 : j < items.size) (h2 : j < items2.size), EqAt A.in1 s items[j] items2[j] (e j)) ∧ (∀ j (h1 : j < items.size) (h2 : j < items2.size), (∀ i, i < j → e i = true) → e j = false → RcLt A.in1 s items[j] items2[j] (r j))) ∧
        R (.ok (.ret (.bool (firstLt e r (decide (items.size < items2.size)) (List.range (min items.size items2.size)))))) s) :=
  .of_wp fun prog w A R s h => by
    obtain ⟨hp, g, d, tk, os⟩ := s; obtain ⟨⟨hl, hb⟩, ⟨he, hr⟩, h⟩ := h
    have f2 := AutoSeq1.sub_tuple_tuple
    have lenZ : (items.toList.zip items2.toList).length = min items.size items2.size := by simp
    wp_walk using wpAny_loadPart' hl, wpAny_loadPart' hb, wpAny_forIn_list _ (fun rest b s' => b.1 = none ∧ s' = ⟨hp, g, d, tk, os⟩ ∧ ∃ i, (∀ k, k < i → e k = true) ∧ rest = (items.toList.zip items2.toList).drop i ∧
      R (.ok (.ret (.bool (firstLt e r (decide (items.size < items2.size)) ((List.range (min items.size items2.size)).drop i))))) ⟨hp, g, d, tk, os⟩) _
    case turn =>
      rintro ⟨y, x⟩ rest b s' ⟨hb', rfl, i, hpre, hz, hR⟩
      have hlt : i < (items.toList.zip items2.toList).length := by
        apply Nat.lt_of_not_le
        intro h'
        rw [List.drop_of_length_le h'] at hz
        cases hz
      have hm : i < min items.size items2.size := lenZ ▸ hlt
      have h1 : i < items.size := Nat.lt_of_lt_of_le hm (Nat.min_le_left _ _)
      have h2 : i < items2.size := Nat.lt_of_lt_of_le hm (Nat.min_le_right _ _)
      rw [List.drop_eq_getElem_cons hlt] at hz
      injection hz with hyx hrest
      obtain rfl : y = items[i] := by simpa using congrArg Prod.fst hyx
      obtain rfl : x = items2[i] := by simpa using congrArg Prod.snd hyx
      have hd : (List.range (min items.size items2.size)).drop i = i :: (List.range (min items.size items2.size)).drop (i + 1) := by simp [List.drop_eq_getElem_cons, hm]
      rw [hd] at hR
      refine wpAny_bind (he i h1 h2 prog w _ _ ?_)
      cases hy : e i with
      | true =>
        rw [firstLt_yes hy] at hR
        wp_walk
        refine ⟨rfl, rfl, i + 1, fun k hk => ?_, hrest, hR⟩
        rcases Nat.lt_succ_iff_lt_or_eq.mp hk with z | z
        · exact hpre k z
        · rw [z]; exact hy
      | false =>
        rw [firstLt_no hy] at hR
        have hrc := hr i h1 h2 hpre hy
        unfold RcLt at hrc
        generalize richCompare CmpOp.Lt items[i] items2[i] = rc at hrc ⊢
        wp_walk
        refine hrc prog w _ _ ?_
        wp_walk
        exact ⟨_, rfl, hR⟩
    case fin =>
      rintro ⟨b1, b2⟩ s' ⟨hb', rfl, i, _, hz, hR⟩
      simp only at hb'
      subst hb'
      have hge : min items.size items2.size ≤ i := by
        apply Nat.le_of_not_lt
        intro h'
        rw [List.drop_eq_getElem_cons (by rw [lenZ]; exact h')] at hz
        cases hz
      rw [List.drop_of_length_le (by simpa using hge)] at hR
      wp_walk
      exact ⟨_, rfl, by simpa [Builtin.Tuple.tupleCompareSizes, firstLt] using hR⟩
    case h => exact ⟨rfl, rfl, 0, fun k hk => absurd hk (Nat.not_lt_zero _), rfl, by simpa using h⟩
theorem RcLt.tupF {A : Around} {s : Shared} {l b : Addr} {items items2 : Array Value} {e r : Nat → Bool} (hl : s.heap.IsTuple l items) (hb : s.heap.IsTuple b items2) (hu : A.units < cLine)
    (he : ∀ j (h1 : j < items.size) (h2 : j < items2.size), EqAt A.in1 s items[j] items2[j] (e j)) (hr : ∀ j (h1 : j < items.size) (h2 : j < items2.size), (∀ i, i < j → e i = true) → e j = false → RcLt A.in1 s items[j] items2[j] (r j)) :
    RcLt A s (.ref l) (.ref b) (firstLt e r (decide (items.size < items2.size)) (List.range (min items.size items2.size))) := fun prog w E Q h => by
  obtain ⟨⟨cls, dd, data, sl⟩, ho, hc, n, hd⟩ := id hl
  obtain ⟨⟨cls2, dd2, data2, sl2⟩, ho2, hc2, n2, hd2⟩ := id hb
  simp only at hc hd hc2 hd2
  subst hc hd hc2 hd2
  exact richCompare_meets_room (op := .Lt) ⟨_, ho, rfl⟩ ⟨_, ho2, rfl⟩ F.slot_tuple_lt F.entry_tuple_lt (F.args_tuple_lt_2 _ _) (tuple_ltF l b items items2 n n2 dd dd2 sl sl2 e r)
    ⟨⟨ho, ho2⟩, ⟨he, hr⟩, ⟨(fun x => nomatch x), h⟩⟩ hu
end PySem.SeqAt
namespace G
open PySem L2
mutual
def pLt : PyData → PyData → Option Bool
  | .int i, .int j => some (decide (i < j))
  | .str x, .str y => some (decide (x.cps.toList < y.cps.toList))
  | .tuple xs, .tuple ys => pLts xs ys
  | _, _ => none
def pLts : List PyData → List PyData → Option Bool
  | [], [] => some false
  | [], _ :: _ => some true
  | _ :: _, [] => some false
  | x :: xs, y :: ys => if PyData.eqv x y = true then pLts xs ys else pLt x y
end
open SeqAt in
theorem firstLt_shift (e r : Nat → Bool) (fin : Bool) (n : Nat) : firstLt e r fin (List.range (n + 1)) = if e 0 = true then firstLt (fun j => e (j + 1)) (fun j => r (j + 1)) fin (List.range n) else r 0 := by
  rw [List.range_succ_eq_map, firstLt]
  congr 1
  generalize List.range n = l
  induction l with
  | nil => rfl
  | cons j t ih => simp only [List.map_cons, firstLt, ih]
open SeqAt in
theorem firstLt_pLts : ∀ (xs ys : List PyData) (k : Bool) (r : Nat → Bool), pLts xs ys = some k →
    (∀ j, j < xs.length → j < ys.length → (∀ i, i < j → pairEq xs ys i = true) → pairEq xs ys j = false → pLt (xs.getD j .none) (ys.getD j .none) = some (r j)) →
    firstLt (pairEq xs ys) r (decide (xs.length < ys.length)) (List.range (min xs.length ys.length)) = k
  | [], [], k, r, h, _ => by
    simp only [pLts] at h
    cases h
    simp [firstLt]
  | [], y :: ys, k, r, h, _ => by
    simp only [pLts] at h
    cases h
    simp [firstLt]
  | x :: xs, [], k, r, h, _ => by
    simp only [pLts] at h
    cases h
    simp [firstLt]
  | x :: xs, y :: ys, k, r, h, hr => by
    have e0 : pairEq (x :: xs) (y :: ys) 0 = PyData.eqv x y := rfl
    have e1 : ∀ j, pairEq (x :: xs) (y :: ys) (j + 1) = pairEq xs ys j := fun _ => rfl
    simp only [List.length_cons, Nat.succ_min_succ, firstLt_shift, e0, e1]
    simp only [pLts] at h
    split at h
    · rename_i hq
      rw [if_pos hq]
      have ih := firstLt_pLts xs ys k (fun j => r (j + 1)) h fun j h1 h2 hpre hj => by
        have := hr (j + 1) (by simpa using h1) (by simpa using h2) (fun i hi => by
          cases i with
          | zero => exact hq
          | succ i => exact hpre i (by omega)) hj
        simpa using this
      simpa using ih
    · rename_i hq
      rw [if_neg hq]
      have := hr 0 (by simp) (by simp) (fun i hi => absurd hi (Nat.not_lt_zero _)) (by rw [e0]; simpa using hq)
      simp only [List.getD_cons_zero] at this
      rw [h] at this
      exact (Option.some.inj this).symm
theorem pLts_at : ∀ (xs ys : List PyData) (k : Bool), pLts xs ys = some k → ∀ j, j < xs.length → j < ys.length → (∀ i, i < j → SeqAt.pairEq xs ys i = true) → SeqAt.pairEq xs ys j = false → ∃ q, pLt (xs.getD j .none) (ys.getD j .none) = some q
  | [], _, _, _, j, h1, _, _, _ => absurd h1 (Nat.not_lt_zero _)
  | _ :: _, [], _, _, j, _, h2, _, _ => absurd h2 (Nat.not_lt_zero _)
  | x :: xs, y :: ys, k, h, j, h1, h2, hpre, hj => by
    simp only [pLts] at h
    cases j with
    | zero =>
      have hj' : PyData.eqv x y = false := hj
      rw [hj'] at h
      simp only [Bool.false_eq_true, if_false] at h
      exact ⟨k, h⟩
    | succ j =>
      have h0 : PyData.eqv x y = true := hpre 0 (Nat.succ_pos _)
      rw [if_pos h0] at h
      exact pLts_at xs ys k h j (by simpa using h1) (by simpa using h2) (fun i hi => hpre (i + 1) (by omega)) hj
mutual
theorem rcLt_p : ∀ (da db : PyData) (A : Around) (s : Shared) (a b : Value) (as bs : List Addr) (k : Bool), Reads s.heap a da as → Reads s.heap b db bs → da.canLay0 = true → db.canLay0 = true → A.units + min da.depth db.depth < cLine → pLt da db = some k → SeqAt.RcLt A s a b k
  | .int x, db, A, s, a, b, as, bs, k, ra, rb, ha, hb, hu, h => by
    cases db with
    | int y =>
      simp only [pLt] at h
      cases h
      cases ra
      cases rb
      exact fun prog w E Q hq => P.lt_int hq
    | _ => simp [pLt] at h
  | .str x, db, A, s, a, b, as, bs, k, ra, rb, ha, hb, hu, h => by
    cases db with
    | str y =>
      simp only [pLt] at h
      cases h
      cases ra
      cases rb
      exact fun prog w E Q hq => P.lt_str hq
    | _ => simp [pLt] at h
  | .tuple xs, db, A, s, a, b, as, bs, k, ra, rb, ha, hb, hu, h => by
    cases db with
    | tuple ys =>
      simp only [pLt] at h
      have ha' : PyData.canLayAll0 xs = true := by simpa [PyData.canLay0] using ha
      have hb' : PyData.canLayAll0 ys = true := by simpa [PyData.canLay0] using hb
      cases ra with
      | @tuple l o vs n _ as₁ h1 h2 h3 h4 =>
        cases rb with
        | @tuple l' o' vs' n' _ bs₁ k1 k2 k3 k4 =>
          have hl : s.heap.IsTuple l vs := ⟨_, h1, h2, _, h3⟩
          have hl' : s.heap.IsTuple l' vs' := ⟨_, k1, k2, _, k3⟩
          have n1 : vs.size = xs.length := PySem.W.readsAll_len h4
          have n2 : vs'.size = ys.length := PySem.W.readsAll_len k4
          have hu1 : (A.in1).units + min (PyData.depthAll xs) (PyData.depthAll ys) < cLine := SeqAt.room_in hu
          rw [← firstLt_pLts xs ys k (fun j => (pLt (xs.getD j .none) (ys.getD j .none)).getD false) h (fun j h1 h2 hpre hj => by
            obtain ⟨q, hq⟩ := pLts_at xs ys k h j h1 h2 hpre hj
            rw [hq]
            rfl), ← n1, ← n2]
          refine SeqAt.RcLt.tupF hl hl' (SeqAt.room_here hu) (fun j j1 j2 => ?_) fun j j1 j2 hpre hj => ?_
          · have := SeqAt.eqAt_readsAll xs ys A.in1 s vs.toList vs'.toList _ _ h4 k4 ha' hb' hu1 j (by simpa using j1) (by simpa using j2)
            simpa using this
          · obtain ⟨q, hq⟩ := pLts_at xs ys k h j (by omega) (by omega) hpre hj
            have := rcLt_ps xs ys A.in1 s vs.toList vs'.toList _ _ h4 k4 ha' hb' hu1 j (by simpa using j1) (by simpa using j2) q hq
            rw [hq]
            simpa using this
    | _ => simp [pLt] at h
  | .none, db, _, _, _, _, _, _, _, _, _, _, _, _, h => by simp [pLt] at h
  | .bool _, db, _, _, _, _, _, _, _, _, _, _, _, _, h => by simp [pLt] at h
  | .list _, db, _, _, _, _, _, _, _, _, _, _, _, _, h => by simp [pLt] at h
  | .dict _, db, _, _, _, _, _, _, _, _, _, _, _, _, h => by simp [pLt] at h
theorem rcLt_ps : ∀ (xs ys : List PyData) (A : Around) (s : Shared) (vs ws : List Value) (as bs : List Addr), ReadsAll s.heap vs xs as → ReadsAll s.heap ws ys bs → PyData.canLayAll0 xs = true → PyData.canLayAll0 ys = true →
    A.units + min (PyData.depthAll xs) (PyData.depthAll ys) < cLine → ∀ j (h1 : j < vs.length) (h2 : j < ws.length) (q : Bool), pLt (xs.getD j .none) (ys.getD j .none) = some q → SeqAt.RcLt A s vs[j] ws[j] q
  | [], _, _, _, _, _, _, _, ra, _, _, _, _, j, h1, _, _, _ => by cases ra; exact absurd h1 (Nat.not_lt_zero _)
  | _ :: _, [], _, _, _, _, _, _, _, rb, _, _, _, j, _, h2, _, _ => by cases rb; exact absurd h2 (Nat.not_lt_zero _)
  | x :: xs, y :: ys, A, s, _, _, _, _, ra, rb, ha, hb, hu, j, h1, h2, q, hq => by
    have ha' : x.canLay0 = true ∧ PyData.canLayAll0 xs = true := by simpa [PyData.canLayAll0] using ha
    have hb' : y.canLay0 = true ∧ PyData.canLayAll0 ys = true := by simpa [PyData.canLayAll0] using hb
    cases ra with
    | cons r rs =>
      cases rb with
      | cons r' rs' =>
        cases j with
        | zero => exact rcLt_p x y A s _ _ _ _ q r r' ha'.1 hb'.1 (SeqAt.room_head hu) (by simpa using hq)
        | succ j => exact rcLt_ps xs ys A s _ _ _ _ rs rs' ha'.2 hb'.2 (SeqAt.room_tail hu) j (Nat.lt_of_succ_lt_succ h1) (Nat.lt_of_succ_lt_succ h2) q (by simpa using hq)
end
end G
end
section
namespace PySem
section
variable {prog : Program} {w : World} {A : Around} {E : Value → Shared → Prop} {s : Shared}
end
end PySem
namespace G
open PySem L2
def rLtP (K : PySem.W.Frag) : R2 := fun x y H Q => ∃ p q k, Dp K H x p ∧ Dp K H y q ∧ SeqAt.shaped p = true ∧ SeqAt.shaped q = true ∧ pLt p q = some k ∧ Q (.bl k) H
theorem room_sh {A : Around} {p q : PyData} (h : SeqAt.shaped p = true) (hu : A.units + 64 < cLine) : A.units + min p.depth q.depth < cLine := SeqAt.room_of_shaped h hu
theorem op_ltP {X : Cx} (hu : X.A.units + 64 < cLine) : OpR X (compareOp .Lt) (rLtP X.K) := by
  intro pins s σ H x y v u Q I rx ry h
  obtain ⟨p, q, k, hp, hq, sp, sq, e, qq⟩ := h
  obtain ⟨as, r1⟩ := Dp.reads I p x v hp rx
  obtain ⟨bs, r2⟩ := Dp.reads I q y u hq ry
  exact rcLt_p p q X.A s v u as bs k r1 r2 (SeqAt.canLay_of_shaped sp) (SeqAt.canLay_of_shaped sq) (room_sh sp hu) e X.prog X.w X.xe _ ⟨.bl k, H, I, rfl, qq⟩
def dLt (S : Sto) (x y : D) : Option D := match pdv S x, pdv S y with
  | some p, some q => if SeqAt.shaped p = true ∧ SeqAt.shaped q = true then (pLt p q).map .bl else none
  | _, _ => none
theorem op2_lt {B : Bas} : Op2 B (rLtP B.K) dLt := fun m S H x y d1 d2 d s c r1 r2 e Q q => by
  unfold dLt at e
  split at e
  · rename_i p z h1 h2
    split at e
    · rename_i hs
      cases h : pLt p z with
      | none => rw [h] at e; cases e
      | some k => rw [h] at e; cases e; exact ⟨p, z, k, r1.dpv s c h1, r2.dpv s c h2, hs.1, hs.2, h, q_val s c q (rp_bl m)⟩
    · cases e
  · cases e
open Classical in
noncomputable def dMin2 (S : Sto) : List D → Option D
  | [x, y] => match pdv S x, pdv S y with
    | some p, some q => if SeqAt.shaped p = true ∧ SeqAt.shaped q = true ∧ PySem.W.AlikeAll [p, q] then some (if PySem.W.dataLt q p = true then y else x) else none
    | _, _ => none
  | _ => none
open Classical in
noncomputable def dMax2 (S : Sto) : List D → Option D
  | [x, y] => match pdv S x, pdv S y with
    | some p, some q => if SeqAt.shaped p = true ∧ SeqAt.shaped q = true ∧ PySem.W.AlikeAll [p, q] then some (if PySem.W.dataLt p q = true then y else x) else none
    | _, _ => none
  | _ => none
end G
end
section
namespace G
open PySem L2
theorem CallR.or {X : Cx} {f : Value} {r r' : List V → Hp → VK → Prop} (h : CallR X f r) (h' : CallR X f r') : CallR X f (fun xs H Q => r xs H Q ∨ r' xs H Q) := by
  intro pins s σ H xs us Q I rx q
  rcases q with q | q
  · exact h pins s σ H xs us Q I rx q
  · exact h' pins s σ H xs us Q I rx q
section
variable {X : Cx} {B : Bas} {W : WX} {x : Str} {p pos : Pos} {e : Expr} {es : List Expr} {mr : MA} {id T : String} {r : List V → Hp → VK → Prop} {g : Sto → List D → Option D}
theorem de_callB (hc : CallR X (.builtin id) r) (h : OpN B r g) (hm : X.mg x = none) (hv : bootBuiltins x = some (.builtin id)) (ha : PA X (e :: es) (tA B W mr)) (hg : Gl X x := by rfl) (hn : x ≠ "__name__" := by decide) (hdb : (x == ("__debug__" : Str)) = false := by decide)
    (he : starEach (e :: es) X.env = (false, eval e X.env) :: starEach es X.env := by rfl) (hpl : (backTo pos (starEach es X.env)).any (·.1) = false := by rfl) : PE X (.Call (.Name x p) (e :: es) [] pos) (tE B W (mCB g mr)) :=
  PE.cut (pe_callB hc hg hm hv ha hn hdb he hpl) (tCB_of h)
theorem de_callTy (hc : CallR X (.type T) r) (h : OpN B r g) (hm : X.mg x = none) (hv : bootBuiltins x = some (.type T)) (ha : PA X (e :: es) (tA B W mr)) (hg : Gl X x := by rfl) (hn : x ≠ "__name__" := by decide) (hdb : (x == ("__debug__" : Str)) = false := by decide)
    (he : starEach (e :: es) X.env = (false, eval e X.env) :: starEach es X.env := by rfl) (hpl : (backTo pos (starEach es X.env)).any (·.1) = false := by rfl) : PE X (.Call (.Name x p) (e :: es) [] pos) (tE B W (mCB g mr)) :=
  PE.cut (pe_callTy hc hg hm hv ha hn hdb he hpl) (tCB_of h)
end
theorem Reps.one {B : Bas} {m : Mp} {d : D} {vs : List V} (r : Reps B m [d] vs) : ∃ v, vs = [v] ∧ Rep B m d v := by
  simp only [Reps] at r
  obtain ⟨v, _, rfl, rv, rfl⟩ := r
  exact ⟨v, rfl, rv⟩
theorem Reps.two {B : Bas} {m : Mp} {d e : D} {vs : List V} (r : Reps B m [d, e] vs) : ∃ v w, vs = [v, w] ∧ Rep B m d v ∧ Rep B m e w := by
  simp only [Reps] at r
  obtain ⟨v, _, rfl, rv, w, _, rfl, rw', rfl⟩ := r
  exact ⟨v, w, rfl, rv, rw'⟩
def dLen (S : Sto) : List D → Option D
  | [.str z] => if z.length ≤ sizeLine then some (.int z.length) else none
  | [x] => match seqL S x, seqT x, dicOf S x with
    | some ds, _, _ => some (.int ds.length)
    | none, some ds, _ => some (.int ds.length)
    | none, none, some (ks, _) => some (.int ks.length)
    | none, none, none => none
  | _ => none
def rLenU (K : PySem.W.Frag) : List V → Hp → VK → Prop := fun xs H Q => ((∃ p ys, xs = [.ref p] ∧ (SqL K H p ys ∨ SqT K H p ys) ∧ Q (.int ys.length) H) ∨ (∃ z, xs = [.str z] ∧ z.length ≤ sizeLine ∧ Q (.int z.length) H)) ∨ ((∃ a kvs, xs = [V.ref a] ∧ H a = some (.dK kvs) ∧ Q (.int kvs.length) H) ∨ rLenT xs H Q)
theorem call_lenU {X : Cx} : CallR X (.builtin "len") (rLenU X.K) := (call_len_seq.or call_len_str).or (call_lenD.or call_len_dT)
theorem keysD_length : ∀ {ks : List D} {q : List Key}, keysD ks = some q → q.length = ks.length
  | [], q, h => by cases h; rfl
  | k :: r, q, h => by
    simp only [keysD] at h
    split at h
    · rename_i a b h1 h2
      cases h
      simp [keysD_length h2]
    · cases h
theorem tkeysD_length : ∀ {ks : List D} {q : List (List Key)}, tkeysD ks = some q → q.length = ks.length
  | [], q, h => by cases h; rfl
  | k :: r, q, h => by
    simp only [tkeysD] at h
    split at h
    · rename_i a b h1 h2
      cases h
      simp [tkeysD_length h2]
    · cases h
theorem opn_len {B : Bas} : OpN B (rLenU B.K) dLen := fun m S H xs ds d s c r e Q q => by
  unfold dLen at e
  split at e
  · split at e
    · cases e
      obtain ⟨v, rfl, rv⟩ := r.one
      exact .inl (.inr ⟨_, by rw [rv.str_eq], by assumption, q_val s c q (rp_int m)⟩)
    · cases e
  · obtain ⟨v, rfl, rv⟩ := r.one
    split at e
    · rename_i ds _ _ h1
      cases e
      obtain ⟨a, vs, rfl, k, t⟩ := repL s c rv h1
      exact .inl (.inl ⟨a, vs, rfl, .inl k, by rw [← t.length]; exact q_val s c q (rp_int m)⟩)
    · rename_i ds _ _ h1
      cases e
      obtain ⟨a, vs, rfl, k, t⟩ := repT s rv h1
      exact .inl (.inl ⟨a, vs, rfl, .inr k, by rw [← t.length]; exact q_val s c q (rp_int m)⟩)
    · rename_i ks ds _ _ h1
      cases e
      obtain ⟨a, vs, rfl, ⟨k1, k2⟩, t⟩ := repD s c rv h1
      rcases k2 with ⟨z, _, hz, k2⟩ | ⟨z, hz, k2⟩
      · have hl : (z.zip vs).length = ks.length := by rw [List.length_zip, keysD_length hz, ← k1, Nat.min_self]
        exact .inr (.inl ⟨a, _, rfl, k2, by rw [hl]; exact q_val s c q (rp_int m)⟩)
      · have hl : (z.zip vs).length = ks.length := by rw [List.length_zip, tkeysD_length hz, ← k1, Nat.min_self]
        exact .inr (.inr ⟨a, _, rfl, k2, by rw [hl]; exact q_val s c q (rp_int m)⟩)
    · cases e
  · cases e
def dInt (_ : Sto) : List D → Option D
  | [.int i] => some (.int i)
  | [.bl k] => some (.int (if k then 1 else 0))
  | [.str a] => if a.length ≤ 640 then (PySem.intText? a).map .int else none
  | _ => none
def rIntU : List V → Hp → VK → Prop := fun xs H Q => ((∃ i, xs = [.int i] ∧ Q (.int i) H) ∨ ∃ k, xs = [.bl k] ∧ Q (.int (if k then 1 else 0)) H) ∨ ∃ a n, xs = [.str a] ∧ PySem.intText? a = some n ∧ a.length ≤ 640 ∧ Q (.int n) H
theorem call_intU {X : Cx} : CallR X (.type "int") rIntU := call_int1.or call_int_str
theorem opn_int {B : Bas} : OpN B rIntU dInt := fun m S H xs ds d s c r e Q q => by
  unfold dInt at e
  split at e
  · cases e
    obtain ⟨v, rfl, rv⟩ := r.one
    exact .inl (.inl ⟨_, by rw [rv.int_eq], q_val s c q (rp_int m)⟩)
  · cases e
    obtain ⟨v, rfl, rv⟩ := r.one
    exact .inl (.inr ⟨_, by rw [rv.bl_eq], q_val s c q (rp_int m)⟩)
  · split at e
    · rename_i a hl
      obtain ⟨v, rfl, rv⟩ := r.one
      cases h : PySem.intText? a with
      | none => rw [h] at e; cases e
      | some n => rw [h] at e; cases e; exact .inr ⟨a, n, by rw [rv.str_eq], h, hl, q_val s c q (rp_int m)⟩
    · cases e
  · cases e
def dAbs (_ : Sto) : List D → Option D
  | [.int i] => some (.int (if i < 0 then -i else i))
  | _ => none
def rAbsU : List V → Hp → VK → Prop := fun xs H Q => ∃ i, xs = [.int i] ∧ Q (.int (if i < 0 then -i else i)) H
theorem opn_abs {B : Bas} : OpN B rAbsU dAbs := fun m S H xs ds d s c r e Q q => by
  unfold dAbs at e
  split at e
  · cases e
    obtain ⟨v, rfl, rv⟩ := r.one
    exact ⟨_, by rw [rv.int_eq], q_val s c q (rp_int m)⟩
  · cases e
def dStr (_ : Sto) : List D → Option D
  | [.int i] => if i.natAbs.log2 < 1920 then some (.str (toString i)) else none
  | [.str a] => some (.str a)
  | _ => none
def dTuple (S : Sto) : List D → Option D
  | [x] => match seqL S x with
    | some ds => some (.tup ds)
    | none => match x with
      | .tup ds => some (.tup ds)
      | _ => none
  | _ => none
def dList (S : Sto) : List D → Option D
  | [x] => match seqL S x, seqT x with
    | some ds, _ => some (.lst ds)
    | none, some ds => some (.lst ds)
    | none, none => none
  | _ => none
def bls : List D → Option (List Bool)
  | [] => some []
  | .bl b :: r => (bls r).map (b :: ·)
  | _ => none
def dAll (S : Sto) : List D → Option D
  | [x] => ((seqL S x).bind bls).map fun bs => .bl (bs.all id)
  | _ => none
def dAny (S : Sto) : List D → Option D
  | [x] => ((seqL S x).bind bls).map fun bs => .bl (bs.any id)
  | _ => none
def tyN (S : Sto) (d : D) : Option String := match d with
  | .non => some "NoneType"
  | .bl _ => some "bool"
  | .int _ => some "int"
  | .str _ => some "str"
  | .tup _ => some "tuple"
  | .ktp _ => some "tuple"
  | .lst _ => some "list"
  | .dic _ _ => some "dict"
  | .ref i => match S[i]? with
    | some (.lst _) => some "list"
    | some (.dic _ _) => some "dict"
    | _ => none
  | _ => none
theorem tyN_of {B : Bas} {m : Mp} {H : Hp} {S : Sto} {d : D} {v : V} {n : String} (s : Sub m H) (c : Cor B m S) (r : Rep B m d v) (e : tyN S d = some n) : TyX B.K H v (.type n) := by
  have dic : ∀ {a : Addr} {ks : List D} {vs : List V}, DicAt (m.Z a) ks vs → TyX B.K H (.ref a) (.type "dict") := fun {a ks vs} h => by
    rcases h with ⟨_, ⟨q, _, _, z⟩ | ⟨q, _, z⟩⟩
    · exact .base (.dK (s _ _ z))
    · exact .base (.dT (s _ _ z))
  cases d with
  | non => cases e; rw [r.non_eq]; exact .base .non
  | bl b => cases e; rw [r.bl_eq]; exact .base (.bl b)
  | int b => cases e; rw [r.int_eq]; exact .base (.int b)
  | str b => cases e; rw [r.str_eq]; exact .base (.str b)
  | tup ds =>
    cases e
    simp only [Rep] at r
    obtain ⟨a, vs, rfl, t, _⟩ := r
    exact .base (.tup (s _ _ t.1))
  | ktp ds =>
    cases e
    simp only [Rep] at r
    obtain ⟨a, vs, rfl, t, _⟩ := r
    rcases t with (t | ⟨_, t⟩) | ⟨o, its, k, h1, h2, _⟩
    · cases t
    · cases t
    · exact .kTuple h1 h2
  | lst ds =>
    cases e
    simp only [Rep] at r
    obtain ⟨a, vs, rfl, t, _⟩ := r
    exact .base (.lst (s _ _ t.1))
  | dic ks ds =>
    cases e
    simp only [Rep] at r
    obtain ⟨a, vs, rfl, _, t, _⟩ := r
    exact dic t
  | ref i =>
    simp only [Rep] at r
    obtain ⟨_, rfl⟩ := r
    simp only [tyN] at e
    split at e
    · rename_i ds hx
      cases e
      obtain ⟨vs, z, _⟩ := c.ob _ _ hx
      exact .base (.lst (s _ _ z))
    · rename_i ks ds hx
      cases e
      obtain ⟨vs, z, _⟩ := c.ob _ _ hx
      exact dic z
    · cases e
  | _ => cases e
def dIsi (S : Sto) : List D → Option D
  | [x, .ty T] => ((tyN S x).bind fun n => kitB n T).map .bl
  | _ => none
theorem opn_isi {B : Bas} : OpN B (rIsi B.K) dIsi := fun m S H xs ds d s c r e Q q => by
  unfold dIsi at e
  split at e
  · rename_i x T
    obtain ⟨v, w, rfl, rv, rw'⟩ := r.two
    cases h1 : tyN S x with
    | none => rw [h1] at e; cases e
    | some n =>
      cases h2 : kitB n T with
      | none => rw [h1, Option.bind_some, h2] at e; cases e
      | some b =>
        rw [h1, Option.bind_some, h2] at e
        cases e
        have hw : w = .ty T := by simpa only [Rep] using rw'
        subst hw
        exact ⟨v, .ty T, .type n, .type T, b, rfl, .ty T, tyN_of s c rv h1, kit_ty h2, q_val s c q (rp_bl m)⟩
  · cases e
theorem rp_ty {B : Bas} {n : String} (m : Mp) : Rep B m (.ty n) (.ty n) := by simp only [Rep]
theorem de_ty {X : Cx} {B : Bas} {W : WX} {x : Str} {n : String} {pos : Pos} (hm : X.mg x = none) (hv : bootBuiltins x = some (.type n)) (hg : Gl X x := by rfl) (hn : x ≠ "__name__" := by decide) (hd : (x == ("__debug__" : Str)) = false := by decide) : PE X (.Name x pos) (tE B W (mC (.ty n))) :=
  de_c (pe_bltn hg hm hv (v := .ty n) rfl hn hd) rp_ty
end G
end
section
namespace G
open PySem L2
abbrev MO := En → Sto → Res (Option Int)
def RO : Mp → Option Int → Option Int → Prop := fun _ a b => a = b
def tO (B : Bas) (W : WX) (e : MO) : TO := fun σ H Q => ∃ m S en, Sub m H ∧ Cor B m S ∧ EnR B m en σ ∧ Post B RO (at' W σ) m H Q (e en S)
def oNone : MO := fun _ S => .ok none S
def oSome (e : ME) : MO := fun en S => (e en S).bind fun d S1 => match d with
  | .int i => .ok (some i) S1
  | _ => .bad
theorem PO.cut {X : Cx} {e : Option Expr} {t t' : TO} (h : PO X e t) (f : ∀ σ H Q, t' σ H Q → t σ H Q) : PO X e t' := ⟨fun pins s σ H Q I q => h.run pins s σ H Q I (f σ H Q q)⟩
theorem do_none {X : Cx} {B : Bas} {W : WX} : PO X none (tO B W oNone) := PO.cut po_none fun σ H Q ⟨m, S, en, s, c, er, p⟩ => p m H none (Le.refl s) c rfl
theorem do_some {X : Cx} {B : Bas} {W : WX} {e : Expr} {me : ME} (h : PE X e (tE B W me)) : PO X (some e) (tO B W (oSome me)) := PO.cut (po_some h) fun σ H Q ⟨m, S, en, s, c, er, p⟩ => ⟨m, S, en, s, c, er, (Post.bind p).imp (by
  rintro v H1 ⟨d, S1, m1, _, l1, c1, r1, p1⟩
  cases d with
  | int i => exact ⟨i, r1.int_eq, p1 m1 H1 _ (Le.refl l1.sub) c1 rfl⟩
  | _ => exact p1.elim)⟩
def cutD (xs : List D) (lo hi : Option Int) : List D := (xs.drop (HT.sIx xs.length 0 lo)).take (HT.sIx xs.length xs.length hi - HT.sIx xs.length 0 lo)
theorem Reps.cutD {B : Bas} {m : Mp} {ds : List D} {vs : List V} (r : Reps B m ds vs) (lo hi : Option Int) : Reps B m (cutD ds lo hi) (cutV vs lo hi) := by
  unfold G.cutD cutV
  rw [r.length]
  exact (r.drop _).take _
def dSl (S : Sto) (x : D) (lo hi : Option Int) : Option D := match x with
  | .str z => if z.length ≤ sizeLine then some (.str (cutS z lo hi)) else none
  | .tup ds => some (.tup (cutD ds lo hi))
  | .ktp ds => if HT.sIx ds.length 0 lo = 0 ∧ HT.sIx ds.length ds.length hi = ds.length then some (.ktp ds) else some (.tup (cutD ds lo hi))
  | x => (seqL S x).map fun ds => .lst (cutD ds lo hi)
def mSl (a : ME) (l h : MO) : ME := fun en S => (a en S).bind fun x S1 => (l en S1).bind fun lo S2 => (h en S2).bind fun hi S3 => match dSl S3 x lo hi with
  | some d => .ok d S3
  | none => .bad
theorem de_slice {X : Cx} {B : Bas} {W : WX} {e : Expr} {lo hi : Option Expr} {p2 pos : Pos} {me : ME} {ml mh : MO} (hK : B.K = X.K := by rfl) (he : PE X e (tE B W me)) (hl : PO X lo (tO B W ml)) (hu : PO X hi (tO B W mh)) :
    PE X (.Subscript e (.Slice lo hi none p2) pos) (tE B W (mSl me ml mh)) := PE.cut (pe_slice ((sl_list.or sl_tupA).or sl_str) he hl hu) fun σ H Q ⟨m, S, en, s, c, er, p⟩ => ⟨m, S, en, s, c, er, (Post.bind p).imp (by
  rintro v H1 ⟨d, S1, m1, _, l1, c1, r1, p1⟩
  refine ⟨m1, S1, en, l1.sub, c1, er.mono l1, (Post.bind p1).imp ?_⟩
  rintro a H2 ⟨a', S2, m2, _, l2, c2, r2, p2⟩
  cases r2
  refine ⟨m2, S2, en, l2.sub, c2, (er.mono l1).mono l2, (Post.bind p2).imp ?_⟩
  rintro b H3 ⟨b', S3, m3, _, l3, c3, r3, p3⟩
  cases r3
  have rv := (r1.mono l2).mono l3
  rw [← hK]
  cases h : dSl S3 d a b with
  | none => rw [h] at p3; exact p3.elim
  | some x =>
    rw [h] at p3
    unfold dSl at h
    split at h
    · split at h
      · cases h
        exact .inr ⟨_, rv.str_eq, by assumption, q_val l3.sub c3 p3 (rp_str m3)⟩
      · cases h
    · rename_i ds _
      cases h
      have rv' := rv
      simp only [Rep] at rv
      obtain ⟨q, vs, rfl, t, rs⟩ := rv
      refine .inl (.inr ⟨q, vs, rfl, t.sq l3.sub, fun hz => ?_, fun _ => q_tup l3.sub c3 p3 (rs.cutD a b)⟩)
      have e1 : cutD ds a b = ds := by
        unfold G.cutD
        rw [rs.length, hz.1, hz.2]
        simp [← rs.length]
      rw [e1] at p3
      exact q_val l3.sub c3 p3 rv'
    · rename_i ds _
      have rv' := rv
      simp only [Rep] at rv
      obtain ⟨q, vs, rfl, t, rs⟩ := rv
      split at h
      · rename_i hz
        cases h
        exact .inl (.inr ⟨q, vs, rfl, t.sq, fun _ => q_val l3.sub c3 p3 rv', fun n => absurd (by rw [← rs.length]; exact hz) n⟩)
      · rename_i hz
        cases h
        exact .inl (.inr ⟨q, vs, rfl, t.sq, fun z => absurd (by rw [rs.length]; exact z) hz, fun _ => q_tup l3.sub c3 p3 (rs.cutD a b)⟩)
    · cases h1 : seqL S3 d with
      | none => rw [h1] at h; cases h
      | some ds =>
        rw [h1] at h
        cases h
        obtain ⟨q, vs, rfl, t, rs⟩ := repL l3.sub c3 rv h1
        exact .inl (.inl ⟨q, vs, rfl, t, q_lst l3.sub c3 p3 (rs.cutD a b)⟩))⟩
def mBMs (g : Sto → D → List D → Option D) (o : ME) (r : MA) : ME := fun en S => (o en S).bind fun x S1 => match x with
  | .str z => (r en S1).bind fun xs S2 => match g S2 (.str z) xs with
    | some d => .ok d S2
    | none => .bad
  | _ => .bad
def fsAll : List ME → Str → En → Sto → Res D
  | [], acc, _, S => .ok (.str acc) S
  | m :: ms, acc, en, S => (m en S).bind fun d S1 => match d with
    | .str y => if (acc ++ y).length ≤ sizeLine then fsAll ms (acc ++ y) en S1 else .bad
    | _ => .bad
def mFs (ms : List ME) : ME := fun en S => fsAll ms Str.empty en S
inductive DJ (X : Cx) (B : Bas) (W : WX) : List Expr → List ME → Prop where
  | nil : DJ X B W [] []
  | cons {e : Expr} {m : ME} {es : List Expr} {ms : List ME} (h : PE X e (tE B W m)) (r : DJ X B W es ms) : DJ X B W (e :: es) (m :: ms)
section
variable {B : Bas} {m : Mp} {H : Hp} {S : Sto}
theorem Le.write {i : Nat} {o : HO} (c : Cor B m S) (s : Sub m H) (hi : i < m.n) : Le m H (m.put (m.mu i) o) (upd H (m.mu i) o) where
  le := Nat.le_refl _
  mu := fun _ _ => rfl
  keep := fun a u e q => ⟨by show upd m.Z (m.mu i) o a = _; rw [upd_ne (fun z => q i hi z.symm)]; exact e, q⟩
  fr0 := fun a u e q => by
    obtain ⟨w, hw⟩ := c.at hi
    have ne : a ≠ m.mu i := fun z => by rw [z, hw] at e; cases e
    exact ⟨by rw [upd_ne ne]; exact q, .inl <| by show upd m.Z (m.mu i) o a = _; rw [upd_ne ne]; exact e⟩
  sub := fun a u e => by
    by_cases ha : a = m.mu i
    · subst ha
      have e' : upd m.Z (m.mu i) o (m.mu i) = some u := e
      rw [upd_same] at e' ⊢
      exact e'
    · have e' : upd m.Z (m.mu i) o a = some u := e
      rw [upd_ne ha] at e' ⊢
      exact s a u e'
theorem Cor.write {i : Nat} {o : HO} {b : Ob} (c : Cor B m S) (s : Sub m H) (hi : i < m.n) (r : ObR B (m.put (m.mu i) o) (m.mu i) b) : Cor B (m.put (m.mu i) o) (S.set i b) where
  n := by rw [List.length_set]; exact c.n
  ob := fun j x e => by
    by_cases hj : i = j
    · subst hj
      rw [List.getElem?_set_self (by rw [← c.n]; exact hi)] at e
      cases e
      exact r
    · rw [List.getElem?_set_ne hj] at e
      have hm : j < m.n := by rw [c.n]; exact (List.getElem?_eq_some_iff.mp e).1
      refine (c.ob j x e).mono (Le.write (o := o) c s hi) ?_
      show upd m.Z (m.mu i) o (m.mu j) = _
      rw [upd_ne (fun z => hj (c.inj j i hm hi z).symm)]
  inj := c.inj
end
theorem Reps.setR {B : Bas} {m : Mp} {d : D} {v : V} (rv : Rep B m d v) : ∀ {ds : List D} {vs : List V} (i : Nat), Reps B m ds vs → Reps B m (ds.set i d) (vs.set i v)
  | [], vs, i, r => by
    simp only [Reps] at r
    subst r
    exact Reps.nil
  | x :: ds, vs, 0, r => by
    simp only [Reps] at r
    obtain ⟨y, t, rfl, ry, rt⟩ := r
    exact Reps.cons rv rt
  | x :: ds, vs, i + 1, r => by
    simp only [Reps] at r
    obtain ⟨y, t, rfl, ry, rt⟩ := r
    exact Reps.cons ry (Reps.setR rv i rt)
def sIx (o k e : ME) : MS := fun en S => (e en S).bind fun d S1 => (o en S1).bind fun x S2 => (k en S2).bind fun y S3 => match x, y with
  | .ref i, .int n => match S3[i]? with
    | some (.lst ds) => match ixN ds.length n with
      | some j => .ok (.nx en) (S3.set i (.lst (ds.set j d)))
      | none => .bad
    | _ => .bad
  | _, _ => .bad
theorem ds_ix {X : Cx} {B : Bas} {W : WX} {o k e : Expr} {p1 pos : Pos} {mo mk me : ME} (ho : PE X o (tE B W mo)) (hk : PE X k (tE B W mk)) (he : PE X e (tE B W me)) (hg : PG X (.Subscript o k p1) (gSub (tE B W mo) (tE B W mk) rSetL))
    (hs : swapsWithSole [.Subscript o k p1] e pos.line X.env = pure false := by rfl) (hw : swappedStores [.Subscript o k p1] e X.env = pure none := by rfl)
    (h1 : (assignEach [.Subscript o k p1] X.env).map (·.2) = [assign (.Subscript o k p1) X.env] := by rfl) : PS X (.Assign [.Subscript o k p1] e pos) (tS B W (sIx mo mk me)) :=
  PS.cut (ps_asg he hg hs hw h1) fun D σ H ⟨m, S, en, s, c, er, p⟩ => ⟨m, S, en, s, c, er, (Post.bind p).imp (by
    rintro v H1 ⟨d, S1, m1, _, l1, c1, r1, p1⟩
    refine ⟨m1, S1, en, l1.sub, c1, er.mono l1, (Post.bind p1).imp ?_⟩
    rintro u H2 ⟨x, S2, m2, _, l2, c2, r2, p2⟩
    refine ⟨m2, S2, en, l2.sub, c2, (er.mono l1).mono l2, (Post.bind p2).imp ?_⟩
    rintro w H3 ⟨y, S3, m3, _, l3, c3, r3, p3⟩
    split at p3
    · rename_i i n _ _
      split at p3
      · rename_i ds hx
        split at p3
        · rename_i j hj
          have r2' := r2.mono l3
          simp only [Rep] at r2'
          obtain ⟨hi, rfl⟩ := r2'
          obtain ⟨vs, z, rs⟩ := c3.ob _ _ hx
          have l4 := Le.write (o := .lst (vs.set j v)) c3 l3.sub hi
          have rv := ((r1.mono l2).mono l3).mono l4
          refine ⟨m3.mu i, vs, n, j, rfl, r3.int_eq, l3.sub _ _ z, by rw [← rs.length]; exact hj, ?_⟩
          exact p3 _ _ (.nx σ) l4 (Cor.write c3 l3.sub hi ⟨_, upd_same, Reps.setR rv j (rs.mono l4)⟩) (((er.mono l1).mono l2).mono l3 |>.mono l4)
        · exact p3.elim
      · exact p3.elim
    · exact p3.elim)⟩
def sApp (o e : ME) : MS := fun en S => (o en S).bind fun x S1 => match x with
  | .ref i => match S1[i]? with
    | some (.lst _) => (e en S1).bind fun d S2 => match S2[i]? with
      | some (.lst ds) => if ds.length < sizeLine then .ok (.nx en) (S2.set i (.lst (ds ++ [d]))) else .bad
      | _ => .bad
    | _ => .bad
  | _ => .bad
def sExt (o e : ME) : MS := fun en S => (o en S).bind fun x S1 => match x with
  | .ref i => match S1[i]? with
    | some (.lst _) => (e en S1).bind fun d S2 => match S2[i]?, d with
      | some (.lst ds), .lst es => if ds.length + es.length ≤ sizeLine then .ok (.nx en) (S2.set i (.lst (ds ++ es))) else .bad
      | _, _ => .bad
    | _ => .bad
  | _ => .bad
section
variable {X : Cx} {B : Bas} {W : WX} {o e : Expr} {apos cpos pos : Pos} {mo me : ME}
theorem ds_app (hK : B.K = X.K := by rfl) (ho : PE X o (tE B W mo)) (he : PE X e (tE B W me))
    (hbase : attributeBase o "append" X.env (eval o X.env) = eval o X.env := by rfl)
    (hfew : ((backTo cpos (starEach [e] X.env)).all (fun x => !x.1) && (backToKw cpos (keywordEach [] X.env)).all (fun x => x.1.isSome)
      && decide ([e].length + ([] : List Keyword).length + (if ([] : List Keyword).isEmpty then 0 else 1) < 30)) = true := by rfl)
    (hline : (apos.endLine == cpos.line) = true := by rfl) (hs : starEach [e] X.env = (false, eval e X.env) :: starEach [] X.env := by rfl) (hplain : (backTo cpos (starEach [] X.env)).any (·.1) = false := by rfl)
    (hsw : swapsWith (.Call (.Attribute o "append" apos) [e] [] cpos) none pos.line X.env = pure false := by rfl) :
    PS X (.Expr (.Call (.Attribute o "append" apos) [e] [] cpos) pos) (tS B W (sApp mo me)) :=
  PS.cut (ps_expr (pe_bm PySem.F.plainAttrs_list PySem.F.slot_list_append PySem.F.type_list_append mt_append ho (da_cons he da_nil hs) hbase hfew hline hs hplain) hsw) fun D σ H ⟨m, S, en, s, c, er, p⟩ => ⟨m, S, en, s, c, er, (Post.bind p).imp (by
    rintro v H1 ⟨x, S1, m1, _, l1, c1, r1, p1⟩
    split at p1
    · rename_i i _
      split at p1
      · rename_i ds0 h0
        have r1' := r1
        simp only [Rep] at r1'
        obtain ⟨hi, rfl⟩ := r1'
        obtain ⟨vs0, z0, _⟩ := c1.ob _ _ h0
        refine ⟨.inl ⟨rfl, vs0, .inl (.inl (l1.sub _ _ z0))⟩, m1, S1, en, l1.sub, c1, er.mono l1, ?_⟩
        have p1' : Post B (RFl B) (at' W σ) m1 H1 (qOf D) ((aCons me aNil en S1).bind fun ds S2 => match ds with | [d] => (match S2[i]? with | some (.lst ds) => if ds.length < sizeLine then Res.ok (Fl.nx en) (S2.set i (.lst (ds ++ [d]))) else .bad | _ => .bad) | _ => .bad) := by
          have : ((aCons me aNil en S1).bind fun ds S2 => match ds with | [d] => (match S2[i]? with | some (.lst ds) => if ds.length < sizeLine then Res.ok (Fl.nx en) (S2.set i (.lst (ds ++ [d]))) else .bad | _ => .bad) | _ => .bad) =
              (me en S1).bind fun d S2 => match S2[i]? with | some (.lst ds) => if ds.length < sizeLine then Res.ok (Fl.nx en) (S2.set i (.lst (ds ++ [d]))) else .bad | _ => .bad := by
            unfold aCons aNil
            cases me en S1 <;> rfl
          rw [this]
          exact p1
        refine (Post.bind p1').imp ?_
        rintro ys H2 ⟨dd, S2, m2, _, l2, c2, r2, p2⟩
        match dd, r2, p2 with
        | [d], r2, p2 =>
          simp only [] at p2
          obtain ⟨w, rfl, rw'⟩ := r2.one
          split at p2
          · rename_i ds hx
            split at p2
            · rename_i hl
              have hi2 : i < m2.n := Nat.lt_of_lt_of_le hi l2.le
              obtain ⟨vs, z, rs⟩ := c2.ob _ _ hx
              have l4 := Le.write (o := .lst (vs ++ [w])) c2 l2.sub hi2
              have emu : m2.mu i = m1.mu i := l2.mu i hi
              refine ⟨m1.mu i, vs, w, rfl, rfl, by rw [← emu]; exact l2.sub _ _ z, by rw [← rs.length]; exact hl, ?_⟩
              rw [← emu]
              exact p2 _ _ (.nx σ) l4 (Cor.write c2 l2.sub hi2 ⟨_, upd_same, (rs.mono l4).append (Reps.cons (rw'.mono l4) Reps.nil)⟩) (((er.mono l1).mono l2).mono l4)
            · exact p2.elim
          · exact p2.elim
        | [], _, p2 => exact p2.elim
        | _ :: _ :: _, _, p2 => exact p2.elim
      · exact p1.elim
    · exact p1.elim)⟩
end
end G
end
section
namespace G
open PySem L2
def rRepr (K : PySem.W.Frag) : List V → Hp → VK → Prop := fun xs H Q => ∃ x p, xs = [x] ∧ Dp K H x p ∧ SeqAt.shaped p = true ∧ p.showable = true ∧ p.shown.length ≤ sizeLine ∧ Q (.str p.shown) H
theorem call_reprD {X : Cx} (hg : X.A.guards = some []) (hu : X.A.units + 66 < cLine) : CallR X (.builtin "repr") (rRepr X.K) := by
  intro pins s σ H xs us Q I r h
  obtain ⟨x, p, rfl, hp, sp, sh, hl, q⟩ := h
  obtain ⟨u, rfl, ru⟩ := vals1 r
  obtain ⟨as, rd⟩ := Dp.reads I p x u hp ru
  have hd := SeqAt.depth_of_shaped sp
  cases hp with
  | non =>
    cases (show u = Value.none from ru)
    exact PySem.P.repr_of_none ⟨.str _, H, I.tok _, ⟨_, rfl⟩, by simpa [PyData.shown] using q⟩
  | bl b =>
    cases (show u = Value.bool b from ru)
    exact PySem.P.repr_of_bool ⟨.str _, H, I.tok _, ⟨_, rfl⟩, by cases b <;> simpa [PyData.shown] using q⟩
  | int i =>
    obtain ⟨t, rfl⟩ := ru
    have hi : i.natAbs.log2 < 1920 := by simpa [PyData.showable] using sh
    exact PySem.P.repr_of_int hi ⟨.str _, H, I.tok _, ⟨_, rfl⟩, by simpa [PyData.shown] using q⟩
  | str z =>
    obtain ⟨t, rfl⟩ := ru
    exact PySem.P.repr_of_str ⟨.str _, H, I.tok _, ⟨_, rfl⟩, by simpa [PyData.shown] using q⟩ (by simpa [PyData.shown] using hl)
  | lst hs ha =>
    cases ru
    exact repr_of_reads' rd sh (PyData.noDict_hsm (PyData.hasDict_of_canLay _ (SeqAt.canLay_of_shaped sp))) hg (by omega) (fun _ _ e => e) (fun h' u tk hk => ⟨.str _, H, I.kept hk, ⟨_, rfl⟩, q⟩) hl
  | tup hs ha =>
    cases ru
    exact repr_of_reads' rd sh (PyData.noDict_hsm (PyData.hasDict_of_canLay _ (SeqAt.canLay_of_shaped sp))) hg (by omega) (fun _ _ e => e) (fun h' u tk hk => ⟨.str _, H, I.kept hk, ⟨_, rfl⟩, q⟩) hl
def reprOk (p : PyData) : Prop := SeqAt.shaped p = true ∧ p.showable = true ∧ p.shown.length ≤ sizeLine
instance (p : PyData) : Decidable (reprOk p) := by unfold reprOk; exact inferInstance
def dRepr (S : Sto) : List D → Option D
  | [x] => match pdv S x with
    | some p => if reprOk p then some (.str p.shown) else none
    | none => none
  | _ => none
theorem opn_repr {B : Bas} : OpN B (rRepr B.K) dRepr := fun m S H xs ds d s c r e Q q => by
  unfold dRepr at e
  split at e
  · rename_i x
    obtain ⟨v, rfl, rv⟩ := r.one
    split at e
    · rename_i p hp
      split at e
      · rename_i ok
        cases e
        exact ⟨v, p, rfl, rv.dpv s c hp, ok.1, ok.2.1, ok.2.2, q_val s c q (rp_str m)⟩
      · cases e
    · cases e
  · cases e
structure FnG (P : Program) (w : World) (K : PySem.W.Frag) (mg : Str → Option Value) (base : Heap) (CX : CXT) (k : Nat) (f : Addr) (fd : FuncData) (ps : List Str) (sp : Sp) : Prop where
  len : ∀ vs H Q E, sp vs H Q E → vs.length = ps.length
  run : ∀ (A : Around) (outer : List Env) (s : Shared) (H : Hp) (args : Args) (us : List Value) (vs : List V) (Q : VK) (E : XK), A.guards = some [] → Room k A → Env0 P w K mg base A outer s H → BindsTo s fd args (ps.zip us) → Vals vs us → sp vs H Q E →
    codeAny (model P w) A (.call (.ref f) args) (CR CX outer P w H s Q E) s
theorem fnG_ok {P : Program} {w : World} {K : PySem.W.Frag} {mg : Str → Option Value} {base : Heap} {B : Bas} {x qual : Str} {st : Stmt} {f : Addr} {fd : FuncData} {N ps : List Str} {k n : Nat} {ms : MS} (F : Fun K x qual st f fd) (S : FnScope N ps (defScope st)) (hn : n = ps.length)
    (hbody : ∀ (cdv : Value) (A : Around) (outer : List Env) (s : Shared) (H : Hp) (E : XK), (A.deeper (PyProof.Rows.envOfC qual (defScope st) s.heap.objs.size f cdv)).guards = some [] → Room k (A.deeper (PyProof.Rows.envOfC qual (defScope st) s.heap.objs.size f cdv)) →
      PSs (cxOf (L2.CX P w) P w K mg base N qual (defScope st) f cdv A outer s H E) (defBody st) (tS B (WE0 E) ms)) : FnG P w K mg base (L2.CX P w) (k + 1) f fd ps (spF B (fnB n N.length ms)) := by
  obtain ⟨oc, od, kV, doc, pm, an, cdv, ct, osl, rfl, lk, hcd⟩ := F.ex
  refine ⟨spF_len hn, fun A outer s H args us vs Q E hg hr e0 hb r hsp => ?_⟩
  have KX : K.In s.heap := e0.mod.kin.keeps fun b o e => (e0.bs b o e).1
  have lim : s.heap.NoLimit := e0.mod.nolimit.keeps fun b o e => (e0.bs b o e).1
  have hkind : ∀ y ∈ ps.zip us, (defScope st).names.lookup y.1 = some .local ∨ ((defScope st).names.lookup y.1 = some .cell ∧ ((cellsFrom (s.heap.objs.size + 1) (defScope st).names []).lookup y.1).isSome = true) := fun y hy =>
    (S.par y.1 (List.of_mem_zip (show (y.1, y.2) ∈ ps.zip us from hy)).1).imp id fun q => ⟨q, PySem.W.cellsFrom_some _ _ _ (.inl q)⟩
  refine codeAny_call_function hr.depth (KX _ _ lk) rfl S.co S.gen rfl (PySem.W.codeRec_of KX hcd) (hb _ _ _ _ (wpAny_newFunctionEnv_cells S.kind hkind fun env he s1 x => ?_))
  subst he
  refine ⟨lim.keeps x.toInCall.keep, codeAny_func ?_⟩
  have I := inv_start (CX := L2.CX P w) (N := N) (E := E) S hr.hd e0 (spF_len hn _ _ _ _ hsp) r x
  refine wpAny_mono ((hbody cdv A outer s H E hg (hr.deeper _)).run [] s1 _ H _ I (fn_body hsp)) (fun fl s' hs => ?_) fun e s' hs => hs
  cases fl with
  | ret u =>
    obtain ⟨v, σ', H', J, rv, q⟩ := hs
    exact ⟨v, H', J.os, J.bare, J.base, J.hok, rv, q⟩
  | next =>
    obtain ⟨σ', H', J, q⟩ := hs
    exact ⟨.non, H', J.os, J.bare, J.base, J.hok, rfl, q⟩
  | brk =>
    obtain ⟨_, _, _, q⟩ := hs
    exact q.elim
  | cont =>
    obtain ⟨_, _, _, q⟩ := hs
    exact q.elim
theorem lawG_call {P : Program} {w : World} {K : PySem.W.Frag} {mg mb : Str → Option Value} {CX : CXT} {k : Nat} {fa a : Addr} {fd : FuncData} {x : Str} {sp : Sp} {s1 : Shared} {vs : List Value} {ns : List Int}
    (KX : K.In s1.heap) (hns : s1.heap.Ns mainGlobals mg) (hb : s1.heap.Ns builtinsNs mb) (hbb : ∀ x : Str, x ≠ "__name__" → mb x = bootBuiltins x) (hlim : s1.heap.NoLimit) (hg : s1.gens = #[])
    (ha : s1.heap.get? a = some { cls := .type "list", data := .seq vs.toArray }) (hi : PyProof.Rows.IntsAre vs ns) (hl : ns.length ≤ sizeLine) (hr : Room k callerA)
    (F : ∀ base : Heap, K.In base → base.Ns mainGlobals mg → FnG P w K mg base CX k fa fd [x] sp) (hbind : ∀ (s : Shared) (u : Value), BindsTo s fd ⟨[u], []⟩ [(x, u)])
    (hsp : ∀ H : Hp, L2.Only H → SqL K H a (ns.map V.int) → sp [.ref a] H (fun v _ => v = .bl true) fun _ _ _ => False)
    (hCX : ∀ H e s', CX [] H s1 (fun _ _ _ => False) e s' → False) :
    codeAny (model P w) callerA (.call (.ref fa) ⟨[.ref a], []⟩) (fun r s' => r = .ok (.ret (.bool true)) ∧ OldK s1.heap s'.heap ∧ s'.os = s1.os ∧ PyProof.Rows.AllBare s'.gens) s1 := by
  have rv := vals_ints hi
  have lenV := hi.length
  -- H: nothing, or the script alone
  suffices core : ∀ H : Hp, L2.Only H → SqL K H a (ns.map V.int) → HOk P w H s1.heap → (∀ b u, H b = some u → b = a ∧ K.lookup a = none) →
      codeAny (model P w) callerA (.call (.ref fa) ⟨[.ref a], []⟩) (fun r s' => r = .ok (.ret (.bool true)) ∧ OldK s1.heap s'.heap ∧ s'.os = s1.os ∧ PyProof.Rows.AllBare s'.gens) s1 by
    by_cases hk : ∃ o, K.lookup a = some o
    · obtain ⟨o, hk⟩ := hk
      have e := KX a o hk
      rw [ha] at e
      cases e
      exact core (fun _ => none) (fun _ => .inl rfl) (.inr ⟨_, vs.toArray, _, hk, rfl, rfl, rfl, by rw [List.size_toArray, lenV]; exact hl, by simpa using rv⟩) (fun b u z => nomatch z) (fun b u z => nomatch z)
    · have hkn : K.lookup a = none := by
        cases e : K.lookup a with
        | none => rfl
        | some o => exact absurd ⟨o, e⟩ hk
      have at_a : upd (fun _ => none) a (.frz { cls := .type "list", data := .seq vs.toArray } (.lst (ns.map V.int))) a = some (.frz { cls := .type "list", data := .seq vs.toArray } (.lst (ns.map V.int))) := upd_same
      refine core (upd (fun _ => none) a (.frz { cls := .type "list", data := .seq vs.toArray } (.lst (ns.map V.int)))) (fun b => ?_) (.inl (.inr ⟨_, at_a⟩)) (fun b u z => ?_) fun b u z => ⟨?_, hkn⟩
      · by_cases e : b = a
        · exact .inr ⟨_, _, by rw [e]; exact at_a⟩
        · exact .inl (upd_ne e)
      · by_cases e : b = a
        · subst e
          rw [at_a] at z
          cases z
          exact ⟨ha, by rw [List.length_map]; exact hl, vs, _, rv, ha⟩
        · rw [upd_ne e] at z; cases z
      · by_cases e : b = a
        · exact e
        · rw [upd_ne e] at z; cases z
  intro H hO hS hok hA
  have nodict : ∀ {b : Addr} {o : Obj} {es : Array DictEntry} {ep : Nat}, s1.heap.get? b = some o → o.data = .dict es ep → H b = none := fun {b o es ep} e d => by
    cases q : H b with
    | none => rfl
    | some u =>
      rw [(hA b u q).1, ha] at e
      cases e
      cases d
  have nsK : ∀ {b : Addr} {mm : Str → Option Value}, s1.heap.Ns b mm → (hidT s1.heap H).Ns b mm := fun {b mm} ⟨o, es, ep, e, d, r⟩ => ⟨o, es, ep, hidT_get e (nodict e d), d, r⟩
  have hKb : K.In (hidT s1.heap H) := fun b o e => hidT_get (KX b o e) (by
    cases q : H b with
    | none => rfl
    | some u =>
      obtain ⟨z, zn⟩ := hA b u q
      rw [z, zn] at e
      cases e)
  have e0 : Env0 P w K mg (hidT s1.heap H) callerA [] s1 H :=
    ⟨rfl, ⟨hKb, nsK hns, ⟨mb, nsK hb, hbb⟩, let ⟨mc, h1, h2⟩ := hlim; ⟨mc, nsK h1, h2⟩⟩, fun b o e => of_hidT e, Nat.le_of_eq (hidT_size _ _), trivial, fun b z => absurd (show b ∈ ([] : List Addr) from z) (by simp), hok, .of_eq hg⟩
  refine codeAny_mono ((F _ hKb (nsK hns)).run callerA [] s1 H ⟨[.ref a], []⟩ [.ref a] [.ref a] _ _ rfl hr e0 (hbind s1 (.ref a)) (.cons rfl .nil) (hsp H hO hS)) fun r s' h => ?_
  match r, h with
  | .error e, h => exact (hCX H e s' h).elim
  | .ok (.ret u), h =>
    obtain ⟨v, H', os, bare, un, hok', r', q⟩ := h
    have q' : v = .bl true := q
    subst q'
    obtain rfl : u = Value.bool true := r'
    refine ⟨rfl, OldK.of_keep fun b o e => ?_, os, bare⟩
    cases q : H b with
    | none => exact un.keep b o e q (fun z => absurd (show b ∈ ([] : List Addr) from z) (by simp)) (by simp)
    | some u =>
      rcases hO b with z | ⟨ob, xs, z⟩
      · rw [q] at z; cases z
      · obtain ⟨e1, _⟩ := hok b _ z
        obtain ⟨e2, _⟩ := hok' b _ (un.frzs b ob _ z)
        rw [e] at e1
        cases e1
        exact e2
theorem walkG {l : PySem.W.OpenLaw} {n k : Nat} {q : Program} {loose : List Str} {XP : (Str → Option Value) → Heap → Prop} {YP : World → Heap → Prop} {d : DefRec} {CX : World → CXT} {x : Str}
    (hn : l.most = some n) (hn2 : n ≤ sizeLine) (hdf : d.params.defaults = []) (hr : Room k callerA)
    (F : ∀ (w : World) (mg : Str → Option Value) (fa : Addr) (h : Heap), YP w h → h.Ns mainGlobals mg → mg d.name = some (.ref fa) →
      ∃ (K : PySem.W.Frag) (fd : FuncData) (sp : Sp), K.In h ∧ (∀ (s : Shared) (u : Value), BindsTo s fd ⟨[u], []⟩ [(x, u)]) ∧
        (∀ (H : Hp) (a : Addr) (ns : List Int), ns.length ≤ n → L2.Only H → SqL K H a (ns.map V.int) → sp [.ref a] H (fun v _ => v = .bl true) fun _ _ _ => False) ∧
        ∀ base : Heap, K.In base → base.Ns mainGlobals mg → FnG l.prog w K mg base (CX w) k fa fd [x] sp)
    (hCX : ∀ (w : World) (H : Hp) (s : Shared) (e : Value) (s' : Shared), CX w [] H s (fun _ _ _ => False) e s' → False) :
    PySem.W.WalkO q loose XP YP l.row.toRowW d [] (fun f vs => PySem.call f vs) := by
  refine Att.attach_call hn hdf fun w s0 s1 mg mb fa o pm cd doc a vs ns G Y ho hd hcd hmg hobj hints hlen hg => ?_
  obtain ⟨K, fd, sp, KX, hb, hsp, hF⟩ := F w mg fa _ Y G.T.g hmg
  exact lawG_call KX G.T.g G.T.b G.T.builtins G.T.nolimit hg hobj hints (Nat.le_trans hlen hn2) hr hF hb (fun H hO hS => hsp H a ns hlen hO hS) fun H e s' => hCX w H s1 e s'
theorem law_sp {B : Bas} {F : Fn} {H : Hp} {a : Addr} {ns : List Int} (hn : F.n = 1) (hO : L2.Only H) (hS : SqL B.K H a (ns.map V.int)) (h : ∃ S, F.run [.scr (ns.map .int)] [] = .ok (.bl true) S) : spF B F [.ref a] H (fun v _ => v = .bl true) fun _ _ _ => False := by
  obtain ⟨S, h⟩ := h
  have ri : ∀ (m : Mp) (l : List Int), Reps B m (l.map .int) (l.map V.int) := fun m l => by
    induction l with
    | nil => exact Reps.nil
    | cons i r ih => exact Reps.cons (rp_int m) ih
  refine ⟨⟨fun _ => 0, 0, H⟩, [], [.scr (ns.map .int)], fun _ _ e => e, ⟨rfl, fun i o e => by simp at e, fun i j hi => absurd hi (Nat.not_lt_zero _)⟩, Reps.cons ?_ Reps.nil, hn.symm, ?_⟩
  · simp only [Rep]
    refine ⟨a, ns.map V.int, rfl, ?_, ri _ ns⟩
    rcases hS with hS | hS
    · exact .inl ⟨hS, fun i hi => absurd hi (Nat.not_lt_zero _)⟩
    · exact .inr (.inr hS)
  · rw [h]
    exact fun m' H' v _ _ r => r.bl_eq
end G
end
section
namespace G
open PySem L2
section
variable {B : Bas}
theorem op2_sub : Op2 B (rI0 fun i j => .int (i - j)) dSub := op2_I0
theorem op2_div : Op2 B (rI CDiv fun i j => .int (i / j)) dDiv := op2_I
theorem op2_mod : Op2 B (rI (fun _ j => 0 < j) fun i j => .int (i % j)) dMod := op2_I
theorem op2_pow : Op2 B (rI CPow fun i j => .int (i ^ j.toNat)) dPow := op2_I
theorem op2_gt0 : Op2 B (rI0 fun i j => .bl (decide (j < i))) dGt0 := op2_B0
theorem op2_ge0 : Op2 B (rI0 fun i j => .bl (decide (j ≤ i))) dGe0 := op2_B0
end
theorem hu64 {A : Around} {k : Nat} (hr : Room k A) : A.units + 64 < cLine := by have := hr.un; omega
theorem hu66 {A : Around} {k : Nat} (hr : Room k A) : A.units + 66 < cLine := by have := hr.un; omega
def Cal (P : Program) (w : World) (K : PySem.W.Frag) (mg : Str → Option Value) (base : Heap) (B : Bas) (x : Str) (k : Nat) (F : Fn) : Prop :=
  ∃ (f : Addr) (fd : FuncData) (ps : List Str), FnOk P w K mg base (L2.CX P w) k f fd ps (spF B F) ∧ mg x = some (.ref f) ∧ PySem.W.keepIn K (.ref f) = true ∧ Binds K fd ps []
section
variable {X : Cx} {B : Bas} {W : WX} {e : Expr} {es : List Expr} {pos p : Pos} {mr : MA} {x : Str}
theorem de_fn {k j : Nat} {F : Fn} (c : Cal X.prog X.w X.K X.mg X.base B x k F) (hr : Room j X.A) (hk : k ≤ j) (tk : Takes X W) (ha : PA X (e :: es) (tA B W mr)) (hg : Gl X x := by rfl) (hdb : (x == ("__debug__" : Str)) = false := by decide)
    (he : starEach (e :: es) X.env = (false, eval e X.env) :: starEach es X.env := by rfl) (hpl : (backTo pos (starEach es X.env)).any (·.1) = false := by rfl) : PE X (.Call (.Name x p) (e :: es) [] pos) (tE B W (mCall F mr)) := by
  obtain ⟨f, fd, ps, h1, h2, h3, h4⟩ := c
  exact de_call h1 (hr.mono hk) tk h2 h3 h4 ha hg hdb he hpl
theorem de_tup {k : Nat} (ha : PA X es (tA B W mr)) : PE X (.Tuple es k pos) (tE B W (mTup mr)) := PE.cut (pe_tup ha) tTup_of
theorem de_lst (ha : PA X es (tA B W mr)) : PE X (.List es pos) (tE B W (mLst mr)) := PE.cut (pe_lst ha) tLst_of
theorem de_new (ha : PA X es (tA B W mr)) : PE X (.List es pos) (tE B W (mNew mr)) := PE.cut (pe_lst ha) tNew_of
theorem de_gint {i : Int} (h : ∃ t, X.mg x = some (.int i t)) (hg : Gl X x := by rfl) (hd : (x == ("__debug__" : Str)) = false := by decide) : PE X (.Name x pos) (tE B W (mC (.int i))) := by
  obtain ⟨t, h⟩ := h
  exact de_c (pe_glob hg h (v := .int i) ⟨t, rfl⟩ hd) rp_int
end
theorem toFun {K : PySem.W.Frag} {x qual : Str} {st : Stmt} {f : Addr} {fd : FuncData} (F : FunD K x qual (defArgs st) (defBody st) (defScope st) [] [] f fd) : Fun K x qual st f fd := by
  obtain ⟨oc, od, dV, kV, doc, pm, an, cdv, ct, osl, e, lk, hcd, hD, _⟩ := F.ex
  rcases hD with ⟨_, rfl⟩ | ⟨z, _⟩
  · exact ⟨⟨oc, od, kV, doc, pm, an, cdv, ct, osl, e, lk, hcd⟩, F.kp⟩
  · exact absurd rfl z
theorem noCX {P : Program} {w : World} {H : Hp} {s : Shared} {e : Value} {s' : Shared} (h : L2.CX P w [] H s (fun _ _ _ => False) e s') : False := by
  obtain ⟨_, _, _, _, _, _, _, _, _, _, _, _, z⟩ := h
  exact z
end G
end
section
namespace G
open PySem L2
def optR (o : Option D) (S : Sto) : Res D := match o with
  | some d => .ok d S
  | none => .bad
@[simp] theorem optR_some (d : D) (S : Sto) : optR (some d) S = .ok d S := rfl
@[simp] theorem optR_none (S : Sto) : optR none S = .bad := rfl
def varR (o : Option (Option D)) (S : Sto) : Res D := match o with
  | some (some d) => .ok d S
  | _ => .bad
@[simp] theorem varR_some (d : D) (S : Sto) : varR (some (some d)) S = .ok d S := rfl
@[simp] theorem mVar_ap (i : Nat) (en : En) (S : Sto) : mVar i en S = varR en[i]? S := rfl
@[simp] theorem mC_ap (d : D) (en : En) (S : Sto) : mC d en S = .ok d S := rfl
def opK2 (g : Sto → D → D → Option D) (x : D) (y : D) (S : Sto) : Res D := optR (g S x y) S
def opK1 (g : Sto → D → D → Option D) (b : ME) (en : En) (x : D) (S : Sto) : Res D := (b en S).bind (opK2 g x)
theorem mOp_ap (g : Sto → D → D → Option D) (a b : ME) (en : En) (S : Sto) : mOp g a b en S = (a en S).bind (opK1 g b en) := rfl
theorem opK1_ap (g : Sto → D → D → Option D) (b : ME) (en : En) (x : D) (S : Sto) : opK1 g b en x S = (b en S).bind (opK2 g x) := rfl
theorem opK2_ap (g : Sto → D → D → Option D) (x y : D) (S : Sto) : opK2 g x y S = optR (g S x y) S := rfl
def unK (g : Sto → D → Option D) (x : D) (S : Sto) : Res D := optR (g S x) S
theorem mUn_ap (g : Sto → D → Option D) (a : ME) (en : En) (S : Sto) : mUn g a en S = (a en S).bind (unK g) := rfl
theorem unK_ap (g : Sto → D → Option D) (x : D) (S : Sto) : unK g x S = optR (g S x) S := rfl
def testK (x : D) (S : Sto) : Res Bool := match x with
  | .bl k => .ok k S
  | _ => .bad
theorem mTest_ap (a : ME) (en : En) (S : Sto) : mTest a en S = (a en S).bind testK := rfl
theorem testK_bl (k : Bool) (S : Sto) : testK (.bl k) S = .ok k S := rfl
def andK (b : MT) (en : En) (k : Bool) (S : Sto) : Res Bool := match k with
  | true => b en S
  | false => .ok false S
theorem mAnd_ap (a b : MT) (en : En) (S : Sto) : mAnd a b en S = (a en S).bind (andK b en) := rfl
theorem andK_t (b : MT) (en : En) (S : Sto) : andK b en true S = b en S := rfl
theorem andK_f (b : MT) (en : En) (S : Sto) : andK b en false S = .ok false S := rfl
def orK (b : MT) (en : En) (k : Bool) (S : Sto) : Res Bool := match k with
  | true => .ok true S
  | false => b en S
theorem mOr_ap (a b : MT) (en : En) (S : Sto) : mOr a b en S = (a en S).bind (orK b en) := rfl
theorem orK_t (b : MT) (en : En) (S : Sto) : orK b en true S = .ok true S := rfl
theorem orK_f (b : MT) (en : En) (S : Sto) : orK b en false S = b en S := rfl
def notK (k : Bool) (S : Sto) : Res Bool := .ok (!k) S
theorem mNot_ap (a : MT) (en : En) (S : Sto) : mNot a en S = (a en S).bind notK := rfl
theorem notK_ap (k : Bool) (S : Sto) : notK k S = .ok (!k) S := rfl
def ifK (a b : ME) (en : En) (k : Bool) (S : Sto) : Res D := match k with
  | true => a en S
  | false => b en S
theorem mIf_ap (t : MT) (a b : ME) (en : En) (S : Sto) : mIf t a b en S = (t en S).bind (ifK a b en) := rfl
theorem ifK_t (a b : ME) (en : En) (S : Sto) : ifK a b en true S = a en S := rfl
theorem ifK_f (a b : ME) (en : En) (S : Sto) : ifK a b en false S = b en S := rfl
def andVK (b : ME) (en : En) (x : D) (S : Sto) : Res D := match x with
  | .bl true => b en S
  | .bl false => .ok (.bl false) S
  | _ => .bad
theorem mAndV_ap (a b : ME) (en : En) (S : Sto) : mAndV a b en S = (a en S).bind (andVK b en) := rfl
theorem andVK_t (b : ME) (en : En) (S : Sto) : andVK b en (.bl true) S = b en S := rfl
theorem andVK_f (b : ME) (en : En) (S : Sto) : andVK b en (.bl false) S = .ok (.bl false) S := rfl
def orVK (b : ME) (en : En) (x : D) (S : Sto) : Res D := match x with
  | .bl true => .ok (.bl true) S
  | .bl false => b en S
  | _ => .bad
theorem mOrV_ap (a b : ME) (en : En) (S : Sto) : mOrV a b en S = (a en S).bind (orVK b en) := rfl
theorem orVK_t (b : ME) (en : En) (S : Sto) : orVK b en (.bl true) S = .ok (.bl true) S := rfl
theorem orVK_f (b : ME) (en : En) (S : Sto) : orVK b en (.bl false) S = b en S := rfl
def notVK (x : D) (S : Sto) : Res D := match x with
  | .bl k => .ok (.bl (!k)) S
  | _ => .bad
theorem mNotV_ap (a : ME) (en : En) (S : Sto) : mNotV a en S = (a en S).bind notVK := rfl
theorem notVK_bl (k : Bool) (S : Sto) : notVK (.bl k) S = .ok (.bl (!k)) S := rfl
theorem aNil_ap (en : En) (S : Sto) : aNil en S = .ok [] S := rfl
def consK2 (x : D) (xs : List D) (S : Sto) : Res (List D) := .ok (x :: xs) S
def consK1 (r : MA) (en : En) (x : D) (S : Sto) : Res (List D) := (r en S).bind (consK2 x)
theorem aCons_ap (a : ME) (r : MA) (en : En) (S : Sto) : aCons a r en S = (a en S).bind (consK1 r en) := rfl
theorem consK1_ap (r : MA) (en : En) (x : D) (S : Sto) : consK1 r en x S = (r en S).bind (consK2 x) := rfl
theorem consK2_ap (x : D) (xs : List D) (S : Sto) : consK2 x xs S = .ok (x :: xs) S := rfl
theorem sz_small {n : Nat} (h : n ≤ 1000000) : n ≤ sizeLine := Nat.le_trans h (by decide)
def tupK (xs : List D) (S : Sto) : Res D := if xs.length ≤ sizeLine then .ok (.tup xs) S else .bad
def lstK (xs : List D) (S : Sto) : Res D := if xs.length ≤ sizeLine then .ok (.lst xs) S else .bad
def newK (xs : List D) (S : Sto) : Res D := if xs.length ≤ sizeLine then .ok (.ref S.length) (S ++ [.lst xs]) else .bad
theorem mTup_ap (r : MA) (en : En) (S : Sto) : mTup r en S = (r en S).bind tupK := rfl
theorem mLst_ap (r : MA) (en : En) (S : Sto) : mLst r en S = (r en S).bind lstK := rfl
theorem mNew_ap (r : MA) (en : En) (S : Sto) : mNew r en S = (r en S).bind newK := rfl
theorem tupK_ok {xs : List D} {S : Sto} (h : xs.length ≤ 1000000) : tupK xs S = .ok (.tup xs) S := if_pos (sz_small h)
theorem lstK_ok {xs : List D} {S : Sto} (h : xs.length ≤ 1000000) : lstK xs S = .ok (.lst xs) S := if_pos (sz_small h)
theorem newK_ok {xs : List D} {S : Sto} (h : xs.length ≤ 1000000) : newK xs S = .ok (.ref S.length) (S ++ [.lst xs]) := if_pos (sz_small h)
def cbK (g : Sto → List D → Option D) (xs : List D) (S : Sto) : Res D := optR (g S xs) S
theorem mCB_ap (g : Sto → List D → Option D) (r : MA) (en : En) (S : Sto) : mCB g r en S = (r en S).bind (cbK g) := rfl
theorem cbK_ap (g : Sto → List D → Option D) (xs : List D) (S : Sto) : cbK g xs S = optR (g S xs) S := rfl
def callK (F : Fn) (ds : List D) (S : Sto) : Res D := if ds.length = F.n then F.run ds S else .bad
theorem mCall_ap (F : Fn) (r : MA) (en : En) (S : Sto) : mCall F r en S = (r en S).bind (callK F) := rfl
theorem callK_ok {F : Fn} {ds : List D} {S : Sto} (h : ds.length = F.n) : callK F ds S = F.run ds S := if_pos h
theorem sNil_ap (en : En) (S : Sto) : sNil en S = .ok (.nx en) S := rfl
def seqK (b : MS) (f : Fl) (S : Sto) : Res Fl := match f with
  | .nx en1 => b en1 S
  | .rt d => .ok (.rt d) S
  | .bk e => .ok (.bk e) S
  | .ct e => .ok (.ct e) S
theorem sSeq_ap (a b : MS) (en : En) (S : Sto) : sSeq a b en S = (a en S).bind (seqK b) := rfl
theorem seqK_nx (b : MS) (en : En) (S : Sto) : seqK b (.nx en) S = b en S := rfl
theorem seqK_rt (b : MS) (d : D) (S : Sto) : seqK b (.rt d) S = .ok (.rt d) S := rfl
theorem seqK_bk (b : MS) (d : En) (S : Sto) : seqK b (.bk d) S = .ok (.bk d) S := rfl
theorem seqK_ct (b : MS) (d : En) (S : Sto) : seqK b (.ct d) S = .ok (.ct d) S := rfl
def ifSK (a b : MS) (en : En) (k : Bool) (S : Sto) : Res Fl := match k with
  | true => a en S
  | false => b en S
theorem sIf_ap (t : MT) (a b : MS) (en : En) (S : Sto) : sIf t a b en S = (t en S).bind (ifSK a b en) := rfl
theorem ifSK_t (a b : MS) (en : En) (S : Sto) : ifSK a b en true S = a en S := rfl
theorem ifSK_f (a b : MS) (en : En) (S : Sto) : ifSK a b en false S = b en S := rfl
def retK (d : D) (S : Sto) : Res Fl := .ok (.rt d) S
theorem sRet_ap (e : ME) (en : En) (S : Sto) : sRet e en S = (e en S).bind retK := rfl
theorem retK_ap (d : D) (S : Sto) : retK d S = .ok (.rt d) S := rfl
theorem sRetN_ap (en : En) (S : Sto) : sRetN en S = .ok (.rt .non) S := rfl
def dropK (en : En) (_ : D) (S : Sto) : Res Fl := .ok (.nx en) S
theorem sDrop_ap (e : ME) (en : En) (S : Sto) : sDrop e en S = (e en S).bind (dropK en) := rfl
theorem dropK_ap (en : En) (d : D) (S : Sto) : dropK en d S = .ok (.nx en) S := rfl
def enR (o : Option En) (S : Sto) : Res Fl := match o with
  | some en => .ok (.nx en) S
  | none => .bad
theorem enR_some (en : En) (S : Sto) : enR (some en) S = .ok (.nx en) S := rfl
def asgK (g : MG) (en : En) (d : D) (S : Sto) : Res Fl := enR (g d en) S
theorem sAsg_ap (e : ME) (g : MG) (en : En) (S : Sto) : sAsg e g en S = (e en S).bind (asgK g en) := rfl
theorem asgK_ap (g : MG) (en : En) (d : D) (S : Sto) : asgK g en d S = enR (g d en) S := rfl
theorem gN_ap (i : Nat) (d : D) (en : En) : gN i d en = some (en.set i (some d)) := rfl
theorem gsNil_ap (en : En) : gsNil [] en = some en := rfl
theorem gsCons_ap (g : MG) (r : MGs) (d : D) (ds : List D) (en : En) : gsCons g r (d :: ds) en = (g d en).bind (r ds) := rfl
theorem gT_ap (n : Nat) (g : MGs) (ds : List D) (en : En) : gT n g (.tup ds) en = if ds.length = n then g ds en else none := rfl
def parK (i j : Nat) (en : En) (ds : List D) (S : Sto) : Res Fl := match ds with
  | [x, y] => .ok (.nx ((en.set i (some x)).set j (some y))) S
  | _ => .bad
theorem sPar_ap (i j : Nat) (r : MA) (en : En) (S : Sto) : sPar i j r en S = (r en S).bind (parK i j en) := rfl
theorem parK_ap (i j : Nat) (en : En) (x y : D) (S : Sto) : parK i j en [x, y] S = .ok (.nx ((en.set i (some x)).set j (some y))) S := rfl
theorem sBk_ap (en : En) (S : Sto) : sBk en S = .ok (.bk en) S := rfl
theorem sCt_ap (en : En) (S : Sto) : sCt en S = .ok (.ct en) S := rfl
noncomputable def forK (g : MG) (b : MS) (en : En) (its : Its) (S : Sto) : Res Fl := loop g b its.P its.ds en S
theorem sFor_ap (i : MI) (g : MG) (b : MS) (en : En) (S : Sto) : sFor i g b en S = (i en S).bind (forK g b en) := rfl
theorem forK_ap (g : MG) (b : MS) (en : En) (ds : List D) (P : Sto → Prop) (S : Sto) : forK g b en ⟨ds, P⟩ S = loop g b P ds en S := rfl
def seqIK (d : D) (S : Sto) : Res Its := match seqL S d, seqT d with
  | some ds, _ => .ok ⟨ds, fun S => seqL S d = some ds⟩ S
  | none, some ds => .ok ⟨ds, fun _ => True⟩ S
  | none, none => .bad
theorem iSeq_ap (e : ME) (en : En) (S : Sto) : iSeq e en S = (e en S).bind seqIK := rfl
theorem seqIK_lst (ds : List D) (S : Sto) : seqIK (.lst ds) S = .ok ⟨ds, fun _ => True⟩ S := by
  unfold seqIK
  simp only [seqL]
theorem seqIK_tup (ds : List D) (S : Sto) : seqIK (.tup ds) S = .ok ⟨ds, fun _ => True⟩ S := rfl
theorem seqIK_ktp (ds : List D) (S : Sto) : seqIK (.ktp ds) S = .ok ⟨ds, fun _ => True⟩ S := rfl
open Classical in
noncomputable def rg1K (ds : List D) (S : Sto) : Res Its := match ds with
  | [.int j] => if rgOk j then .ok ⟨rangeD 0 j.toNat, fun _ => True⟩ S else .bad
  | _ => .bad
theorem iRg1_ap (r : MA) (en : En) (S : Sto) : iRg1 r en S = (r en S).bind rg1K := rfl
theorem rg1K_ok {j : Int} {S : Sto} (h : -(2 ^ 62) ≤ j ∧ j < 2 ^ 62) : rg1K [.int j] S = .ok ⟨rangeD 0 j.toNat, fun _ => True⟩ S := if_pos h
open Classical in
noncomputable def rg2K (ds : List D) (S : Sto) : Res Its := match ds with
  | [.int i, .int j] => if rgOk i ∧ rgOk j then .ok ⟨rangeD i (j - i).toNat, fun _ => True⟩ S else .bad
  | _ => .bad
theorem iRg2_ap (r : MA) (en : En) (S : Sto) : iRg2 r en S = (r en S).bind rg2K := rfl
noncomputable def turnK (g : MG) (b : MS) (P : Sto → Prop) (ds : List D) (f : Fl) (S : Sto) : Res Fl := match f with
  | .nx en2 => loop g b P ds en2 S
  | .ct en2 => loop g b P ds en2 S
  | .bk en2 => .ok (.nx en2) S
  | .rt d => .ok (.rt d) S
theorem turnK_nx (g : MG) (b : MS) (P : Sto → Prop) (ds : List D) (en : En) (S : Sto) : turnK g b P ds (.nx en) S = loop g b P ds en S := rfl
theorem turnK_ct (g : MG) (b : MS) (P : Sto → Prop) (ds : List D) (en : En) (S : Sto) : turnK g b P ds (.ct en) S = loop g b P ds en S := rfl
theorem turnK_bk (g : MG) (b : MS) (P : Sto → Prop) (ds : List D) (en : En) (S : Sto) : turnK g b P ds (.bk en) S = .ok (.nx en) S := rfl
theorem turnK_rt (g : MG) (b : MS) (P : Sto → Prop) (ds : List D) (d : D) (S : Sto) : turnK g b P ds (.rt d) S = .ok (.rt d) S := rfl
noncomputable def stepR (g : MG) (b : MS) (P : Sto → Prop) (ds : List D) (o : Option En) (S : Sto) : Res Fl := match o with
  | none => .bad
  | some en => (b en S).bind (turnK g b P ds)
theorem stepR_some (g : MG) (b : MS) (P : Sto → Prop) (ds : List D) (en : En) (S : Sto) : stepR g b P ds (some en) S = (b en S).bind (turnK g b P ds) := rfl
theorem loop_nil (g : MG) (b : MS) (en : En) (S : Sto) : loop g b (fun _ => True) [] en S = .ok (.nx en) S := if_pos trivial
theorem loop_cons (g : MG) (b : MS) (d : D) (ds : List D) (en : En) (S : Sto) : loop g b (fun _ => True) (d :: ds) en S = stepR g b (fun _ => True) ds (g d en) S := by
  rw [loop, if_pos trivial]
  rfl
def endK (f : Fl) (S : Sto) : Res D := match f with
  | .nx _ => .ok .non S
  | .rt d => .ok d S
  | _ => .bad
theorem fnB_run (n N : Nat) (b : MS) (ds : List D) (S : Sto) : (fnB n N b).run ds S = (b (startE N ds) S).bind endK := rfl
theorem endK_nx (en : En) (S : Sto) : endK (.nx en) S = .ok .non S := rfl
theorem endK_rt (d : D) (S : Sto) : endK (.rt d) S = .ok d S := rfl
theorem dropF_run (F : Fn) (ds : List D) (S : Sto) : (dropF F).run ds S = (F.run ds S).drop S := rfl
theorem fnB_n (n N : Nat) (b : MS) : (fnB n N b).n = n := rfl
theorem dropF_n (F : Fn) : (dropF F).n = F.n := rfl
def Wp {α : Type} (r : Res α) (Q : α → Sto → Prop) : Prop := match r with
  | .ok a S => Q a S
  | _ => False
theorem Wp_ok {α : Type} (a : α) (S : Sto) (Q : α → Sto → Prop) : Wp (.ok a S) Q = Q a S := rfl
theorem Wp_bind {α β : Type} (r : Res α) (k : α → Sto → Res β) (Q : β → Sto → Prop) : Wp (r.bind k) Q = Wp r (fun a S => Wp (k a S) Q) := by cases r <;> rfl
theorem Wp.mono {α : Type} {r : Res α} {Q Q' : α → Sto → Prop} (h : Wp r Q) (f : ∀ a S, Q a S → Q' a S) : Wp r Q' := by
  cases r with
  | ok a S => exact f a S h
  | ex c ns vs S => exact h.elim
  | bad => exact h.elim
theorem Wp.of {α : Type} {r : Res α} {a : α} {S : Sto} {Q : α → Sto → Prop} (h : r = .ok a S) (q : Q a S) : Wp r Q := by rw [h]; exact q
theorem Wp.ok_of {α : Type} {r : Res α} {Q : α → Sto → Prop} (h : Wp r Q) : ∃ a S, r = .ok a S ∧ Q a S := by
  cases r with
  | ok a S => exact ⟨a, S, rfl, h⟩
  | ex c ns vs S => exact h.elim
  | bad => exact h.elim
open Classical in
theorem Wp_drop {r : Res D} {S : Sto} {Q : D → Sto → Prop} : Wp (r.drop S) Q = Wp r (fun d S' => (Cl S S' ∧ d.bel S.length) ∧ Q d (S'.take S.length)) := by
  cases r with
  | ok d S' =>
    simp only [Res.drop, Wp]
    by_cases h : Cl S S' ∧ d.bel S.length
    · rw [if_pos h]
      simp [h]
    · rw [if_neg h]
      simp only [h, false_and]
  | ex c ns vs S' =>
    simp only [Res.drop, Wp]
    split
    · rename_i h
      split at h <;> cases h
    · rfl
  | bad => rfl
theorem Cl.set {S : Sto} {i : Nat} {b : Ob} (hb : b.bel S.length) : Cl S (S.set i b) := ⟨by simp, fun j hj => by
  by_cases h : i = j
  · subst h
    exact .inr ⟨b, List.getElem?_set_self hj, hb⟩
  · exact .inl (List.getElem?_set_ne h)⟩
theorem Cl.refl (S : Sto) : Cl S S := ⟨Nat.le_refl _, fun _ _ => .inl rfl⟩
theorem sWhile_ap (n : Nat) (t : MT) (b : MS) (en : En) (S : Sto) : sWhile n t b en S = whil t b n en S := rfl
noncomputable def itK (g : MG) (t : MT) (e : ME) (en : En) (its : Its) (S : Sto) : Res (List D) := comp g t e its.P en its.ds [] S
theorem cItems_ap (i : MI) (g : MG) (t : MT) (e : ME) (vs : List Nat) (en : En) (S : Sto) : cItems i g t e vs en S = (i en S).bind (itK g t e (wipeE en vs)) := rfl
theorem itK_ap (g : MG) (t : MT) (e : ME) (en : En) (ds : List D) (P : Sto → Prop) (S : Sto) : itK g t e en ⟨ds, P⟩ S = comp g t e P en ds [] S := rfl
def lcK (ds : List D) (S : Sto) : Res D := .ok (.lst ds) S
def lcNK (ds : List D) (S : Sto) : Res D := .ok (.ref S.length) (S ++ [.lst ds])
theorem mLc_ap (i : MI) (g : MG) (t : MT) (e : ME) (vs : List Nat) (en : En) (S : Sto) : mLc i g t e vs en S = (cItems i g t e vs en S).bind lcK := rfl
theorem mLcN_ap (i : MI) (g : MG) (t : MT) (e : ME) (vs : List Nat) (en : En) (S : Sto) : mLcN i g t e vs en S = (cItems i g t e vs en S).bind lcNK := rfl
theorem lcK_ap (ds : List D) (S : Sto) : lcK ds S = .ok (.lst ds) S := rfl
theorem lcNK_ap (ds : List D) (S : Sto) : lcNK ds S = .ok (.ref S.length) (S ++ [.lst ds]) := rfl
theorem tYesM_ap (en : En) (S : Sto) : tYesM en S = .ok true S := rfl
end G
end
section
namespace G
open PySem L2
theorem dAdd_int (S : Sto) (i j : Int) : dAdd S (.int i) (.int j) = some (.int (i + j)) := rfl
theorem dAdd_lst (S : Sto) (x y : List D) : dAdd S (.lst x) (.lst y) = if x.length + y.length ≤ sizeLine then some (.lst (x ++ y)) else none := rfl
theorem dSub_int (S : Sto) (i j : Int) : dSub S (.int i) (.int j) = some (.int (i - j)) := rfl
theorem dMul_l {S : Sto} {i j : Int} (h : -(2 ^ 64) < i ∧ i < 2 ^ 64) : dMul S (.int i) (.int j) = some (.int (i * j)) := if_pos (.inl h)
theorem dMul_r {S : Sto} {i j : Int} (h : -(2 ^ 64) < j ∧ j < 2 ^ 64) : dMul S (.int i) (.int j) = some (.int (i * j)) := if_pos (.inr h)
theorem dDiv_int {S : Sto} {i j : Int} (h : 0 < j ∧ j < 1073741824) : dDiv S (.int i) (.int j) = some (.int (i / j)) := if_pos h
theorem dMod_int {S : Sto} {i j : Int} (h : 0 < j) : dMod S (.int i) (.int j) = some (.int (i % j)) := if_pos h
theorem dPow_int {S : Sto} {i j : Int} (h : CPow i j) : dPow S (.int i) (.int j) = some (.int (i ^ j.toNat)) := if_pos h
theorem dAnd_int (S : Sto) (i j : Int) : dAnd S (.int i) (.int j) = some (.int (Builtin.bitAnd i j)) := rfl
theorem dOr_int (S : Sto) (i j : Int) : dOr S (.int i) (.int j) = some (.int (Builtin.bitOr i j)) := rfl
theorem dLe0_int (S : Sto) (i j : Int) : dLe0 S (.int i) (.int j) = some (.bl (decide (i ≤ j))) := rfl
theorem dGt0_int (S : Sto) (i j : Int) : dGt0 S (.int i) (.int j) = some (.bl (decide (j < i))) := rfl
theorem dGe0_int (S : Sto) (i j : Int) : dGe0 S (.int i) (.int j) = some (.bl (decide (j ≤ i))) := rfl
theorem sh_int (i : Int) : SeqAt.shaped (.int i) = true := by simp [SeqAt.shaped, PyData.canLay0, PyData.depth]
theorem pdv_int (S : Sto) (i : Int) : pdv S (.int i) = some (.int i) := by simp [pdv, seqL, pd]
theorem pdv_lst (S : Sto) (ds : List D) : pdv S (.lst ds) = (pds ds).map .list := by simp [pdv, seqL]
theorem dLt_int (S : Sto) (i j : Int) : dLt S (.int i) (.int j) = some (.bl (decide (i < j))) := by
  simp only [dLt, pdv_int, sh_int, and_self, if_true, pLt, Option.map_some]
theorem dEq_int (S : Sto) (i j : Int) : dEq S (.int i) (.int j) = some (.bl (decide (i = j))) := by
  simp only [dEq, dEqB, pdv_int, sh_int, and_self, if_true, PyData.eqv, Option.map_some]
  rfl
theorem dNe_str (S : Sto) (i j : Str) : dNe S (.str i) (.str j) = some (.bl (!decide (i = j))) := rfl
theorem dNe_same {S : Sto} {x : Str} : dNe S (.str x) (.str x) = some (.bl false) := by rw [dNe_str]; simp
theorem dIs_non (S : Sto) (x : D) : dIs S x .non = some (.bl (isNon x)) := rfl
theorem dIsNot_non (S : Sto) (x : D) : dIsNot S x .non = some (.bl (!isNon x)) := rfl
theorem dNeg_int (S : Sto) (i : Int) : dNeg S (.int i) = some (.int (-i)) := rfl
theorem dIdx_tup (S : Sto) (ds : List D) (i : Int) : dIdx S (.tup ds) (.int i) = atI ds i := rfl
theorem dIdx_lst (S : Sto) (ds : List D) (i : Int) : dIdx S (.lst ds) (.int i) = atI ds i := rfl
theorem dIdx_scr (S : Sto) (ds : List D) (i : Int) : dIdx S (.scr ds) (.int i) = atI ds i := rfl
def idxO (o : Option Ob) (i : Int) : Option D := match o with
  | some (.lst ds) => atI ds i
  | _ => none
theorem idxO_lst (ds : List D) (i : Int) : idxO (some (.lst ds)) i = atI ds i := rfl
theorem atI_at {α : Type} {xs : List α} {i : Int} {x : α} (h : 0 ≤ i) (e : xs[i.toNat]? = some x) : atI xs i = some x := by
  have hl := (List.getElem?_eq_some_iff.mp e).1
  unfold atI ixN
  rw [if_pos h, if_pos (by omega)]
  exact e
theorem dLen_lst (S : Sto) (ds : List D) : dLen S [.lst ds] = some (.int ds.length) := rfl
theorem dLen_scr (S : Sto) (ds : List D) : dLen S [.scr ds] = some (.int ds.length) := rfl
theorem dLen_tup (S : Sto) (ds : List D) : dLen S [.tup ds] = some (.int ds.length) := rfl
theorem dInt_int (S : Sto) (i : Int) : dInt S [.int i] = some (.int i) := rfl
theorem dInt_bl (S : Sto) (k : Bool) : dInt S [.bl k] = some (.int (if k then 1 else 0)) := rfl
theorem dAbs_int (S : Sto) (i : Int) : dAbs S [.int i] = some (.int (if i < 0 then -i else i)) := rfl
theorem dStr_str (S : Sto) (x : Str) : dStr S [.str x] = some (.str x) := rfl
theorem dTuple_lst (S : Sto) (ds : List D) : dTuple S [.lst ds] = some (.tup ds) := rfl
theorem dTuple_tup (S : Sto) (ds : List D) : dTuple S [.tup ds] = some (.tup ds) := rfl
theorem dList_tup (S : Sto) (ds : List D) : dList S [.tup ds] = some (.lst ds) := rfl
theorem dList_lst (S : Sto) (ds : List D) : dList S [.lst ds] = some (.lst ds) := rfl
theorem dAll_lst (S : Sto) (ds : List D) : dAll S [.lst ds] = (bls ds).map fun bs => .bl (bs.all id) := rfl
theorem dAny_lst (S : Sto) (ds : List D) : dAny S [.lst ds] = (bls ds).map fun bs => .bl (bs.any id) := rfl
def bmsK1 (g : Sto → D → List D → Option D) (r : MA) (en : En) (x : D) (S : Sto) : Res D := match x with
  | .str z => (r en S).bind fun xs S2 => optR (g S2 (.str z) xs) S2
  | _ => .bad
def bmsK2 (g : Sto → D → List D → Option D) (z : Str) (xs : List D) (S : Sto) : Res D := optR (g S (.str z) xs) S
theorem mBMs_ap (g : Sto → D → List D → Option D) (o : ME) (r : MA) (en : En) (S : Sto) : mBMs g o r en S = (o en S).bind (bmsK1 g r en) := rfl
theorem bmsK1_str (g : Sto → D → List D → Option D) (r : MA) (en : En) (z : Str) (S : Sto) : bmsK1 g r en (.str z) S = (r en S).bind (bmsK2 g z) := rfl
theorem bmsK2_ap (g : Sto → D → List D → Option D) (z : Str) (xs : List D) (S : Sto) : bmsK2 g z xs S = optR (g S (.str z) xs) S := rfl
theorem oNone_ap (en : En) (S : Sto) : oNone en S = .ok none S := rfl
def oSomeK (d : D) (S : Sto) : Res (Option Int) := match d with
  | .int i => .ok (some i) S
  | _ => .bad
theorem oSome_ap (e : ME) (en : En) (S : Sto) : oSome e en S = (e en S).bind oSomeK := rfl
theorem oSomeK_int (i : Int) (S : Sto) : oSomeK (.int i) S = .ok (some i) S := rfl
def slK3 (x : D) (lo hi : Option Int) (S : Sto) : Res D := optR (dSl S x lo hi) S
def slK2 (h : MO) (en : En) (x : D) (lo : Option Int) (S : Sto) : Res D := (h en S).bind (slK3 x lo)
def slK1 (l h : MO) (en : En) (x : D) (S : Sto) : Res D := (l en S).bind (slK2 h en x)
theorem mSl_ap (a : ME) (l h : MO) (en : En) (S : Sto) : mSl a l h en S = (a en S).bind (slK1 l h en) := rfl
theorem slK1_ap (l h : MO) (en : En) (x : D) (S : Sto) : slK1 l h en x S = (l en S).bind (slK2 h en x) := rfl
theorem slK2_ap (h : MO) (en : En) (x : D) (lo : Option Int) (S : Sto) : slK2 h en x lo S = (h en S).bind (slK3 x lo) := rfl
theorem slK3_ap (x : D) (lo hi : Option Int) (S : Sto) : slK3 x lo hi S = optR (dSl S x lo hi) S := rfl
theorem dSl_lst (S : Sto) (ds : List D) (lo hi : Option Int) : dSl S (.lst ds) lo hi = some (.lst (cutD ds lo hi)) := rfl
theorem dSl_scr (S : Sto) (ds : List D) (lo hi : Option Int) : dSl S (.scr ds) lo hi = some (.lst (cutD ds lo hi)) := rfl
theorem dSl_tup (S : Sto) (ds : List D) (lo hi : Option Int) : dSl S (.tup ds) lo hi = some (.tup (cutD ds lo hi)) := rfl
def ixK3 (d : D) (x : D) (en : En) (y : D) (S : Sto) : Res Fl := match x, y with
  | .ref i, .int n => match S[i]? with
    | some (.lst ds) => match ixN ds.length n with
      | some j => .ok (.nx en) (S.set i (.lst (ds.set j d)))
      | none => .bad
    | _ => .bad
  | _, _ => .bad
def ixK2 (k : ME) (en : En) (d : D) (x : D) (S : Sto) : Res Fl := (k en S).bind (ixK3 d x en)
def ixK1 (o k : ME) (en : En) (d : D) (S : Sto) : Res Fl := (o en S).bind (ixK2 k en d)
theorem sIx_ap (o k e : ME) (en : En) (S : Sto) : sIx o k e en S = (e en S).bind (ixK1 o k en) := rfl
theorem ixK1_ap (o k : ME) (en : En) (d : D) (S : Sto) : ixK1 o k en d S = (o en S).bind (ixK2 k en d) := rfl
theorem ixK2_ap (k : ME) (en : En) (d x : D) (S : Sto) : ixK2 k en d x S = (k en S).bind (ixK3 d x en) := rfl
def ixO2 (o : Option Nat) (ds : List D) (d : D) (i : Nat) (en : En) (S : Sto) : Res Fl := match o with
  | some j => .ok (.nx en) (S.set i (.lst (ds.set j d)))
  | none => .bad
def ixO (o : Option Ob) (d : D) (i : Nat) (en : En) (n : Int) (S : Sto) : Res Fl := match o with
  | some (.lst ds) => ixO2 (ixN ds.length n) ds d i en S
  | _ => .bad
theorem ixK3_ref (d : D) (i : Nat) (en : En) (n : Int) (S : Sto) : ixK3 d (.ref i) en (.int n) S = ixO S[i]? d i en n S := by
  simp only [ixK3, ixO]
  cases S[i]? with
  | none => rfl
  | some o => cases o <;> rfl
theorem ixO_lst (ds : List D) (d : D) (i : Nat) (en : En) (n : Int) (S : Sto) : ixO (some (.lst ds)) d i en n S = ixO2 (ixN ds.length n) ds d i en S := rfl
theorem ixO2_some (j : Nat) (ds : List D) (d : D) (i : Nat) (en : En) (S : Sto) : ixO2 (some j) ds d i en S = .ok (.nx en) (S.set i (.lst (ds.set j d))) := rfl
theorem ixN_0 (n : Nat) : ixN (n + 1) 0 = some 0 := by unfold ixN; rw [if_pos (by omega), if_pos (by omega)]; rfl
theorem ixN_1 (n : Nat) : ixN (n + 1 + 1) 1 = some 1 := by unfold ixN; rw [if_pos (by omega), if_pos (by omega)]; rfl
theorem ixN_2 (n : Nat) : ixN (n + 1 + 1 + 1) 2 = some 2 := by unfold ixN; rw [if_pos (by omega), if_pos (by omega)]; rfl
def appK2 (i : Nat) (en : En) (d : D) (S : Sto) : Res Fl := match S[i]? with
  | some (.lst ds) => if ds.length < sizeLine then .ok (.nx en) (S.set i (.lst (ds ++ [d]))) else .bad
  | _ => .bad
def appK1 (e : ME) (en : En) (x : D) (S : Sto) : Res Fl := match x with
  | .ref i => match S[i]? with
    | some (.lst _) => (e en S).bind (appK2 i en)
    | _ => .bad
  | _ => .bad
theorem sApp_ap (o e : ME) (en : En) (S : Sto) : sApp o e en S = (o en S).bind (appK1 e en) := rfl
def appO1 (o : Option Ob) (e : ME) (en : En) (i : Nat) (S : Sto) : Res Fl := match o with
  | some (.lst _) => (e en S).bind (appK2 i en)
  | _ => .bad
theorem appK1_ref (e : ME) (en : En) (i : Nat) (S : Sto) : appK1 e en (.ref i) S = appO1 S[i]? e en i S := by
  simp only [appK1, appO1]
theorem appO1_lst (ds : List D) (e : ME) (en : En) (i : Nat) (S : Sto) : appO1 (some (.lst ds)) e en i S = (e en S).bind (appK2 i en) := rfl
def appO2 (o : Option Ob) (en : En) (i : Nat) (d : D) (S : Sto) : Res Fl := match o with
  | some (.lst ds) => if ds.length < sizeLine then .ok (.nx en) (S.set i (.lst (ds ++ [d]))) else .bad
  | _ => .bad
theorem appK2_ap (i : Nat) (en : En) (d : D) (S : Sto) : appK2 i en d S = appO2 S[i]? en i d S := by
  simp only [appK2, appO2]
theorem appO2_lst {ds : List D} {en : En} {i : Nat} {d : D} {S : Sto} (hl : ds.length < 1000000) : appO2 (some (.lst ds)) en i d S = .ok (.nx en) (S.set i (.lst (ds ++ [d]))) := if_pos (Nat.lt_of_lt_of_le hl (by decide))
def extK2 (i : Nat) (en : En) (d : D) (S : Sto) : Res Fl := match S[i]?, d with
  | some (.lst ds), .lst es => if ds.length + es.length ≤ sizeLine then .ok (.nx en) (S.set i (.lst (ds ++ es))) else .bad
  | _, _ => .bad
def extK1 (e : ME) (en : En) (x : D) (S : Sto) : Res Fl := match x with
  | .ref i => match S[i]? with
    | some (.lst _) => (e en S).bind (extK2 i en)
    | _ => .bad
  | _ => .bad
theorem sExt_ap (o e : ME) (en : En) (S : Sto) : sExt o e en S = (o en S).bind (extK1 e en) := rfl
def extO1 (o : Option Ob) (e : ME) (en : En) (i : Nat) (S : Sto) : Res Fl := match o with
  | some (.lst _) => (e en S).bind (extK2 i en)
  | _ => .bad
theorem extO1_lst (ds : List D) (e : ME) (en : En) (i : Nat) (S : Sto) : extO1 (some (.lst ds)) e en i S = (e en S).bind (extK2 i en) := rfl
def fsK (ms : List ME) (acc : Str) (en : En) (d : D) (S : Sto) : Res D := match d with
  | .str y => if (acc ++ y).length ≤ sizeLine then fsAll ms (acc ++ y) en S else .bad
  | _ => .bad
theorem mFs_ap (ms : List ME) (en : En) (S : Sto) : mFs ms en S = fsAll ms Str.empty en S := rfl
theorem fsAll_nil (acc : Str) (en : En) (S : Sto) : fsAll [] acc en S = .ok (.str acc) S := rfl
theorem fsAll_cons (m : ME) (ms : List ME) (acc : Str) (en : En) (S : Sto) : fsAll (m :: ms) acc en S = (m en S).bind (fsK ms acc en) := rfl
end G
end
section
namespace G
open PySem L2
theorem reprOk_of {p : PyData} (h1 : p.canLay0 = true) (h2 : p.depth ≤ 64) (h3 : p.weight ≤ 1000000) (h4 : p.intsShort 13 = true) (h5 : p.showable = true) : reprOk p := by
  refine ⟨?_, h5, ?_⟩
  · simp [SeqAt.shaped, h1, h2]
  · have := PyData.shown_le 13 (by decide) p (PyData.leavesShort_of_canLay0 13 p h1 h4)
    exact Nat.le_trans this (Nat.le_trans (show (13 + 2) * p.weight + 13 ≤ 15 * 1000000 + 13 by omega) (by decide))
mutual
def smD : D → Bool
  | .non => true
  | .bl _ => true
  | .int i => decide (-999999999999 ≤ i) && decide (i ≤ 999999999999)
  | .str x => PyData.strOk x
  | .tup ds => smDs ds
  | .ktp ds => smDs ds
  | .lst ds => smDs ds
  | .scr ds => smDs ds
  | _ => false
def smDs : List D → Bool
  | [] => true
  | d :: r => smD d && smDs r
end
mutual
def wD : D → Nat
  | .int _ => 64
  | .str x => x.length
  | .tup ds => wDs ds
  | .ktp ds => wDs ds
  | .lst ds => wDs ds
  | .scr ds => wDs ds
  | _ => 0
def wDs : List D → Nat
  | [] => 0
  | d :: r => wD d + 1 + wDs r
end
mutual
def dpD : D → Nat
  | .tup ds => dpDs ds + 1
  | .ktp ds => dpDs ds + 1
  | .lst ds => dpDs ds + 1
  | .scr ds => dpDs ds + 1
  | _ => 0
def dpDs : List D → Nat
  | [] => 0
  | d :: r => max (dpD d) (dpDs r)
end
def Smp (d : D) (p : PyData) : Prop := pd d = some p ∧ p.canLay0 = true ∧ p.depth ≤ dpD d ∧ p.weight ≤ wD d ∧ p.intsShort 13 = true ∧ p.showable = true
def Smps (ds : List D) (ps : List PyData) : Prop := pds ds = some ps ∧ PyData.canLayAll0 ps = true ∧ PyData.depthAll ps ≤ dpDs ds ∧ PyData.weightAll ps ≤ wDs ds ∧ PyData.intsShortAll 13 ps = true ∧ PyData.showableAll ps = true
theorem int_log {i : Int} (h1 : -999999999999 ≤ i) (h2 : i ≤ 999999999999) : i.natAbs.log2 < 63 := by
  by_cases h : i.natAbs = 0
  · rw [h]; decide
  · exact (Nat.log2_lt h).mpr (Nat.lt_of_lt_of_le (by omega : i.natAbs < 1000000000000) (by decide))
mutual
theorem smp_of : ∀ d : D, smD d = true → ∃ p, Smp d p
  | .non, _ => ⟨.none, by simp [Smp, pd, PyData.canLay0, PyData.depth, PyData.weight, PyData.intsShort, PyData.showable]⟩
  | .bl b, _ => ⟨.bool b, by simp [Smp, pd, PyData.canLay0, PyData.depth, PyData.weight, PyData.intsShort, PyData.showable]⟩
  | .int i, h => ⟨.int i, by
    simp only [smD, Bool.and_eq_true, decide_eq_true_eq] at h
    have h1 := PySem.PyData.shown_int_le2 h.1 h.2
    have h2 := int_log h.1 h.2
    refine ⟨by simp only [pd], by simp only [PyData.canLay0], by simp only [PyData.depth]; exact Nat.zero_le _, ?_, by simp only [PyData.intsShort]; exact decide_eq_true h1, by simp only [PyData.showable]; exact decide_eq_true (by omega)⟩
    simp only [PyData.weight, wD]
    split <;> omega⟩
  | .str x, h => ⟨.str x, by
    simp only [smD] at h
    exact ⟨by simp only [pd], by simp only [PyData.canLay0]; exact h, by simp only [PyData.depth]; exact Nat.zero_le _, by simp only [PyData.weight, wD]; exact Nat.le_refl _, by simp only [PyData.intsShort], by simp only [PyData.showable]⟩⟩
  | .tup ds, h => by
    simp only [smD] at h
    obtain ⟨ps, a, b, c, d, e, f⟩ := smps_of ds h
    exact ⟨.tuple ps, by simp only [pd, a, Option.map_some], by simp only [PyData.canLay0]; exact b, by simp only [PyData.depth, dpD]; omega, by simp only [PyData.weight, wD]; exact d, by simp only [PyData.intsShort]; exact e, by simp only [PyData.showable]; exact f⟩
  | .ktp ds, h => by
    simp only [smD] at h
    obtain ⟨ps, a, b, c, d, e, f⟩ := smps_of ds h
    exact ⟨.tuple ps, by simp only [pd, a, Option.map_some], by simp only [PyData.canLay0]; exact b, by simp only [PyData.depth, dpD]; omega, by simp only [PyData.weight, wD]; exact d, by simp only [PyData.intsShort]; exact e, by simp only [PyData.showable]; exact f⟩
  | .lst ds, h => by
    simp only [smD] at h
    obtain ⟨ps, a, b, c, d, e, f⟩ := smps_of ds h
    exact ⟨.list ps, by simp only [pd, a, Option.map_some], by simp only [PyData.canLay0]; exact b, by simp only [PyData.depth, dpD]; omega, by simp only [PyData.weight, wD]; exact d, by simp only [PyData.intsShort]; exact e, by simp only [PyData.showable]; exact f⟩
  | .scr ds, h => by
    simp only [smD] at h
    obtain ⟨ps, a, b, c, d, e, f⟩ := smps_of ds h
    exact ⟨.list ps, by simp only [pd, a, Option.map_some], by simp only [PyData.canLay0]; exact b, by simp only [PyData.depth, dpD]; omega, by simp only [PyData.weight, wD]; exact d, by simp only [PyData.intsShort]; exact e, by simp only [PyData.showable]; exact f⟩
  | .dic _ _, h => by simp [smD] at h
  | .ins _ _ _, h => by simp [smD] at h
  | .ref _, h => by simp [smD] at h
  | .fn _, h => by simp [smD] at h
  | .ty _, h => by simp [smD] at h
  | .cl _, h => by simp [smD] at h
  | .lam _ _ _ _ _, h => by simp [smD] at h
theorem smps_of : ∀ ds : List D, smDs ds = true → ∃ ps, Smps ds ps
  | [], _ => ⟨[], by simp [Smps, pds, PyData.canLayAll0, PyData.depthAll, PyData.weightAll, PyData.intsShortAll, PyData.showableAll]⟩
  | d :: r, h => by
    simp only [smDs, Bool.and_eq_true] at h
    obtain ⟨p, a, b, c, d', e, f⟩ := smp_of d h.1
    obtain ⟨ps, a2, b2, c2, d2, e2, f2⟩ := smps_of r h.2
    exact ⟨p :: ps, by simp only [pds, a, a2], by simp only [PyData.canLayAll0, b, b2]; rfl, by simp only [PyData.depthAll, dpDs]; omega, by simp only [PyData.weightAll, wDs]; omega, by simp only [PyData.intsShortAll, e, e2]; rfl, by simp only [PyData.showableAll, f, f2]; rfl⟩
end
theorem pdv_sm {S : Sto} : ∀ {d : D}, smD d = true → pdv S d = pd d
  | .non, _ => by simp [pdv, seqL]
  | .bl b, _ => by simp [pdv, seqL]
  | .int i, _ => by simp [pdv, seqL]
  | .str i, _ => by simp [pdv, seqL]
  | .tup i, _ => by simp [pdv, seqL]
  | .ktp i, _ => by simp [pdv, seqL]
  | .lst i, _ => by simp [pdv, seqL, pd]
  | .scr i, _ => by simp [pdv, seqL, pd]
  | .dic _ _, h => by simp [smD] at h
  | .ins _ _ _, h => by simp [smD] at h
  | .ref _, h => by simp [smD] at h
  | .fn _, h => by simp [smD] at h
  | .ty _, h => by simp [smD] at h
  | .cl _, h => by simp [smD] at h
  | .lam _ _ _ _ _, h => by simp [smD] at h
def plainK : D → Bool := fun _ => true
theorem repr_sm {d : D} (h : smD d = true) (hd : dpD d ≤ 64) (hw : wD d ≤ 1000000) (hp : plainK d = true) : ∃ z, ∀ S, dRepr S [d] = some (.str z) := by
  obtain ⟨p, a, b, c, e, f, g⟩ := smp_of d h
  refine ⟨p.shown, fun S => ?_⟩
  have hr : reprOk p := reprOk_of b (by omega) (by omega) f g
  have hv : pdv S d = some p := (pdv_sm h).trans a
  unfold dRepr
  simp only [hv]
  exact if_pos hr
noncomputable def cK2 (g : MG) (t : MT) (e : ME) (en : En) (ds acc : List D) (x : D) (S : Sto) : Res (List D) := if acc.length < sizeLine then comp g t e (fun _ => True) en ds (acc ++ [x]) S else .bad
noncomputable def cK1 (g : MG) (t : MT) (e : ME) (en en1 : En) (ds acc : List D) (k : Bool) (S : Sto) : Res (List D) := match k with
  | false => comp g t e (fun _ => True) en ds acc S
  | true => (e en1 S).noex.bind (cK2 g t e en ds acc)
noncomputable def cK0 (g : MG) (t : MT) (e : ME) (en : En) (ds acc : List D) (o : Option En) (S : Sto) : Res (List D) := match o with
  | none => .bad
  | some en1 => (t en1 S).noex.bind (cK1 g t e en en1 ds acc)
theorem comp_nil_ap (g : MG) (t : MT) (e : ME) (en : En) (acc : List D) (S : Sto) : comp g t e (fun _ => True) en [] acc S = .ok acc S := by rw [comp, if_pos trivial]
theorem comp_cons_ap (g : MG) (t : MT) (e : ME) (en : En) (d : D) (ds acc : List D) (S : Sto) : comp g t e (fun _ => True) en (d :: ds) acc S = cK0 g t e en ds acc (g d en) S := by
  rw [comp, if_pos trivial]
  rfl
theorem cK0_some (g : MG) (t : MT) (e : ME) (en en1 : En) (ds acc : List D) (S : Sto) : cK0 g t e en ds acc (some en1) S = (t en1 S).noex.bind (cK1 g t e en en1 ds acc) := rfl
theorem cK1_f (g : MG) (t : MT) (e : ME) (en en1 : En) (ds acc : List D) (S : Sto) : cK1 g t e en en1 ds acc false S = comp g t e (fun _ => True) en ds acc S := rfl
theorem cK1_t (g : MG) (t : MT) (e : ME) (en en1 : En) (ds acc : List D) (S : Sto) : cK1 g t e en en1 ds acc true S = (e en1 S).noex.bind (cK2 g t e en ds acc) := rfl
theorem cK2_ap {g : MG} {t : MT} {e : ME} {en : En} {ds acc : List D} {x : D} {S : Sto} (h : acc.length < 1000000) : cK2 g t e en ds acc x S = comp g t e (fun _ => True) en ds (acc ++ [x]) S := if_pos (Nat.lt_of_lt_of_le h (by decide))
theorem noex_ok {α : Type} (a : α) (S : Sto) : (Res.ok a S).noex = .ok a S := rfl
end G
end
section
namespace G
open PySem L2
abbrev t2 (a b : Int) : D := .tup [.int a, .int b]
end G
end
section
namespace G
open PySem L2 PyProof.Rows
def MkG (m : Nat) : Prop := m = 7 ∨ m = 31 ∨ m = 127 ∨ m = 511 ∨ m = 2047
theorem MkG.cases {m : Nat} (h : MkG m) : MaskOk m ∨ m = 511 ∨ m = 2047 := by
  rcases h with e | e | e | e | e
  · exact .inl (.inl e)
  · exact .inl (.inr (.inl e))
  · exact .inl (.inr (.inr e))
  · exact .inr (.inl e)
  · exact .inr (.inr e)
def bmp : List Nat → Nat
  | [] => 0
  | x :: l => bmp l ||| 2 ^ x
theorem bmp_mem : ∀ (l : List Nat) (j : Nat), (bmp l).testBit j = true → j ∈ l
  | [], j, h => by simp [bmp] at h
  | x :: l, j, h => by
    rw [bmp, Nat.testBit_or, Bool.or_eq_true] at h
    rcases h with h | h
    · exact List.mem_cons_of_mem _ (bmp_mem l j h)
    · rw [Nat.testBit_two_pow] at h
      have e : x = j := by simpa using h
      rw [e]
      exact List.mem_cons_self
theorem all511 : bmp ((List.range 512).map (lcgN 511)) = 2 ^ 512 - 1 := by decide +kernel
theorem rnd511 : lcgN 511 512 = 0 := by decide +kernel
theorem again511 : ∀ k, lcgN 511 (512 + k) = lcgN 511 k
  | 0 => rnd511
  | k + 1 => congrArg (fun z => (z * 5 + 1) % 512) (again511 k)
theorem from511 {j : Nat} (h : j ≤ 511) : ∃ b, b ≤ 511 ∧ lcgN 511 b = j := by
  have t : (bmp ((List.range 512).map (lcgN 511))).testBit j = true := by
    rw [all511, Nat.testBit_two_pow_sub_one]
    exact decide_eq_true (by omega)
  obtain ⟨b, hb, e⟩ := List.mem_map.mp (bmp_mem _ _ t)
  exact ⟨b, Nat.le_of_lt_succ (List.mem_range.mp hb), e⟩
def wlk (m : Nat) : Nat → Nat → Nat → Nat
  | 0, _, b => b
  | n + 1, x, b => wlk m n ((x * 5 + 1) % (m + 1)) (b ||| 2 ^ x)
theorem wlk_bit {m : Nat} : ∀ (n k b j : Nat), (wlk m n (lcgN m k) b).testBit j = true → b.testBit j = true ∨ ∃ i, i < n ∧ lcgN m (k + i) = j
  | 0, k, b, j, h => .inl h
  | n + 1, k, b, j, h => by
    rcases wlk_bit n (k + 1) (b ||| 2 ^ lcgN m k) j h with h | ⟨i, h1, h2⟩
    · rw [Nat.testBit_or, Bool.or_eq_true] at h
      rcases h with h | h
      · exact .inl h
      · rw [Nat.testBit_two_pow] at h
        exact .inr ⟨0, by omega, by simpa using h⟩
    · exact .inr ⟨i + 1, by omega, by rw [show k + (i + 1) = k + 1 + i by omega]; exact h2⟩
theorem all2047 : wlk 2047 2048 0 0 = 2 ^ 2048 - 1 := by decide +kernel
theorem rnd2047 : lcgN 2047 2048 = 0 := by decide +kernel
theorem again2047 : ∀ k, lcgN 2047 (2048 + k) = lcgN 2047 k
  | 0 => rnd2047
  | k + 1 => congrArg (fun z => (z * 5 + 1) % 2048) (again2047 k)
theorem from2047 {j : Nat} (h : j ≤ 2047) : ∃ b, b ≤ 2047 ∧ lcgN 2047 b = j := by
  have t : (wlk 2047 2048 (lcgN 2047 0) 0).testBit j = true := by
    rw [show lcgN 2047 0 = 0 from rfl, all2047, Nat.testBit_two_pow_sub_one]
    exact decide_eq_true (by omega)
  rcases wlk_bit 2048 0 0 j t with h | ⟨i, h1, h2⟩
  · simp at h
  · exact ⟨i, by omega, by rwa [Nat.zero_add] at h2⟩
theorem MkG.all {m : Nat} (h : MkG m) {i j : Nat} (hi : i ≤ m) (hj : j ≤ m) : ∃ k, k ≤ m ∧ lcgI m i k = j := by
  rcases h.cases with o | rfl | rfl
  · exact lcgI_all o hi hj
  rotate_left
  · obtain ⟨x, hx, rfl⟩ := from2047 hi
    obtain ⟨y, hy, rfl⟩ := from2047 hj
    by_cases c : x ≤ y
    · exact ⟨y - x, by omega, by rw [lcgN_add]; congr 1; omega⟩
    · exact ⟨2048 + y - x, by omega, by rw [lcgN_add, show x + (2048 + y - x) = 2048 + y by omega, again2047]⟩
  obtain ⟨x, hx, rfl⟩ := from511 hi
  obtain ⟨y, hy, rfl⟩ := from511 hj
  by_cases c : x ≤ y
  · exact ⟨y - x, by omega, by rw [lcgN_add]; congr 1; omega⟩
  · exact ⟨512 + y - x, by omega, by rw [lcgN_add, show x + (512 + y - x) = 512 + y by omega, again511]⟩
theorem MkG.run {m : Nat} (hm : MkG m) (h : Int) {j : Nat} (hj : j ≤ m) : ∃ n, n ≤ m + 12 ∧ runI m (SetTable.bits h) n = j := by
  obtain ⟨k, a, b⟩ := hm.all (runI_le m (SetTable.bits h) 12) hj
  exact ⟨12 + k, by omega, (runI_tail (bits_lt h) k).trans b⟩
theorem MkG.met {m : Nat} (hm : MkG m) (h : Int) {j : Nat} (hj : j ≤ m) : ∃ k, k < 10 * SetTable.turns m ∧ way m h k = j := by
  obtain ⟨n, a, b⟩ := hm.run h hj
  obtain ⟨k, c, d⟩ := run_nth m (SetTable.bits h) n
  exact ⟨k, by unfold SetTable.turns; omega, (congrArg SetTable.Probe.j d).trans b⟩
theorem way_in (m : Nat) (h : Int) (k : Nat) : way m h k ≤ m := by
  have lo : SetTable.bits h % (m + 1) ≤ m := by
    exact Nat.le_of_lt_succ (Nat.mod_lt (SetTable.bits h) (Nat.succ_pos m))
  obtain ⟨r1, r2, _⟩ := runEnd_bd lo
  have st : (runAt m (SetTable.bits h % (m + 1)) (SetTable.bits h)).j + (runAt m (SetTable.bits h % (m + 1)) (SetTable.bits h)).more ≤ m := by
    unfold runAt
    dsimp only
    omega
  exact Nat.le_trans (Nat.le_add_right _ _) (nth_in k _ st)
structure TabG (t : SetTable) (hs : List Int) : Prop where
  ris : Ris t.place.toList
  dm : t.dummies = #[]
  sz : t.place.size = hs.length
  mok : MkG t.mask
  bd : ∀ x ∈ t.place.toList, x ≤ t.mask
  reach : ∀ (i : Nat) h j, hs[i]? = some h → t.place.toList[i]? = some j → ∃ k, (∀ c, c < k → way t.mask h c ∈ t.place.toList) ∧ way t.mask h k = j
section
variable {t : SetTable} {hs : List Int}
theorem TabG.first (T : TabG t hs) (few : hs.length ≤ t.mask) (h : Int) :
    ∃ K, K < 10 * SetTable.turns t.mask ∧ way t.mask h K ∉ t.place.toList ∧ ∀ k, k < K → way t.mask h k ∈ t.place.toList := by
  have sh : t.place.toList.length < t.mask + 1 := by
    have := T.sz
    rw [Array.length_toList]
    omega
  obtain ⟨j, j1, j2⟩ := st_missing _ _ sh
  obtain ⟨k, k1, k2⟩ := T.mok.met h (j := j) (by omega)
  have k3 : ¬ way t.mask h k ∈ t.place.toList := by rw [k2]; exact j2
  obtain ⟨K, a, b, c⟩ := st_least (p := fun k => ¬ way t.mask h k ∈ t.place.toList) k k3
  exact ⟨K, by omega, b, fun q hq => Classical.byContradiction fun z => c q hq z⟩
theorem TabG.before (T : TabG t hs) {h : Int} {K i j : Nat} (free : way t.mask h K ∉ t.place.toList) (hi : hs[i]? = some h) (hj : t.place.toList[i]? = some j) : ∃ k, k < K ∧ way t.mask h k = j := by
  obtain ⟨k, a, b⟩ := T.reach i h j hi hj
  refine ⟨k, Classical.byContradiction fun z => ?_, b⟩
  by_cases e : K = k
  · subst e
    rw [b] at free
    exact free (List.mem_of_getElem? hj)
  · exact free (a K (by omega))
theorem TabG.put (T : TabG t hs) {h : Int} {K : Nat} (free : way t.mask h K ∉ t.place.toList) (taken : ∀ k, k < K → way t.mask h k ∈ t.place.toList) :
    (t.put (way t.mask h K)).2 = SetTable.below t.place (way t.mask h K) ∧
    SetTable.below t.place (way t.mask h K) ≤ hs.length ∧
    TabG (t.put (way t.mask h K)).1 (hs.take (SetTable.below t.place (way t.mask h K)) ++ h :: hs.drop (SetTable.below t.place (way t.mask h K))) ∧
    (t.put (way t.mask h K)).1.mask = t.mask ∧
    (t.put (way t.mask h K)).1.led = t.led ∧ (t.put (way t.mask h K)).1.plain = t.plain ∧
    (t.put (way t.mask h K)).1.moves = t.moves ∧ (t.put (way t.mask h K)).1.finger = t.finger ∧
    (t.put (way t.mask h K)).1.fill = hs.length + 1 := by
  have hin := way_in t.mask h K
  generalize hw : way t.mask h K = j at free hin ⊢
  have cut := (below_cut T.ris j).1
  have L1 : t.place.toList.length = hs.length := by rw [Array.length_toList, T.sz]
  have b1 : SetTable.below t.place j ≤ hs.length := by rw [← T.sz]; exact cut
  have b2 : SetTable.below t.place j ≤ t.place.toList.length := by rw [L1]; exact b1
  have P := put_place t j
  have no : t.place[SetTable.below t.place j]? ≠ some j := fun e => by
    rw [← Array.getElem?_toList] at e
    exact free (List.mem_of_getElem? e)
  have sz : (t.put j).1.place.size = hs.length + 1 := by rw [← Array.length_toList, P, len_ins _ b2, L1]
  have stay : ∀ x, x ∈ t.place.toList → x ∈ (t.put j).1.place.toList := fun x hx => by rw [P]; exact mem_ins.2 (.inr hx)
  have old : ∀ {i : Nat} {h' j'}, hs[i]? = some h' → t.place.toList[i]? = some j' → ∃ k, (∀ c, c < k → way t.mask h' c ∈ (t.put j).1.place.toList) ∧ way t.mask h' k = j' := fun p q => by
    obtain ⟨k, a, b⟩ := T.reach _ _ _ p q
    exact ⟨k, fun c hc => stay _ (a c hc), b⟩
  refine ⟨rfl, b1, ⟨ris_insert T.ris no, put_dm T.dm j, ?_, T.mok, ?_, ?_⟩, rfl, rfl, rfl, rfl, rfl, ?_⟩
  · rw [sz, len_ins _ b1]
  · intro x hx
    rw [P] at hx
    rcases mem_ins.1 hx with e | e
    · rw [e]; exact hin
    · exact T.bd x e
  · intro i h' j' p q
    rw [P, tins_get _ b2] at q
    rw [tins_get hs b1] at p
    by_cases c1 : i < SetTable.below t.place j
    · simp only [c1, if_true] at p q
      exact old p q
    · by_cases c2 : i = SetTable.below t.place j
      · simp only [c1, c2, Nat.lt_irrefl, if_false, if_true, Option.some.injEq] at p q
        subst p
        subst q
        exact ⟨K, fun c hc => stay _ (taken c hc), hw⟩
      · simp only [c1, c2, if_false] at p q
        exact old p q
  · unfold SetTable.fill
    rw [sz, put_dm T.dm j]
    rfl
end
theorem MkG.free {m : Nat} (hm : MkG m) (ow : Array (Option Nat)) (h : Int) {j : Nat} (hj : j ≤ m) (hf : oAt ow j = none) :
    ∃ K, SetTable.layClean.free m ow (SetTable.turns m) (SetTable.bits h % (m + 1)) (SetTable.bits h) = some (way m h K) ∧ oAt ow (way m h K) = none ∧ ∀ k, k < K → oAt ow (way m h k) ≠ none := by
  obtain ⟨n, n1, n2⟩ := hm.run h hj
  have at_n : way m h (off m (SetTable.bits h % (m + 1)) (SetTable.bits h) n) = j := by
    have z := nth_off m n (SetTable.bits h % (m + 1)) (SetTable.bits h)
    rw [itL_run] at z
    exact (congrArg SetTable.Probe.j z).trans n2
  have fr : oAt ow (way m h (off m (SetTable.bits h % (m + 1)) (SetTable.bits h) n)) = none := by rw [at_n]; exact hf
  obtain ⟨K, a, b, c⟩ := st_least (p := fun k => oAt ow (way m h k) = none) _ fr
  refine ⟨K, free_spec m ow _ n _ _ K (by unfold SetTable.turns; omega) a (fun k hk => ?_) (by show (oAt ow (way m h K)).isNone = true; rw [b]; rfl), b, c⟩
  show (oAt ow (way m h k)).isNone = false
  cases z : oAt ow (way m h k)
  · exact absurd z (c k hk)
  · rfl
end G
end
section
namespace G
open PySem L2 PyProof.Rows
def KeyAt (h : Heap) (k : NK) (a : Addr) : Prop := NestedIs h k (.ref a) ∧ k.depth ≤ 8
section
variable {P : Program} {w : World} {E : Value → Shared → Prop}
theorem KeyAt.inj {h : Heap} {k l : NK} {a : Addr} (x : KeyAt h k a) (y : KeyAt h l a) : k = l := NestedIs.inj _ _ _ x.1 y.1
theorem KeyAt.move {h h' : Heap} {k : NK} {a : Addr} (f : ∀ b o vs n, h.get? b = some o → o.data = .seq vs n → h'.get? b = some o) (x : KeyAt h k a) : KeyAt h' k a := ⟨NestedIs.at f k _ x.1, x.2⟩
theorem KeyAt.keep {h h' : Heap} {k : NK} {a : Addr} (x : KeyAt h k a) (f : ∀ b o, h.get? b = some o → h'.get? b = some o) : KeyAt h' k a := x.move fun b o _ _ e _ => f b o e
end
end G
end
section
namespace G
open PySem L2 PyProof.Rows
section
variable {P : Program} {w : World} {A : Around} {E : Value → Shared → Prop} {s : Shared}
abbrev Ks := List (Addr × NK)
def ents (w : World) (L : Ks) : List (Int × Value) := L.map fun p => (p.2.hash w, Value.ref p.1)
abbrev hsh (w : World) (L : Ks) : List Int := L.map fun p => p.2.hash w
structure SetK (w : World) (h : Heap) (a : Addr) (L : Ks) (es : Array (Int × Value)) (ep : Nat) (t : SetTable) : Prop where
  at_ : ∃ o, h.get? a = some o ∧ o.ExactSet ∧ o.data = .set es ep t
  ent : es.toList = ents w L
  tab : TabG t (hsh w L)
  once : (L.map (·.2)).Nodup
  keys : ∀ p ∈ L, KeyAt h p.2 p.1
  led : w.params.followText "set-order" = true ∨ t.led = true
  room : L.length * 5 < t.mask * 3
variable {a : Addr} {L : Ks} {es : Array (Int × Value)} {ep : Nat} {t : SetTable}
end
end G
end
section
namespace G
open PySem L2 PyProof.Rows
section
variable {P : Program} {w : World} {A : Around} {E : Value → Shared → Prop} {s : Shared}
variable {a : Addr} {L : Ks} {es : Array (Int × Value)} {ep : Nat} {t : SetTable}
end
end G
end
section
namespace G
open PySem L2 PyProof.Rows
structure SetIs (ks L : Ks) : Prop where
  sub : ∀ p ∈ L, p ∈ ks
  all : ∀ p ∈ ks, p.2 ∈ L.map (·.2)
theorem SetIs.nil : SetIs [] [] := ⟨fun _ h => h, fun _ h => absurd h List.not_mem_nil⟩
theorem nodup_len {α : Type} [DecidableEq α] : ∀ (l m : List α), l.Nodup → (∀ x ∈ l, x ∈ m) → l.length ≤ m.length
  | [], m, _, _ => Nat.zero_le _
  | x :: l, m, h, f => by
    have h1 := List.nodup_cons.mp h
    have hx : x ∈ m := f x List.mem_cons_self
    have := nodup_len l (m.erase x) h1.2 fun y hy => by
      have ne : y ≠ x := fun e => h1.1 (by rw [← e]; exact hy)
      exact (List.mem_erase_of_ne ne).mpr (f y (List.mem_cons_of_mem _ hy))
    rw [List.length_erase_of_mem hx] at this
    have := List.length_pos_of_mem hx
    simp only [List.length_cons]
    omega
theorem SetIs.few {ks L : Ks} (g : SetIs ks L) (once : (L.map (·.2)).Nodup) : L.length ≤ ks.length := by
  have := nodup_len (L.map (·.2)) (ks.map (·.2)) once fun x hx => by
    obtain ⟨p, hp, rfl⟩ := List.mem_map.mp hx
    exact List.mem_map.mpr ⟨p, g.sub p hp, rfl⟩
  simpa using this
section
variable {P : Program} {w : World} {A : Around} {E : Value → Shared → Prop} {s : Shared}
theorem SetK.keep {h h' : Heap} {a : Addr} {L : Ks} {es : Array (Int × Value)} {ep : Nat} {t : SetTable} (R : SetK w h a L es ep t) (ha : ∀ o, h.get? a = some o → h'.get? a = some o) (hk : ∀ p ∈ L, KeyAt h' p.2 p.1) : SetK w h' a L es ep t := by
  obtain ⟨o, ho, r⟩ := R.at_
  exact ⟨⟨o, ha o ho, r⟩, R.ent, R.tab, R.once, hk, R.led, R.room⟩
end
end G
end
section
namespace G
open PySem L2 PyProof.Rows
section
variable {P : Program} {w : World} {A : Around} {E : Value → Shared → Prop} {s : Shared}
end
end G
end
section
namespace G
open PySem L2 PyProof.Rows PySem.W
mutual
theorem toks_eq : ∀ (p q : PyData), PyData.eqv p q = true → keyToks p = keyToks q
  | .none, q, h => by cases q <;> simp [PyData.eqv] at h <;> rfl
  | .bool a, q, h => by
    cases q <;> simp [PyData.eqv] at h
    · subst h; rfl
    · simp only [keyToks, ← h]
  | .int i, q, h => by
    cases q <;> simp [PyData.eqv] at h
    · simp only [keyToks, h]
    · subst h; rfl
  | .str x, q, h => by
    cases q <;> simp [PyData.eqv] at h
    subst h; rfl
  | .list xs, q, h => by
    cases q <;> simp only [PyData.eqv, Bool.false_eq_true] at h
    simp only [keyToks]
    exact toks_eqs _ _ h
  | .tuple xs, q, h => by
    cases q <;> simp only [PyData.eqv, Bool.false_eq_true] at h
    simp only [keyToks]
    exact toks_eqs _ _ h
  | .dict _, q, h => by cases q <;> simp [PyData.eqv] at h
theorem toks_eqs : ∀ (xs ys : List PyData), PyData.eqvAll xs ys = true → keyToksAll xs = keyToksAll ys
  | [], [], _ => rfl
  | [], _ :: _, h => by simp [PyData.eqvAll] at h
  | _ :: _, [], h => by simp [PyData.eqvAll] at h
  | x :: xs, y :: ys, h => by
    simp only [PyData.eqvAll, Bool.and_eq_true] at h
    simp only [keyToksAll, toks_eq x y h.1, toks_eqs xs ys h.2]
end
abbrev lx := PyProof.Rows.lexLt itemOrd
mutual
theorem pLt_lex : ∀ (p q : PyData) (b : Bool), pLt p q = some b → PyData.eqv p q = false → ∀ l m, lx (keyToks p ++ l) (keyToks q ++ m) = b
  | .int i, q, b, h, e, l, m => by
    cases q with
    | int j =>
      simp only [pLt, Option.some.injEq] at h
      subst h
      have ne : (Sum.inl i : Int ⊕ List Nat) ≠ Sum.inl j := fun z => by
        injection z with z
        simp [PyData.eqv, z] at e
      exact lex_diff (O := itemOrd) ne
    | _ => simp [pLt] at h
  | .str x, q, b, h, e, l, m => by
    cases q with
    | str y =>
      simp only [pLt, Option.some.injEq] at h
      subst h
      have ne : (Sum.inr x.cps.toList : Int ⊕ List Nat) ≠ Sum.inr y.cps.toList := fun z => by
        injection z with z
        simp [PyData.eqv, PySem.W.str_of_cps z] at e
      exact lex_diff (O := itemOrd) ne
    | _ => simp [pLt] at h
  | .tuple xs, q, b, h, e, l, m => by
    cases q with
    | tuple ys =>
      simp only [pLt] at h
      simp only [PyData.eqv] at e
      simp only [keyToks]
      exact pLts_lex xs ys b h e l m
    | _ => simp [pLt] at h
  | .none, q, b, h, e, l, m => by cases q <;> simp [pLt] at h
  | .bool _, q, b, h, e, l, m => by cases q <;> simp [pLt] at h
  | .list _, q, b, h, e, l, m => by cases q <;> simp [pLt] at h
  | .dict _, q, b, h, e, l, m => by cases q <;> simp [pLt] at h
theorem pLts_lex : ∀ (xs ys : List PyData) (b : Bool), pLts xs ys = some b → PyData.eqvAll xs ys = false → ∀ l m, lx (keyToksAll xs ++ l) (keyToksAll ys ++ m) = b
  | [], [], b, h, e, l, m => by simp [PyData.eqvAll] at e
  | [], y :: ys, b, h, e, l, m => by
    simp only [pLts, Option.some.injEq] at h
    subst h
    exact lex_diff (O := itemOrd) (x := .inl 0) (y := .inl 1) (by simp)
  | x :: xs, [], b, h, e, l, m => by
    simp only [pLts, Option.some.injEq] at h
    subst h
    exact lex_diff (O := itemOrd) (x := .inl 1) (y := .inl 0) (by simp)
  | x :: xs, y :: ys, b, h, e, l, m => by
    simp only [pLts] at h
    simp only [keyToksAll, List.cons_append, List.append_assoc]
    refine (lex_self (O := itemOrd) (Sum.inl 1) _ _).trans ?_
    cases hx : PyData.eqv x y with
    | true =>
      rw [if_pos hx] at h
      simp only [PyData.eqvAll, hx, Bool.true_and] at e
      rw [toks_eq x y hx]
      refine (lex_pre _ _ _).trans ?_
      exact pLts_lex xs ys b h e l m
    | false =>
      rw [hx] at h
      simp only [Bool.false_eq_true, if_false] at h
      exact pLt_lex x y b h hx _ _
end
section
variable {P : Program} {w : World} {A : Around} {s : Shared}
end
end G
end
section
namespace G
open PySem L2 PyProof.Rows PySem.W
mutual
theorem eqv_key : ∀ (k j : NK), PyData.eqv k.data j.data = NestedKey.beq k j
  | .none, .none => by simp [NestedKey.data, PyData.eqv, NestedKey.beq]
  | .none, .num _ => by simp [NestedKey.data, PyData.eqv, NestedKey.beq]
  | .none, .text _ => by simp [NestedKey.data, PyData.eqv, NestedKey.beq]
  | .none, .tup _ => by simp [NestedKey.data, PyData.eqv, NestedKey.beq]
  | .num a, .none => by simp [NestedKey.data, PyData.eqv, NestedKey.beq]
  | .num a, .num b => by simp [NestedKey.data, PyData.eqv, NestedKey.beq]; rfl
  | .num a, .text _ => by simp [NestedKey.data, PyData.eqv, NestedKey.beq]
  | .num a, .tup _ => by simp [NestedKey.data, PyData.eqv, NestedKey.beq]
  | .text a, .none => by simp [NestedKey.data, PyData.eqv, NestedKey.beq]
  | .text a, .num _ => by simp [NestedKey.data, PyData.eqv, NestedKey.beq]
  | .text a, .text b => by simp [NestedKey.data, PyData.eqv, NestedKey.beq]; rfl
  | .text a, .tup _ => by simp [NestedKey.data, PyData.eqv, NestedKey.beq]
  | .tup a, .none => by simp [NestedKey.data, PyData.eqv, NestedKey.beq]
  | .tup a, .num _ => by simp [NestedKey.data, PyData.eqv, NestedKey.beq]
  | .tup a, .text _ => by simp [NestedKey.data, PyData.eqv, NestedKey.beq]
  | .tup a, .tup b => by
    simp only [NestedKey.data, PyData.eqv, NestedKey.beq]
    exact eqv_keys a b
theorem eqv_keys : ∀ (a b : List NK), PyData.eqvAll (NestedKey.datas a) (NestedKey.datas b) = NestedKey.beqAll a b
  | [], [] => by simp [NestedKey.datas, PyData.eqvAll, NestedKey.beqAll]
  | [], _ :: _ => by simp [NestedKey.datas, PyData.eqvAll, NestedKey.beqAll]
  | _ :: _, [] => by simp [NestedKey.datas, PyData.eqvAll, NestedKey.beqAll]
  | x :: a, y :: b => by simp only [NestedKey.datas, PyData.eqvAll, NestedKey.beqAll, eqv_key x y, eqv_keys a b]
end
mutual
theorem eqv_flip : ∀ (p q : PyData), PyData.eqv p q = PyData.eqv q p
  | p, q => by
    cases p with
    | none => cases q <;> simp [PyData.eqv]
    | bool a => cases q <;> simp [PyData.eqv] <;> exact Bool.eq_iff_iff.mpr ⟨fun h => by simpa using (by simpa using h : _ = _).symm, fun h => by simpa using (by simpa using h : _ = _).symm⟩
    | int i => cases q <;> simp [PyData.eqv] <;> exact Bool.eq_iff_iff.mpr ⟨fun h => by simpa using (by simpa using h : _ = _).symm, fun h => by simpa using (by simpa using h : _ = _).symm⟩
    | str x => cases q <;> simp [PyData.eqv] <;> exact Bool.eq_iff_iff.mpr ⟨fun h => by simpa using (by simpa using h : _ = _).symm, fun h => by simpa using (by simpa using h : _ = _).symm⟩
    | list xs => cases q <;> simp only [PyData.eqv]; exact eqvs_flip _ _
    | tuple xs => cases q <;> simp only [PyData.eqv]; exact eqvs_flip _ _
    | dict _ => cases q <;> simp [PyData.eqv]
theorem eqvs_flip : ∀ (xs ys : List PyData), PyData.eqvAll xs ys = PyData.eqvAll ys xs
  | [], [] => rfl
  | [], _ :: _ => by simp [PyData.eqvAll]
  | _ :: _, [] => by simp [PyData.eqvAll]
  | x :: xs, y :: ys => by simp only [PyData.eqvAll, eqv_flip x y, eqvs_flip xs ys]
end
theorem cps_flip (x y : List Nat) (h : x ≠ y) : decide (y < x) = !decide (x < y) := by
  by_cases h1 : x < y
  · have : ¬ y < x := List.lt_asymm h1
    simp [h1, this]
  · have h2 : y ≤ x := List.not_lt.mp h1
    by_cases h3 : y < x
    · simp [h1, h3]
    · exact absurd (List.le_antisymm (List.not_lt.mp h3) h2) h
mutual
theorem pLt_flip : ∀ (p q : PyData) (b : Bool), pLt p q = some b → PyData.eqv p q = false → pLt q p = some (!b)
  | .int i, q, b, h, e => by
    cases q with
    | int j =>
      simp only [pLt, Option.some.injEq] at h ⊢
      subst h
      have : i ≠ j := fun z => by simp [PyData.eqv, z] at e
      by_cases h1 : i < j
      · simp [h1]; omega
      · simp [h1]; omega
    | _ => simp [pLt] at h
  | .str x, q, b, h, e => by
    cases q with
    | str y =>
      simp only [pLt, Option.some.injEq] at h ⊢
      subst h
      exact cps_flip _ _ fun z => by simp [PyData.eqv, PySem.W.str_of_cps z] at e
    | _ => simp [pLt] at h
  | .tuple xs, q, b, h, e => by
    cases q with
    | tuple ys =>
      simp only [pLt, PyData.eqv] at h e ⊢
      exact pLts_flip xs ys b h e
    | _ => simp [pLt] at h
  | .none, q, b, h, e => by cases q <;> simp [pLt] at h
  | .bool _, q, b, h, e => by cases q <;> simp [pLt] at h
  | .list _, q, b, h, e => by cases q <;> simp [pLt] at h
  | .dict _, q, b, h, e => by cases q <;> simp [pLt] at h
theorem pLts_flip : ∀ (xs ys : List PyData) (b : Bool), pLts xs ys = some b → PyData.eqvAll xs ys = false → pLts ys xs = some (!b)
  | [], [], b, h, e => by simp [PyData.eqvAll] at e
  | [], y :: ys, b, h, e => by
    simp only [pLts, Option.some.injEq] at h ⊢
    rw [← h]
    rfl
  | x :: xs, [], b, h, e => by
    simp only [pLts, Option.some.injEq] at h ⊢
    rw [← h]
    rfl
  | x :: xs, y :: ys, b, h, e => by
    simp only [pLts] at h ⊢
    rw [eqv_flip y x]
    cases hx : PyData.eqv x y with
    | true =>
      rw [if_pos hx] at h
      simp only [PyData.eqvAll, hx, Bool.true_and] at e
      rw [if_pos rfl]
      exact pLts_flip xs ys b h e
    | false =>
      rw [hx] at h
      simp only [Bool.false_eq_true, if_false] at h ⊢
      exact pLt_flip x y b h hx
end
mutual
theorem reads_keep {h h' : Heap} (f : ∀ b o, h.get? b = some o → o.cls = .type "tuple" → h'.get? b = some o) : ∀ (k : NK) (v : Value) (as : List Addr), Reads h v k.data as → Reads h' v k.data as
  | .none, _, _, r => by simp only [NestedKey.data] at r ⊢; cases r; exact .none
  | .num i, _, _, r => by simp only [NestedKey.data] at r ⊢; cases r; exact .int _ _
  | .text x, _, _, r => by simp only [NestedKey.data] at r ⊢; cases r; exact .str _ _
  | .tup ks, _, _, r => by
    simp only [NestedKey.data] at r ⊢
    cases r with
    | tuple h1 h2 h3 h4 => exact .tuple (f _ _ h1 h2) h2 h3 (reads_keeps f ks _ _ h4)
theorem reads_keeps {h h' : Heap} (f : ∀ b o, h.get? b = some o → o.cls = .type "tuple" → h'.get? b = some o) : ∀ (ks : List NK) (vs : List Value) (as : List Addr), ReadsAll h vs (NestedKey.datas ks) as → ReadsAll h' vs (NestedKey.datas ks) as
  | [], _, _, r => by simp only [NestedKey.datas] at r ⊢; cases r; exact .nil
  | k :: ks, _, _, r => by
    simp only [NestedKey.datas] at r ⊢
    cases r with
    | cons r1 r2 => exact .cons (reads_keep f k _ _ r1) (reads_keeps f ks _ _ r2)
end
mutual
theorem nested_reads {h : Heap} : ∀ (k : NK) (v : Value) (as : List Addr), Reads h v k.data as → NestedIs h k v
  | .none, _, _, r => by simp only [NestedKey.data] at r; cases r; exact .none
  | .num i, _, _, r => by simp only [NestedKey.data] at r; cases r; exact .int _ _
  | .text x, _, _, r => by simp only [NestedKey.data] at r; cases r; exact .text _ _
  | .tup ks, _, _, r => by
    simp only [NestedKey.data] at r
    cases r with
    | tuple h1 h2 h3 h4 => exact .tup h1 h2 h3 (nested_readss ks _ _ h4)
theorem nested_readss {h : Heap} : ∀ (ks : List NK) (vs : List Value) (as : List Addr), ReadsAll h vs (NestedKey.datas ks) as → NestedAll h ks vs
  | [], _, _, r => by simp only [NestedKey.datas] at r; cases r; exact .nil
  | k :: ks, _, _, r => by
    simp only [NestedKey.datas] at r
    cases r with
    | cons r1 r2 => exact .cons (nested_reads k _ _ r1) (nested_readss ks _ _ r2)
end
end G
end
section
namespace G
open PySem L2 PyProof.Rows PySem.W
def Formed (L : Ks) : Prop := (∀ p ∈ L, ∃ x r, p.2 = .tup (.tup x :: r)) ∨ ∀ p ∈ L, ∃ i r, p.2 = .tup (.num i :: r)
structure Sortd (h : Heap) (L : Ks) : Prop where
  form : Formed L
  rd : ∀ p ∈ L, ∃ as, Reads h (.ref p.1) p.2.data as
  ok : ∀ p ∈ L, p.2.data.canLay0 = true
  dp : ∀ p ∈ L, p.2.data.depth ≤ 8
  cmp : ∀ p ∈ L, ∀ q ∈ L, ∃ b, pLt p.2.data q.2.data = some b
theorem Sortd.keep {h h' : Heap} {L : Ks} (x : Sortd h L) (f : ∀ b o, h.get? b = some o → o.cls = .type "tuple" → h'.get? b = some o) : Sortd h' L :=
  ⟨x.form, fun p hp => (x.rd p hp).imp fun as r => reads_keep f p.2 _ as r, x.ok, x.dp, x.cmp⟩
section
variable {P : Program} {w : World} {A : Around} {E : Value → Shared → Prop} {s : Shared}
end
end G
end
section
namespace G
open PySem L2 PyProof.Rows PySem.W
def SetK0 (w : World) (h : Heap) (a : Addr) (L : Ks) : Prop := ∃ es ep t, (∃ o, h.get? a = some o ∧ o.ExactSet ∧ o.data = .set es ep t) ∧ es.toList = ents w L ∧ TabG t (hsh w L) ∧ (L.map (·.2)).Nodup ∧ (w.params.followText "set-order" = true ∨ t.led = true) ∧ L.length * 5 < t.mask * 3
def SetKO (w : World) (a : Addr) (L : Ks) : HO := .ext fun h => SetK0 w h a L
theorem SetK.k0 {w : World} {h : Heap} {a : Addr} {L : Ks} {es : Array (Int × Value)} {ep : Nat} {t : SetTable} (R : SetK w h a L es ep t) : SetK0 w h a L := ⟨es, ep, t, R.at_, R.ent, R.tab, R.once, R.led, R.room⟩
section
variable {X : Cx}
end
mutual
def dOf : NK → D
  | .none => .non
  | .num i => .int i
  | .text x => .str x
  | .tup ks => .tup (dOfs ks)
def dOfs : List NK → List D
  | [] => []
  | k :: r => dOf k :: dOfs r
end
mutual
theorem nkD_dOf : ∀ (d : D) (k : NK), nkD d = some k → d = dOf k ∧ pd d = some k.data
  | .int i, k, h => by
    simp only [nkD] at h
    cases h
    exact ⟨by simp only [dOf], by simp only [pd, NestedKey.data]⟩
  | .str i, k, h => by
    simp only [nkD] at h
    cases h
    exact ⟨by simp only [dOf], by simp only [pd, NestedKey.data]⟩
  | .tup ds, k, h => by
    simp only [nkD] at h
    obtain ⟨ks, h1, rfl⟩ := Option.map_eq_some_iff.mp h
    obtain ⟨e1, e2⟩ := nkDs_dOfs ds ks h1
    exact ⟨by simp only [dOf, e1], by simp only [pd, NestedKey.data, e2, Option.map_some]⟩
  | .non, k, h => by simp [nkD] at h
  | .bl _, k, h => by simp [nkD] at h
  | .lst _, k, h => by simp [nkD] at h
  | .dic _ _, k, h => by simp [nkD] at h
  | .ins _ _ _, k, h => by simp [nkD] at h
  | .ref _, k, h => by simp [nkD] at h
  | .fn _, k, h => by simp [nkD] at h
  | .scr _, k, h => by simp [nkD] at h
  | .ktp _, k, h => by simp [nkD] at h
  | .ty _, k, h => by simp [nkD] at h
  | .cl _, k, h => by simp [nkD] at h
  | .lam _ _ _ _ _, k, h => by simp [nkD] at h
theorem nkDs_dOfs : ∀ (ds : List D) (ks : List NK), nkDs ds = some ks → ds = dOfs ks ∧ pds ds = some (NestedKey.datas ks)
  | [], ks, h => by
    simp only [nkDs] at h
    cases h
    exact ⟨by simp only [dOfs], by simp only [pds, NestedKey.datas]⟩
  | d :: r, ks, h => by
    simp only [nkDs] at h
    cases h1 : nkD d with
    | none => rw [h1] at h; cases h
    | some k =>
      cases h2 : nkDs r with
      | none => rw [h1, h2] at h; cases h
      | some ks' =>
        rw [h1, h2] at h
        cases h
        obtain ⟨e1, e2⟩ := nkD_dOf d k h1
        obtain ⟨e3, e4⟩ := nkDs_dOfs r ks' h2
        exact ⟨by simp only [dOfs, ← e1, ← e3], by simp only [pds, e2, e4, NestedKey.datas]⟩
end
def ltK (k j : NK) : Bool := dataLt k.data j.data
def insK (k : NK) : List NK → List NK
  | [] => [k]
  | x :: l => if k = x then x :: l else if ltK k x = true then k :: x :: l else x :: insK k l
def sortK : List NK → List NK
  | [] => []
  | k :: r => insK k (sortK r)
def CmpK (ks : List NK) : Prop := ∀ a ∈ ks, ∀ b ∈ ks, ∃ c, pLt a.data b.data = some c
def FormK (ks : List NK) : Prop := (∀ k ∈ ks, ∃ x r, k = .tup (.tup x :: r)) ∨ ∀ k ∈ ks, ∃ i r, k = .tup (.num i :: r)
structure SortOk (ks : List NK) : Prop where
  few : ks.length < 1227
  form : FormK ks
  ok : ∀ k ∈ ks, k.data.canLay0 = true
  dp : ∀ k ∈ ks, k.data.depth ≤ 8 ∧ k.depth ≤ 8
  cmp : CmpK ks
def seqA (S : Sto) (x : D) : Option (List D) := match seqL S x with
  | some ds => some ds
  | none => seqT x
open Classical in
noncomputable def dSortSet (S : Sto) : List D → Option D
  | [x] => match seqA S x with
    | some ds => match nkDs ds with
      | some ks => if SortOk ks then some (.lst (dOfs (sortK ks))) else none
      | none => none
    | none => none
  | _ => none
end G
end
section
namespace G
open PySem L2 PyProof.Rows PySem.W
section
variable {P : Program} {w : World} {A : Around} {E : Value → Shared → Prop} {s : Shared}
end
end G
end
section
namespace G
open PySem L2
structure CutOf (m : Mp) (n : Nat) (m' : Mp) : Prop where
  mu : m'.mu = m.mu
  n' : m'.n = n
  le : n ≤ m.n
  keep : ∀ a, m.out a → m'.Z a = m.Z a
section
variable {B : Bas} {m m' : Mp} {n : Nat}
theorem CutOf.out (C : CutOf m n m') {a : Addr} (h : m.out a) : m'.out a := fun i hi => by
  rw [C.mu]
  exact h i (Nat.lt_of_lt_of_le (C.n' ▸ hi) C.le)
mutual
theorem Rep.cutG (C : CutOf m n m') : ∀ {d : D} {v : V}, Rep B m d v → d.bel n → Rep B m' d v
  | .non, _, h, _ => by simpa only [Rep] using h
  | .bl _, _, h, _ => by simpa only [Rep] using h
  | .int _, _, h, _ => by simpa only [Rep] using h
  | .str _, _, h, _ => by simpa only [Rep] using h
  | .fn _, _, h, _ => by simpa only [Rep] using h
  | .ty _, _, h, _ => by simpa only [Rep] using h
  | .cl _, _, h, _ => by simpa only [Rep] using h
  | .lam f c q ds us, v, h, b => by
    simp only [Rep] at h ⊢
    simp only [D.bel] at b
    obtain ⟨e, t, o, r⟩ := h
    exact ⟨e, (C.keep c o).trans t, C.out o, Reps.cutG C r b⟩
  | .ref i, v, h, b => by
    simp only [Rep] at h ⊢
    simp only [D.bel] at b
    exact ⟨by rw [C.n']; exact b, by rw [C.mu]; exact h.2⟩
  | .tup ds, v, h, b => by
    simp only [Rep] at h ⊢
    simp only [D.bel] at b
    obtain ⟨a, vs, e, t, r⟩ := h
    exact ⟨a, vs, e, ⟨(C.keep a t.2).trans t.1, C.out t.2⟩, Reps.cutG C r b⟩
  | .lst ds, v, h, b => by
    simp only [Rep] at h ⊢
    simp only [D.bel] at b
    obtain ⟨a, vs, e, t, r⟩ := h
    exact ⟨a, vs, e, ⟨(C.keep a t.2).trans t.1, C.out t.2⟩, Reps.cutG C r b⟩
  | .scr ds, v, h, b => by
    simp only [Rep] at h ⊢
    simp only [D.bel] at b
    obtain ⟨a, vs, e, t, r⟩ := h
    refine ⟨a, vs, e, ?_, Reps.cutG C r b⟩
    rcases t with ⟨t, o⟩ | t
    · refine .inl ⟨?_, C.out o⟩
      rcases t with t | ⟨x, t⟩
      · exact .inl ((C.keep a o).trans t)
      · exact .inr ⟨x, (C.keep a o).trans t⟩
    · exact .inr t
  | .ktp ds, v, h, b => by
    simp only [Rep] at h ⊢
    simp only [D.bel] at b
    obtain ⟨a, vs, e, t, r⟩ := h
    exact ⟨a, vs, e, t, Reps.cutG C r b⟩
  | .dic ks ds, v, h, b => by
    simp only [Rep] at h ⊢
    simp only [D.bel] at b
    obtain ⟨a, vs, e, o, t, r⟩ := h
    exact ⟨a, vs, e, C.out o, by rw [C.keep a o]; exact t, Reps.cutG C r b⟩
  | .ins c ns ds, v, h, b => by
    simp only [Rep] at h ⊢
    simp only [D.bel] at b
    obtain ⟨a, dx, vs, e, o, t, k, r⟩ := h
    exact ⟨a, dx, vs, e, C.out o, (C.keep a o).trans t, k, Reps.cutG C r b⟩
theorem Reps.cutG (C : CutOf m n m') : ∀ {ds : List D} {vs : List V}, Reps B m ds vs → D.bels n ds → Reps B m' ds vs
  | [], _, h, _ => by simpa only [Reps] using h
  | d :: ds, _, h, b => by
    simp only [Reps] at h ⊢
    simp only [D.bels] at b
    obtain ⟨v, r, e, p, q⟩ := h
    exact ⟨v, r, e, Rep.cutG C p b.1, Reps.cutG C q b.2⟩
end
end
open Classical in
noncomputable def Mp.frz (m : Mp) (n i : Nat) : Mp := { mu := m.mu, n := n, Z := fun a => if ∃ j, n ≤ j ∧ j < m.n ∧ j ≠ i ∧ m.mu j = a then none else m.Z a }
open Classical in
theorem Mp.frz_cut {m : Mp} {n i : Nat} (h : n ≤ m.n) : CutOf m n (m.frz n i) := ⟨rfl, rfl, h, fun a ho => by
  show (if ∃ j, n ≤ j ∧ j < m.n ∧ j ≠ i ∧ m.mu j = a then none else m.Z a) = _
  rw [if_neg]
  rintro ⟨j, _, h2, _, h3⟩
  exact ho j h2 h3⟩
open Classical in
theorem frz_all {B : Bas} {m m1 : Mp} {H H1 : Hp} {S S1 : Sto} {i0 : Nat} (c : Cor B m S) (l : Le m H m1 H1) (c1 : Cor B m1 S1) (cl : Cl S S1) : Le m H (m1.frz S.length i0) H1 ∧ Cor B (m1.frz S.length i0) (S1.take S.length) := by
  have hn : S.length ≤ m1.n := by rw [c1.n]; exact cl.1
  have C := Mp.frz_cut (m := m1) (i := i0) hn
  refine ⟨⟨⟨by rw [c.n]; exact Nat.le_refl _, fun i hi => l.mu i hi, fun a o h1 h2 => ?_⟩, fun a o h1 h2 => ?_, fun a o h => ?_⟩, ⟨?_, fun i o e => ?_, fun i j hi hj e => ?_⟩⟩
  · obtain ⟨k1, k2⟩ := l.keep a o h1 h2
    exact ⟨(C.keep a k2).trans k1, C.out k2⟩
  · obtain ⟨k1, k2 | ⟨k2, k3, k4⟩⟩ := l.fr0 a o h1 h2
    · refine ⟨k1, .inl ?_⟩
      show (if _ then none else m1.Z a) = none
      split
      · rfl
      · exact k2
    · exact ⟨k1, .inr ⟨(C.keep a k3).trans k2, C.out k3, k4⟩⟩
  · have h' : (if ∃ j, S.length ≤ j ∧ j < m1.n ∧ j ≠ i0 ∧ m1.mu j = a then none else m1.Z a) = some o := h
    split at h'
    · cases h'
    · exact l.sub a o h'
  · show S.length = _
    rw [List.length_take, Nat.min_eq_left cl.1]
  · have hi : i < S.length := by
      have := (List.getElem?_eq_some_iff.mp e).1
      rw [List.length_take] at this
      omega
    rw [List.getElem?_take_of_lt hi] at e
    have ob := c1.ob i o e
    have hz : (m1.frz S.length i0).Z (m1.mu i) = m1.Z (m1.mu i) := by
      show (if ∃ j, S.length ≤ j ∧ j < m1.n ∧ j ≠ i0 ∧ m1.mu j = m1.mu i then none else m1.Z (m1.mu i)) = m1.Z (m1.mu i)
      rw [if_neg]
      rintro ⟨j, h1, h2, _, h3⟩
      have := c1.inj j i h2 (Nat.lt_of_lt_of_le hi hn) h3
      omega
    have hb : o.bel S.length := by
      rcases cl.2 i hi with q | ⟨o', q, b⟩
      · rw [q] at e
        have := (c.ob i o e).bel
        rw [c.n] at this
        exact this
      · rw [q] at e
        cases e
        exact b
    cases o with
    | tbl i q =>
      obtain ⟨ea, ps, e, t, f⟩ := ob
      refine ⟨ea, ps, hz.trans e, t, fun pos cv hc => ?_⟩
      obtain ⟨c, e1, e2, e3⟩ := f pos cv hc
      exact ⟨c, e1, (C.keep c e3).trans e2, C.out e3⟩
    | ndc ks ds => obtain ⟨qs, vs, e, k, r1, r2⟩ := ob; exact ⟨qs, vs, by rw [show (m1.frz S.length i0).mu i = m1.mu i from rfl, hz]; exact e, k, Reps.cutG C r1 (nks_bel _ k), Reps.cutG C r2 hb⟩
    | lst ds => obtain ⟨vs, e, r⟩ := ob; exact ⟨vs, hz.trans e, Reps.cutG C r hb⟩
    | dic ks ds => obtain ⟨vs, e, r⟩ := ob; exact ⟨vs, by rw [show (m1.frz S.length i0).mu i = m1.mu i from rfl, hz]; exact e, Reps.cutG C r hb⟩
    | fdc o u ks ds => obtain ⟨e, vs, q, r⟩ := ob; exact ⟨hz.trans e, vs, q, Reps.cutG C r hb⟩
    | ins c ns ds => obtain ⟨dx, vs, e, k, r⟩ := ob; exact ⟨dx, vs, hz.trans e, k, Reps.cutG C r hb⟩
    | exc c ns ds =>
      obtain ⟨vs, k, r, h⟩ := ob
      refine ⟨vs, k, Reps.cutG C r hb, ?_⟩
      rcases h with ⟨e0, e⟩ | ⟨dx, e1, e2, q⟩
      · exact .inl ⟨e0, hz.trans e⟩
      · exact .inr ⟨dx, hz.trans e1, (C.keep dx q).trans e2, C.out q⟩
  · exact c1.inj i j (Nat.lt_of_lt_of_le hi hn) (Nat.lt_of_lt_of_le hj hn) e
def Ob.d : Ob → D
  | .lst ds => .lst ds
  | .dic ks ds => .dic ks ds
  | .ins c ns ds => .ins c ns ds
  | _ => .non
def Ob.pl : Ob → Bool
  | .tbl _ _ => false
  | .ndc _ _ => false
  | .fdc _ _ _ _ => false
  | .exc _ _ _ => false
  | _ => true
open Classical in
noncomputable def Res.frz (S : Sto) : Res D → Res D
  | .ok (.ref i) S' => if i < S.length then (Res.ok (.ref i) S').drop S else match S'[i]? with
    | some o => if (Cl S S' ∧ o.bel S.length) ∧ o.pl = true then .ok o.d (S'.take S.length) else .bad
    | none => .bad
  | r => r.drop S
noncomputable def frzF (F : Fn) : Fn := ⟨F.n, fun ds S => (F.run ds S).frz S⟩
open Classical in
theorem frz_rep {B : Bas} {m : Mp} {S : Sto} {n i : Nat} {o : Ob} (c : Cor B m S) (hn : n ≤ i) (hi : i < m.n) (e : S[i]? = some o) (b : o.bel n) (pl : o.pl = true) : Rep B (m.frz n i) o.d (.ref (m.mu i)) := by
  have le : n ≤ m.n := Nat.le_trans hn (Nat.le_of_lt hi)
  have C := Mp.frz_cut (m := m) (i := i) le
  have out : (m.frz n i).out (m.mu i) := fun j hj e' => by
    have := c.inj j i (Nat.lt_of_lt_of_le hj le) hi e'
    have hj' : j < n := hj
    omega
  have hz : (m.frz n i).Z (m.mu i) = m.Z (m.mu i) := by
    show (if ∃ j, n ≤ j ∧ j < m.n ∧ j ≠ i ∧ m.mu j = m.mu i then none else m.Z (m.mu i)) = m.Z (m.mu i)
    rw [if_neg]
    rintro ⟨j, _, h2, h3, h4⟩
    exact h3 (c.inj j i h2 hi h4)
  have ob := c.ob i o e
  cases o with
  | tbl i q => cases pl
  | ndc ks ds => cases pl
  | fdc o u ks ds => cases pl
  | exc c ns ds => cases pl
  | lst ds =>
    obtain ⟨vs, e, r⟩ := ob
    simp only [Ob.d, Rep]
    exact ⟨_, vs, rfl, ⟨hz.trans e, out⟩, Reps.cutG C r b⟩
  | dic ks ds =>
    obtain ⟨vs, e, r⟩ := ob
    simp only [Ob.d, Rep]
    exact ⟨_, vs, rfl, out, by rw [hz]; exact e, Reps.cutG C r b⟩
  | ins c ns ds =>
    obtain ⟨dx, vs, e, k, r⟩ := ob
    simp only [Ob.d, Rep]
    exact ⟨_, dx, vs, rfl, out, hz.trans e, k, Reps.cutG C r b⟩
theorem Post.frz {B : Bas} {E : XK} {m : Mp} {H : Hp} {Q : VK} {r : Res D} {S : Sto} (c : Cor B m S) (h : Post B (Rep B) E m H Q (r.frz S)) : Post B (Rep B) E m H Q r := by
  unfold Res.frz at h
  split at h
  · rename_i i S'
    split at h
    · exact Post.drop c h
    · rename_i hi
      cases e : S'[i]? with
      | none => rw [e] at h; exact h.elim
      | some o =>
        simp only [e] at h
        split at h
        · rename_i hc
          intro m1 H1 v l c1 rv
          simp only [Rep] at rv
          obtain ⟨h1, rfl⟩ := rv
          obtain ⟨l2, c2⟩ := frz_all (i0 := i) c l c1 hc.1.1
          exact h _ _ _ l2 c2 (frz_rep c1 (by omega) h1 e hc.1.2 hc.2)
        · exact h.elim
  · exact Post.drop c h
end G
end
section
namespace G
open PySem L2
section
variable {X : Cx} {CX : CXT} {k : Nat} {f C : Addr} {fd : FuncData} {ps : List Str} {sp : Sp} {E : St → XK} {x m : Str} {p pos apos : Pos} {e o : Expr} {es : List Expr} {ta : TE} {t : TA}
end
def lookF (f : Str) : List Str → List D → Option D
  | n :: ns, d :: ds => if n = f then some d else lookF f ns ds
  | _, _ => none
theorem lookF_of {B : Bas} {m : Mp} {f : Str} : ∀ {ns : List Str} {ds : List D} {vs : List V} {d : D}, Reps B m ds vs → lookF f ns ds = some d → ∃ v, (ns.zip vs).lookup f = some v ∧ Rep B m d v
  | [], ds, vs, d, r, h => by cases ds <;> simp [lookF] at h
  | n :: ns, [], vs, d, r, h => by simp [lookF] at h
  | n :: ns, x :: ds, vs, d, r, h => by
    simp only [Reps] at r
    obtain ⟨v, vs', rfl, rv, rs⟩ := r
    simp only [lookF] at h
    by_cases e : n = f
    · rw [if_pos e] at h
      cases h
      exact ⟨v, by simp [List.lookup_cons, e], rv⟩
    · rw [if_neg e] at h
      obtain ⟨u, h1, h2⟩ := lookF_of rs h
      refine ⟨u, ?_, h2⟩
      rw [List.zip_cons_cons, List.lookup_cons]
      have : (f == n) = false := by simpa using fun z => e z.symm
      rw [this]
      exact h1
def mFld (cs : List Nat) (f : Str) (e : ME) : ME := fun en S => (e en S).bind fun d S1 => match insOf S1 d with
  | some (c, ns, ds) => if c ∈ cs then (match lookF f ns ds with
    | some x => .ok x S1
    | none => .bad) else .bad
  | none => .bad
def mProp (c : Nat) (F : Fn) (e : ME) : ME := fun en S => (e en S).bind fun d S1 => match insOf S1 d with
  | some (c', _, _) => if c' = c ∧ F.n = 1 then (F.run [d] S1).noex else .bad
  | none => .bad
def mMeth (c : Nat) (x : Str) (F : Fn) (e : ME) (r : MA) : ME := fun en S => (e en S).bind fun d S1 => match insOf S1 d with
  | some (c', ns, _) => if c' = c ∧ x ∉ ns then (r en S1).bind fun ds S2 => if ds.length + 1 = F.n then F.run (d :: ds) S2 else .bad else .bad
  | none => .bad
section
variable {X : Cx} {B : Bas} {W : WX} {o e : Expr} {es : List Expr} {x : Str} {p pos apos : Pos} {me : ME} {mr : MA} {c k j : Nat} {F : Fn}
end
end G
end
section
namespace G
open PySem L2
noncomputable def mkR (c : Nat) (F : Fn) (ds : List D) (S : Sto) : Res D := if ds.length + 1 = F.n then (F.run (.ref S.length :: ds) (S ++ [.ins c [] []])).bind fun v S2 => match v with
  | .non => .ok (.ref S.length) S2
  | _ => .bad else .bad
noncomputable def mMake (c : Nat) (F : Fn) (r : MA) : ME := fun en S => (r en S).bind fun ds S1 => (mkR c F ds S1).frz S1
noncomputable def mMakeR (c : Nat) (F : Fn) (r : MA) : ME := fun en S => (r en S).bind fun ds S1 => mkR c F ds S1
theorem Le.frame {m : Mp} {H : Hp} {a : Addr} {o : HO} (s : Sub m H) (h : H a = none) : Le m H m (upd H a o) := ⟨Kp.refl m, fun b u z hu => ⟨by
  rw [upd_ne (fun e => by rw [e, h] at hu; cases hu)]
  exact hu, .inl z⟩, fun b u hb => by
  have := s b u hb
  rw [upd_ne (fun e => by rw [e, h] at this; cases this)]
  exact this⟩
section
variable {X : Cx} {B : Bas} {W : WX} {e : Expr} {es : List Expr} {x : Str} {p pos : Pos} {mr : MA} {c k j : Nat} {F : Fn}
end
def putN (f : Str) : List Str → List Str
  | [] => [f]
  | n :: ns => if n = f then n :: ns else n :: putN f ns
def putD (f : Str) (d : D) : List Str → List D → List D
  | n :: ns, x :: ds => if n = f then d :: ds else x :: putD f d ns ds
  | _, _ => [d]
def sFldS (cs : List Nat) (f : Str) (o e : ME) : MS := fun en S => (e en S).bind fun d S1 => (o en S1).bind fun x S2 => match x with
  | .ref i => match S2[i]? with
    | some (.ins c ns ds) => if c ∈ cs ∧ ns.length < 1000 then .ok (.nx en) (S2.set i (.ins c (putN f ns) (putD f d ns ds))) else .bad
    | _ => .bad
  | _ => .bad
end G
end
section
namespace G
open PySem L2
def lookT : List (List Key) → List D → List Key → Option D
  | q :: qs, d :: ds, k => if q = k then some d else lookT qs ds k
  | _, _, _ => none
theorem lookT_of {B : Bas} {m : Mp} {k : List Key} : ∀ {qs : List (List Key)} {ds : List D} {vs : List V}, Reps B m ds vs → (lookT qs ds k = none → valV (qs.zip vs) k = none) ∧ ∀ d, lookT qs ds k = some d → ∃ v, valV (qs.zip vs) k = some v ∧ Rep B m d v
  | [], ds, vs, r => ⟨fun _ => rfl, fun d h => by cases ds <;> simp [lookT] at h⟩
  | q :: qs, [], vs, r => by
    simp only [Reps] at r
    subst r
    exact ⟨fun _ => rfl, fun d h => by simp [lookT] at h⟩
  | q :: qs, x :: ds, vs, r => by
    simp only [Reps] at r
    obtain ⟨u, us, rfl, ru, rs⟩ := r
    obtain ⟨h1, h2⟩ := lookT_of (qs := qs) (k := k) rs
    rw [List.zip_cons_cons]
    by_cases e : q = k
    · refine ⟨fun h => ?_, fun d h => ?_⟩
      · simp [lookT, e] at h
      · simp only [lookT, if_pos e] at h
        cases h
        exact ⟨u, valV_pos e, ru⟩
    · have hv : valV ((q, u) :: qs.zip us) k = valV (qs.zip us) k := by simp [valV, List.find?_cons, e]
      rw [hv]
      simp only [lookT, if_neg e]
      exact ⟨h1, h2⟩
def dGetO (S : Sto) (x y : D) : Option (Option D) := match dicOf S x, tkeyD y with
  | some (ks, ds), some k => match tkeysD ks with
    | some qs => some (lookT qs ds k)
    | none => none
  | _, _ => none
theorem keysD_vals {B : Bas} {m : Mp} : ∀ {ds : List D} {vs : List V} {k : List Key}, Reps B m ds vs → keysD ds = some k → vs = k.map kV
  | [], vs, k, r, h => by
    simp only [Reps] at r
    cases h
    exact r
  | d :: ds, vs, k, r, h => by
    simp only [Reps] at r
    obtain ⟨v, us, rfl, rv, rs⟩ := r
    simp only [keysD] at h
    cases h1 : keyD d with
    | none => rw [h1] at h; cases h
    | some a =>
      cases h2 : keysD ds with
      | none => rw [h1, h2] at h; cases h
      | some b =>
        rw [h1, h2] at h
        cases h
        rw [keysD_vals rs h2, List.map_cons]
        congr 1
        cases d <;> simp [keyD] at h1
        · subst h1; exact rv.int_eq
        · subst h1; exact rv.str_eq
theorem tkey_at {B : Bas} {m : Mp} {H : Hp} {y : D} {k : List Key} {v : V} (s : Sub m H) (r : Rep B m y v) (h : tkeyD y = some k) : ∃ b, v = .ref b ∧ H b = some (.tup (k.map kV)) := by
  cases y <;> simp only [tkeyD] at h <;> try (cases h)
  simp only [Rep] at r
  obtain ⟨a, vs, rfl, t, rs⟩ := r
  exact ⟨a, rfl, by rw [← keysD_vals rs h]; exact s _ _ t.1⟩
theorem dic_dT {o : Option HO} {ks : List D} {vs : List V} {qs : List (List Key)} (h : DicAt o ks vs) (e : tkeysD ks = some qs) : o = some (.dT (qs.zip vs)) := by
  rcases h with ⟨_, ⟨q, ne, hq, _⟩ | ⟨q, hq, z⟩⟩
  · cases ks with
    | nil => exact absurd rfl ne
    | cons k r =>
      simp only [keysD] at hq
      simp only [tkeysD] at e
      cases k <;> simp [keyD, tkeyD] at hq e
  · rw [e] at hq
    cases hq
    exact z
theorem dGet_of {B : Bas} {m : Mp} {H : Hp} {S : Sto} {x y : D} {v u : V} {o : Option D} (s : Sub m H) (c : Cor B m S) (rx : Rep B m x v) (ry : Rep B m y u) (h : dGetO S x y = some o) :
    ∃ a r, v = .ref a ∧ IsD H a ∧ DGet H a u r ∧ (o = none → r = none) ∧ ∀ d, o = some d → ∃ z, r = some z ∧ Rep B m d z := by
  unfold dGetO at h
  split at h
  · rename_i ks ds k hd hk
    split at h
    · rename_i qs hq
      cases h
      obtain ⟨a, vs, rfl, z, rs⟩ := repD s c rx hd
      obtain ⟨b, rfl, hb⟩ := tkey_at s ry hk
      have hz := dic_dT z hq
      obtain ⟨h1, h2⟩ := lookT_of (qs := qs) (k := k) rs
      exact ⟨a, _, rfl, .inr ⟨_, .inl hz⟩, DGet.t hz hb, h1, h2⟩
    · cases h
  · cases h
def mDGet2 (a b z : ME) : ME := fun en S => (a en S).bind fun x S1 => match dicOf S1 x with
  | some (ks, _) => match tkeysD ks with
    | some _ => (b en S1).bind fun y S2 => (z en S2).bind fun w S3 => match dGetO S3 x y with
      | some (some d) => .ok d S3
      | some none => .ok w S3
      | none => .bad
    | none => .bad
  | none => .bad
def mDNew : ME := fun _ S => .ok (.ref S.length) (S ++ [.dic [] []])
def mDEmp : ME := fun _ S => .ok (.dic [] []) S
theorem de_demp {X : Cx} {B : Bas} {W : WX} {pos : Pos} : PE X (.Dict [] [] pos) (tE B W mDEmp) := PE.cut pe_dnewT fun σ H Q ⟨m, S, en, s, c, er, p⟩ => fun q hq => by
  have ob : ObR B (m.add q (.dT [])) q (.dic [] []) := ⟨[], ⟨rfl, .inr ⟨[], rfl, upd_same⟩⟩, Reps.nil⟩
  have h : Post B (Rep B) (at' W σ) m H Q (.ok (.ref S.length) (S ++ [.dic [] []])) := by
    refine Post.frz c ?_
    simp only [Res.frz, Nat.lt_irrefl, if_false, List.getElem?_append_right (Nat.le_refl _), Nat.sub_self, List.getElem?_cons_zero]
    rw [if_pos ⟨⟨Cl.app _ _, by simp [Ob.bel, D.bels]⟩, rfl⟩, List.take_left']
    · exact p
    · rfl
  exact h _ _ _ (Le.add c s hq) (Cor.add c s hq ob) (rp_ref c)
end G
end
section
namespace G
open PySem L2
def replT (k : List Key) (d : D) : List (List Key) → List D → List D
  | q :: qs, x :: ds => (if q = k then d else x) :: replT k d qs ds
  | _, _ => []
def hasK (k : List Key) (qs : List (List Key)) : Bool := qs.any fun q => decide (q = k)
def putT (ks : List D) (qs : List (List Key)) (ds : List D) (y : D) (k : List Key) (d : D) : Ob := if hasK k qs = true then .dic ks (replT k d qs ds) else .dic (ks ++ [y]) (ds ++ [d])
def sDPutS (o k e : ME) : MS := fun en S => (e en S).bind fun d S1 => (o en S1).bind fun x S2 => (k en S2).bind fun y S3 => match x, tkeyD y with
  | .ref i, some k => match S3[i]? with
    | some (.dic ks ds) => match tkeysD ks with
      | some qs => if ks.length < sizeLine then .ok (.nx en) (S3.set i (putT ks qs ds y k d)) else .bad
      | none => .bad
    | _ => .bad
  | _, _ => .bad
end G
end
section
namespace G
open PySem L2 PyProof.Rows
section
variable {P : Program} {w : World} {K : Type} [DecidableEq K] {knd : HeapKind P w K} {A : Around} {E : Value → Shared → Prop} {s : Shared}
end
end G
end
section
namespace G
open PySem L2 PyProof.Rows
section
variable {X : Cx}
end
end G
end
section
namespace G
open PySem L2 PyProof.Rows
def isID : D → Bool
  | .int _ => true
  | _ => false
def dvEq : D → D → Bool
  | .int i, .int j => i == j
  | _, _ => false
def eqTD (rs : List (List Key)) (es : List D) : List (List Key) → List D → Bool
  | q :: qs, d :: ds => (match lookT rs es q with
    | some e => dvEq d e
    | none => false) && eqTD rs es qs ds
  | _, _ => true
def dEqTB (S : Sto) (x y : D) : Option Bool := match dicOf S x, dicOf S y with
  | some (ks, ds), some (ls, es) => match tkeysD ks, tkeysD ls with
    | some qs, some rs => if ds.all isID = true ∧ es.all isID = true then some (ks.length == ls.length && eqTD rs es qs ds) else none
    | _, _ => none
  | _, _ => none
def dNeT (S : Sto) (x y : D) : Option D := (dEqTB S x y).map fun b => .bl (!b)
end G
end
section
namespace G
open PySem L2 PyProof.Rows
section
variable {P : Program} {w : World} {K : Type} [DecidableEq K] {knd : HeapKind P w K} {A : Around} {E : Value → Shared → Prop} {s : Shared}
end
end G
end
section
namespace G
open PySem L2
def lookK : List Key → List D → Key → Option D
  | q :: qs, d :: ds, k => if q = k then some d else lookK qs ds k
  | _, _, _ => none
theorem lookK_of {B : Bas} {m : Mp} {k : Key} : ∀ {qs : List Key} {ds : List D} {vs : List V}, Reps B m ds vs → (lookK qs ds k = none → valV (qs.zip vs) k = none) ∧ ∀ d, lookK qs ds k = some d → ∃ v, valV (qs.zip vs) k = some v ∧ Rep B m d v
  | [], ds, vs, r => ⟨fun _ => rfl, fun d h => by cases ds <;> simp [lookK] at h⟩
  | q :: qs, [], vs, r => by
    simp only [Reps] at r
    subst r
    exact ⟨fun _ => rfl, fun d h => by simp [lookK] at h⟩
  | q :: qs, x :: ds, vs, r => by
    simp only [Reps] at r
    obtain ⟨u, us, rfl, ru, rs⟩ := r
    obtain ⟨h1, h2⟩ := lookK_of (qs := qs) (k := k) rs
    rw [List.zip_cons_cons]
    by_cases e : q = k
    · refine ⟨fun h => ?_, fun d h => ?_⟩
      · simp [lookK, e] at h
      · simp only [lookK, if_pos e] at h
        cases h
        exact ⟨u, valV_pos e, ru⟩
    · have hv : valV ((q, u) :: qs.zip us) k = valV (qs.zip us) k := by simp [valV, List.find?_cons, e]
      rw [hv]
      simp only [lookK, if_neg e]
      exact ⟨h1, h2⟩
theorem key_at {B : Bas} {m : Mp} {y : D} {k : Key} {v : V} (r : Rep B m y v) (h : keyD y = some k) : v = kV k := by
  cases y <;> simp only [keyD] at h <;> try (cases h)
  · exact r.int_eq
  · exact r.str_eq
theorem dic_dK {o : Option HO} {ks : List D} {vs : List V} {qs : List Key} (h : DicAt o ks vs) (ne : ks ≠ []) (e : keysD ks = some qs) : o = some (.dK (qs.zip vs)) := by
  rcases h with ⟨_, ⟨q, _, hq, z⟩ | ⟨q, hq, z⟩⟩
  · rw [e] at hq
    cases hq
    exact z
  · cases ks with
    | nil => exact absurd rfl ne
    | cons k r =>
      simp only [keysD] at e
      simp only [tkeysD] at hq
      cases k <;> simp [keyD, tkeyD] at hq e
def kGetO (S : Sto) (x y : D) : Option (Option D) := match dicOf S x, keyD y with
  | some (ks, ds), some k => match keysD ks with
    | some qs => if ks.isEmpty then none else some (lookK qs ds k)
    | none => none
  | _, _ => none
theorem kGet_of {B : Bas} {m : Mp} {H : Hp} {S : Sto} {x y : D} {v u : V} {o : Option D} (s : Sub m H) (c : Cor B m S) (rx : Rep B m x v) (ry : Rep B m y u) (h : kGetO S x y = some o) :
    ∃ a r, v = .ref a ∧ IsD H a ∧ DGet H a u r ∧ (o = none → r = none) ∧ ∀ d, o = some d → ∃ z, r = some z ∧ Rep B m d z := by
  unfold kGetO at h
  split at h
  · rename_i ks ds k hd hk
    split at h
    · rename_i qs hq
      split at h
      · cases h
      · rename_i ne
        cases h
        obtain ⟨a, vs, rfl, z, rs⟩ := repD s c rx hd
        obtain rfl := key_at ry hk
        have hz := dic_dK z (by simpa using ne) hq
        obtain ⟨h1, h2⟩ := lookK_of (qs := qs) (k := k) rs
        exact ⟨a, _, rfl, .inl ⟨_, .inl hz⟩, DGet.k hz, h1, h2⟩
    · cases h
  · cases h
def replK (k : Key) (d : D) : List Key → List D → List D
  | q :: qs, x :: ds => (if q = k then d else x) :: replK k d qs ds
  | _, ds => ds
def hasKK (k : Key) (qs : List Key) : Bool := qs.any fun q => decide (q = k)
def putKD (ks : List D) (qs : List Key) (ds : List D) (y : D) (k : Key) (d : D) : Ob := if hasKK k qs = true then .dic ks (replK k d qs ds) else .dic (ks ++ [y]) (ds ++ [d])
def sKPutS (o k e : ME) : MS := fun en S => (e en S).bind fun d S1 => (o en S1).bind fun x S2 => (k en S2).bind fun y S3 => match x, keyD y with
  | .ref i, some k => match S3[i]? with
    | some (.dic ks ds) => match keysD ks with
      | some qs => if ks.isEmpty = false ∧ ks.length < sizeLine then .ok (.nx en) (S3.set i (putKD ks qs ds y k d)) else .bad
      | none => .bad
    | _ => .bad
  | _, _ => .bad
theorem upd_del' {H : Hp} {p : Addr} {o : HO} : upd (del H p) p o = upd H p o := by
  funext a
  by_cases e : a = p
  · subst e; rw [upd_same, upd_same]
  · rw [upd_ne e, upd_ne e, del_ne e]
inductive DPs (X : Cx) (B : Bas) (W : WX) : List (Option Expr) → List Expr → List Str → MA → Prop where
  | nil : DPs X B W [] [] [] aNil
  | cons {k j p v ks vs ss mv r} : PE X v (tE B W mv) → DPs X B W ks vs ss r → DPs X B W (some (.Constant (.str k) j p) :: ks) (v :: vs) (k :: ss) (aCons mv r)
theorem DPs.pps {X : Cx} {B : Bas} {W : WX} {pos : Pos} {ks : List (Option Expr)} {vs : List Expr} {ss : List Str} {r : MA} (h : DPs X B W ks vs ss r) :
    ∃ trs, PPs X pos ks vs trs ∧ ∀ (m : Mp) (S : Sto) (en : En) (σ : L2.St) (H : Hp) (Q : List (V × V) → Hp → Prop), Sub m H → Cor B m S → EnR B m en σ → Post B (Reps B) (at' W σ) m H (fun us H2 => ss.length = us.length → Q ((ss.zip us).map (fun x => (.str x.1, x.2))) H2) (r en S) →
      tPairs trs σ H Q := by
  induction h with
  | nil => exact ⟨[], pps_nil, fun m S en σ H Q s c er p => p m H [] (Le.refl s) c Reps.nil rfl⟩
  | @cons k j p v ks vs ss mv r hv _ ih =>
    obtain ⟨trs, hp, ih⟩ := ih
    refine ⟨_, pps_cons pe_str hv hp, fun m S en σ H Q s c er q => ?_⟩
    show tE B W mv σ H _
    refine ⟨m, S, en, s, c, er, (Post.bind q).imp ?_⟩
    rintro y H1 ⟨d, S1, m1, _, l1, c1, r1, p1⟩
    refine ih m1 S1 en σ H1 _ l1.sub c1 (er.mono l1) ((Post.bind p1).imp ?_)
    rintro us H2 ⟨ds, S2, m2, _, l2, c2, r2, p2⟩ hl
    exact p2 m2 H2 _ (Le.refl l2.sub) c2 (Reps.cons (r1.mono l2) r2) (by simp [hl])
theorem mergeK_new : ∀ (more acc : List (Key × V)), ((acc ++ more).map (·.1)).Nodup → mergeK acc more = acc ++ more
  | [], acc, _ => by simp [mergeK]
  | kv :: more, acc, h => by
    have hn : kv.1 ∉ acc.map (·.1) := by
      intro hm
      rw [List.map_append, List.nodup_append] at h
      exact h.2.2 _ hm _ (by simp) rfl
    have e : putK acc kv.1 kv.2 = acc ++ [kv] := by
      unfold putK
      rw [if_neg]
      simp only [List.any_eq_true, decide_eq_true_eq, not_exists, not_and]
      intro x hx he
      exact hn (by rw [← he]; exact List.mem_map_of_mem hx)
    show mergeK (putK acc kv.1 kv.2) more = _
    rw [e, mergeK_new more (acc ++ [kv]) (by simpa using h)]
    simp
theorem keysD_strs : ∀ ss : List Str, keysD (ss.map .str) = some (ss.map .inr)
  | [] => rfl
  | s :: ss => by simp only [List.map_cons, keysD, keyD, keysD_strs ss]
theorem Post.frameBind {α β γ δ : Type} {B : Bas} {R : Mp → α → β → Prop} {R2 : Mp → γ → δ → Prop} {W : XK} {m : Mp} {H Hf : Hp} {Q2 : δ → Hp → Prop} {r : Res α} {k : α → Sto → Res γ} (h : Post B R2 W m H Q2 (r.bind k)) (lf : Le m H m Hf) :
    Post B R W m Hf (fun v H1 => ∃ a S m1, r = .ok a S ∧ Le m Hf m1 H1 ∧ Cor B m1 S ∧ R m1 a v ∧ Post B R2 W m H Q2 (k a S)) r := by
  cases r with
  | ok a S => exact fun m' H' v l c x => ⟨a, S, m', rfl, l, c, x, h⟩
  | ex c ns vs S => exact fun m' H' dd l cc x => h m' H' dd (lf.trans l) cc x
  | bad => exact h
def mDisp (ss : List Str) (r : MA) : ME := fun en S => (r en S).bind fun ds S1 => .ok (.ref S1.length) (S1 ++ [.dic (ss.map .str) ds])
def mDispD (ss : List Str) (r : MA) : ME := fun en S => (r en S).bind fun ds S1 => .ok (.dic (ss.map .str) ds) S1
theorem tDisp_of {B : Bas} {W : WX} {ss : List Str} {r : MA} {trs : List (TE × TE)} {σ : L2.St} {H : Hp} {Q : VK} {K2 : List D → Sto → Res D}
    (ht : ∀ (m : Mp) (S : Sto) (en : En) (σ : L2.St) (H : Hp) (Q : List (V × V) → Hp → Prop), Sub m H → Cor B m S → EnR B m en σ → Post B (Reps B) (at' W σ) m H (fun us H2 => ss.length = us.length → Q ((ss.zip us).map (fun x => (.str x.1, x.2))) H2) (r en S) → tPairs trs σ H Q)
    (nd : ss.Nodup) (h15 : ss.length ≤ 15)
    (hK : ∀ (m : Mp) (S : Sto) (H1 : Hp) (ds : List D) (us : List V) (p : Addr), Sub m H1 → Cor B m S → H1 p = none → Reps B m ds us → ss.length = us.length → Post B (Rep B) (at' W σ) m H1 Q (K2 ds S) → Q (.ref p) (upd H1 p (.dK ((ss.map Sum.inr).zip us))))
    (t : tE B W (fun en S => (r en S).bind K2) σ H Q) : tDisp trs σ H Q := by
  obtain ⟨m, S, en, s, c, er, q⟩ := t
  intro p hp
  have lf : Le m H m (upd H p (.dK [])) := Le.frame s hp
  refine ht m S en σ _ _ lf.sub c er ((Post.frameBind q lf).imp ?_)
  rintro us H2 ⟨ds, S2, m2, _, l2, c2, r2, p2⟩ hl
  have hz : m.Z p = none := s.none hp
  obtain ⟨f1, f2⟩ := l2.fr p (.dK []) hz upd_same
  have l3 : Le m H m2 (G.del H2 p) := by
    have := Le.del (p := p) l2 hz ⟨_, upd_same, by rintro ⟨_, e⟩; cases e⟩
    rwa [del_upd, del_new hp] at this
  have e1 : ((ss.zip us).map fun x => ((Sum.inr x.1 : Key), x.2)) = (ss.map Sum.inr).zip us := by
    rw [List.zip_map_left]
    rfl
  refine ⟨f1, (ss.map Sum.inr).zip us, by rw [← e1]; simp [kV, Function.comp_def], by simp [hl]; omega, ?_⟩
  rw [mergeK_new, List.nil_append, ← upd_del']
  · exact hK m2 S2 _ ds us p l3.sub c2 del_at r2 hl (p2.shift l3)
  · have : ((ss.map (Sum.inr : Str → Key)).zip us).map (·.1) = ss.map Sum.inr := List.map_fst_zip (by simp [hl])
    rw [List.nil_append, this]
    exact List.Pairwise.map _ (fun a b h e => h (Sum.inr.inj e)) nd
theorem de_dispD {X : Cx} {B : Bas} {W : WX} {pos : Pos} {keys : List (Option Expr)} {vs : List Expr} {ss : List Str} {r : MA} (h : DPs X B W keys vs ss r) (nd : ss.Nodup) (h15 : ss.length ≤ 15) (h0 : ss ≠ [])
    (ha : keys.all (·.isSome) = true) (hl : keys.length = vs.length) (hk0 : keys ≠ []) (hk15 : keys.length ≤ 15) : PE X (.Dict keys vs pos) (tE B W (mDispD ss r)) := by
  obtain ⟨trs, hp, ht⟩ := h.pps (pos := pos)
  refine PE.cut (pe_disp hp ha hl hk0 hk15) fun σ H Q t => tDisp_of ht nd h15 (fun m S H1 ds us p s c hp r hl q => ?_) t
  refine q _ _ _ (Le.new c s hp) (Cor.new c s hp) ?_
  simp only [Rep]
  exact ⟨p, us, rfl, c.out_of (s.none hp), ⟨by simpa using hl, .inl ⟨_, by simpa using h0, keysD_strs ss, upd_same⟩⟩, r.mono (Le.new c s hp)⟩
end G
end
section
namespace G
open PySem PySem.Spec PyProof.Rows L2 RZ
abbrev enO (it : Addr) : Obj := { cls := .type "enumerate", data := .fields #[.none, .bool false, .ref it, rawInt 0, .none, .none] }
theorem meets_enumT {v : Value} {o : Obj} {Ok : Heap → Prop} (B : Begins v o Ok) :
    Meets (Builtin.«enumerate.__new__» ⟨[.type "enumerate", v], []⟩) (fun _ R s => Ok s.heap ∧ R (.ok (.ret (.ref (s.heap.push o).objs.size))) { s with heap := (s.heap.push o).push (enO s.heap.objs.size) }) :=
  .of_wp fun prog w A R ⟨hp, g, d, tk, os⟩ ⟨ok, h⟩ => by
    have kind := sub_enumerate
    have begin_ : ∀ {A' : Around} {E : Value → Shared → Prop} {Q : Value → Shared → Prop} (_ : Q (.ref hp.objs.size) ⟨hp.push o, g, d, tk, os⟩), wpAny (model prog w) A' (pyIter v) Q E ⟨hp, g, d, tk, os⟩ := fun q => B.iter _ _ _ _ _ _ ok q
    wp_walk using begin_
    refine wpAny_stack_any fun st => wpAny_pure ?_
    split
    · rename_i c _ _ _ _ _
      cases (c == Value.type "enumerate") <;> (wp_walk using begin_; exact ⟨_, rfl, h⟩)
    · wp_walk using begin_
      exact ⟨_, rfl, h⟩
theorem call_enumT {prog : Program} {w : World} {A : Around} {E : Value → Shared → Prop} {s : Shared} {v : Value} {o : Obj} {Ok : Heap → Prop} {Q : Value → Shared → Prop} (B : Begins v o Ok) (ok : Ok s.heap)
    (q : ∀ h', IsEnum h' (s.heap.objs.size + 1) s.heap.objs.size 0 .none ∧ h'.get? s.heap.objs.size = some o → (∀ c x, s.heap.get? c = some x → h'.get? c = some x) → Q (.ref (s.heap.objs.size + 1)) { s with heap := h' }) :
    wpAny (model prog w) A (call (.type "enumerate") [v]) Q E s := by
  have size : (s.heap.push o).objs.size = s.heap.objs.size + 1 := Heap.size_push ..
  have made : IsEnum ((s.heap.push o).push (enO s.heap.objs.size)) (s.heap.objs.size + 1) s.heap.objs.size 0 .none := by
    rw [← size]
    exact Heap.get?_push_size _ rfl
  refine callType_new F.called_enumerate (by decide) (F.typeCall_enumerate_1 _) (F.newCall_enumerate_1 _) (fun x => F.args_object_init_2 x _) F.entry_enumerate_new (meets_enumT B) ⟨ok, ?_⟩
  show _ ∧ _
  rw [size]
  exact ⟨⟨_, made, rfl⟩, q _ ⟨made, Heap.get?_push_of_some _ (Heap.get?_push_size _ B.free)⟩ fun c x e => Heap.get?_push_of_some _ (Heap.get?_push_of_some _ e)⟩
theorem drawsT {prog : Program} {w : World} {A : Around} (hh : A.handled = none) (it l : Addr) (items : Array Value) (hne : it ≠ l) :
    Draws prog w A it [it, l] items.size (fun i v => items[i]? = some v) (fun i h => h.IsTupleIter it l i ∧ h.IsTuple l items) where
  live := fun _ _ st => let ⟨⟨o, ho, _⟩, _⟩ := st; ⟨o, ho⟩
  frame := fun _ _ _ st hk => let ⟨a, b⟩ := st; ⟨a.at fun o q => hk it (by simp) o q, b.at fun o q => hk l (by simp) o q⟩
  item := fun i s Q E hi st hQ => by
    refine nextOf_tuple_item st.1 st.2 (x := items[i]) (by simp [hi]) fun h' hit' hs' => ?_
    exact hQ _ h' s.toks (by simp [hi]) ⟨hit', st.2.at fun o q => (hs'.2 l (Ne.symm hne)).trans q⟩ hs'
  done := fun s Q E st hE => nextOf_tuple_end hh st.1 st.2 (by simp) hE
def IteT (K : PySem.W.Frag) (a : Addr) (xs : List V) : It where
  go := fun i H => SqT K H a xs ∧ i < xs.length
  yld := fun i H v H' => ∃ T x, xs[i]? = some x ∧ (v = .ref T ∧ H T = none) ∧ H' = upd H T (.tup [.int (i : Nat), x])
  stop := fun i H => SqT K H a xs ∧ xs.length ≤ i
structure EtAt (a e it : Addr) (n i : Nat) (h : Heap) : Prop where
  le : i ≤ n
  apart : e ≠ it ∧ it ≠ a ∧ e ≠ a
  inner : h.IsTupleIter it a i
  outer : ∃ old, IsEnum h e it ((i : Nat) : Int) old
theorem EtAt.objs {a e it : Addr} {n i : Nat} {h : Heap} (st : EtAt a e it n i h) {c : Addr} (hc : c ∈ [e, it]) : ∃ o, h.get? c = some o ∧ ∀ v, o.data ≠ .cell v := by
  obtain ⟨old, e1⟩ := st.outer
  obtain ⟨o2, e2, _, d2⟩ := st.inner
  simp only [List.mem_cons, List.not_mem_nil, or_false] at hc
  rcases hc with rfl | rfl
  · exact ⟨_, e1, by intro v z; cases z⟩
  · exact ⟨o2, e2, by intro v z; rw [d2] at z; cases z⟩
theorem EtAt.lt {a e it : Addr} {n i : Nat} {h : Heap} (st : EtAt a e it n i h) {c : Addr} (hc : c ∈ [e, it]) : c < h.objs.size := by
  obtain ⟨_, z, _⟩ := st.objs hc
  exact Heap.lt_size z
theorem turn_enumT {P : Program} {w : World} {K : PySem.W.Frag} {elts : List Expr} {kk : Nat} {tpos : Pos} {xs : List V} (a e it : Addr) : Turn P w K (.Tuple elts kk tpos) (IteT K a xs) [e, it] e (EtAt a e it xs.length) where
  mem := List.mem_cons_self
  obj := fun _ _ st _ hc => st.objs hc
  keep := fun _ _ _ st k => by
    obtain ⟨old, e1⟩ := st.outer
    exact ⟨st.le, st.apart, st.inner.at (k it (by simp)), old, k e (by simp) _ e1⟩
  self := fun _ _ _ _ _ st q => by
    obtain ⟨_, e1⟩ := st.outer
    exact wpAny_pyIter_enum e1 q
  item := by
    rintro X rfl rfl rfl hc i pins s σ H E I hf st ⟨sq, lt⟩
    obtain ⟨vs, rx, px, _⟩ := I.tuple sq
    have lx := rx.length
    obtain ⟨old, e1⟩ := st.outer
    obtain ⟨n1, n2, n3⟩ := st.apart
    obtain ⟨x, ex⟩ : ∃ x, xs[i]? = some x := ⟨_, List.getElem?_eq_getElem lt⟩
    obtain ⟨u, eu, ru⟩ := rx.get ex
    have el := st.lt (c := e) (by simp)
    refine wpAny_pyNext_enum_itemD (drawsT (A := X.A.in1) (I.ok.hd hc) it a vs.toArray n2) e1 ⟨st.inner, px⟩ (by rw [List.size_toArray]; omega) n1 (by simp [n1, n3]) fun u' h' tk e2 out inner new _ hk => ?_
    have : u' = u := Option.some.inj (e2.symm.trans (by simpa using eu))
    subst this
    refine ⟨_, rfl, wpAny_letOwnedTupleGo_enum (s := { s with heap := h', toks := tk + 1 }) out fun h2 e3 sb => ?_⟩
    have pair : h2.get? s.heap.objs.size = some { cls := .type "tuple", data := .seq #[.int i tk, u'] } := (sb.2 _ (Nat.ne_of_gt el)).trans new
    have J : Inv X pins σ (upd H s.heap.objs.size (.tup [.int (i : Nat), x])) { s with heap := h2, toks := tk + 1 } := by
      refine I.turnedNew (ch := [e, it]) (fun c o hb q => ?_) hf (Nat.le_refl _) ⟨by show 2 ≤ sizeLine; decide, [.int i tk, u'], .cons ⟨_, rfl⟩ (.cons ru .nil), _, pair, rfl, _, rfl⟩
      simp only [List.mem_cons, List.not_mem_nil, or_false, not_or] at hb
      exact (sb.2 c hb.1).trans (hk c o hb.1 hb.2 q)
    refine ⟨.ref s.heap.objs.size, _, J, rfl, ⟨_, x, ex, ⟨rfl, I.hok.fresh (Nat.le_refl _)⟩, rfl⟩, ⟨by omega, st.apart, inner.1.at fun o q => (sb.2 it n1.symm).trans q, u', ?_⟩, fun c hb => (upd_ne (Nat.ne_of_lt (st.lt hb))).trans (hf c hb).1⟩
    rw [show ((i + 1 : Nat) : Int) = (i : Int) + 1 from rfl]
    exact e3
  done := by
    rintro X rfl rfl rfl hc i pins s σ H E I hf st ⟨sq, le⟩
    obtain ⟨vs, rx, px, _⟩ := I.tuple sq
    have lx := rx.length
    have here : i = vs.toArray.size := by
      have := st.le
      rw [List.size_toArray]
      omega
    obtain ⟨old, e1⟩ := st.outer
    have f := hf it (by simp)
    refine wpAny_pyNext_enum_endD (drawsT (A := X.A.in1) (I.ok.hd hc) it a vs.toArray st.apart.2.1) e1 ⟨here ▸ st.inner, px⟩ fun h' eb => ⟨rfl, ?_⟩
    exact I.turned (t' := s.toks) (fun c o hb q => eb c o hb q) f.1 f.2.1 f.2.2.2.1 f.2.2.2.2.1 f.2.2.2.2.2
def iEnumU (K : PySem.W.Frag) (ta : TA) : TI := fun σ H R => ta σ H fun vs H1 => ∃ a xs, vs = [.ref a] ∧ ((SqL K H1 a xs ∧ R (Ite K a) H1) ∨ (SqT K H1 a xs ∧ R (IteT K a xs) H1))
theorem pi_enumU {X : Cx} {e : Expr} {ta : TA} {p pos tpos : Pos} {elts : List Expr} {kk : Nat} (hg : Gl X "enumerate") (hm : X.mg "enumerate" = none) (ha : PA X [e] ta) (hs : starEach [e] X.env = [(false, eval e X.env)] := by rfl) :
    PI X (.Tuple elts kk tpos) (.Call (.Name "enumerate" p) [e] [] pos) (iEnumU X.K ta) := ⟨fun pins s σ H R I h => by
  refine Call_ (ld_blt I hg hm boot_enumerate (PyProof.Rows.callWith_type1 (thn (ha.run pos pins s σ H _ I h) fun us s1 ⟨vs, H1, I1, r1, a, xs, ev, q1⟩ => ?_) hs rfl))
  subst ev
  rw [Vals.ref1 r1]
  have new : ∀ c ∈ [s1.heap.objs.size + 1, s1.heap.objs.size], FpOk X pins H1 c := fun c hc => by
    have le : s1.heap.objs.size ≤ c := by
      simp only [List.mem_cons, List.not_mem_nil, or_false] at hc
      rcases hc with rfl | rfl
      · exact Nat.le_succ _
      · exact Nat.le_refl _
    exact I1.fpOk le (I1.hok.fresh le)
  rcases q1 with ⟨sq, q⟩ | ⟨sq, q⟩
  · obtain ⟨its, _, pl, _⟩ := I1.list sq
    exact call_enumerate_list pl.isList fun h' e1 e2 _ hk => wpAny_pyIter_enum e1 ⟨_, _, _, _, H1, rfl, I1.kept (t' := s1.toks) hk, turn_enum a _ _, ⟨⟨.none, e1⟩, e2, Nat.succ_ne_self _⟩, new, q⟩
  · obtain ⟨its, _, pt, _⟩ := I1.tuple sq
    obtain ⟨o, eo, _⟩ := id pt
    have la := Heap.lt_size eo
    exact call_enumT (begins_tuple a its.toArray) (show s1.heap.IsTuple a its.toArray from pt) fun h' ⟨e1, e2⟩ hk => wpAny_pyIter_enum e1
      ⟨_, _, _, _, H1, rfl, I1.kept (t' := s1.toks) hk, turn_enumT a _ _, ⟨Nat.zero_le _, ⟨Nat.succ_ne_self _, Nat.ne_of_gt la, Nat.ne_of_gt (Nat.lt_succ_of_lt la)⟩, ⟨_, e2, rfl, rfl⟩, .none, e1⟩, new, q⟩⟩
def enumD : Nat → List D → List D
  | _, [] => []
  | n, d :: ds => .tup [.int (n : Nat), d] :: enumD (n + 1) ds
theorem enumD_len : ∀ (n : Nat) (ds : List D), (enumD n ds).length = ds.length
  | _, [] => rfl
  | n, d :: ds => by simp [enumD, enumD_len (n + 1) ds]
theorem enumD_get : ∀ (n i : Nat) (ds : List D), (enumD n ds)[i]? = ds[i]?.map fun d => .tup [.int ((n + i : Nat) : Int), d]
  | _, _, [] => by simp [enumD]
  | n, 0, d :: ds => by simp [enumD]
  | n, i + 1, d :: ds => by
    simp only [enumD, List.getElem?_cons_succ, enumD_get (n + 1) i ds]
    congr 1
    funext d
    rw [show n + 1 + i = n + (i + 1) by omega]
def iEnum (e : ME) : MI := fun en S => (e en S).bind fun d S1 => match seqL S1 d, seqT d with
  | some ds, _ => .ok ⟨enumD 0 ds, fun S => seqL S d = some ds⟩ S1
  | none, some ds => .ok ⟨enumD 0 ds, fun _ => True⟩ S1
  | none, none => .bad
theorem enum_item {B : Bas} {m' : Mp} {H' : Hp} {S : Sto} {i : Nat} {d : D} {ds : List D} {vs : List V} {v : V} {T : Addr} (s : Sub m' H') (c : Cor B m' S) (rs : Reps B m' ds vs) (hd : (enumD 0 ds)[i]? = some d) (hT : H' T = none) (hv : vs[i]? = some v) :
    ∃ m'', Le m' H' m'' (upd H' T (.tup [.int (i : Nat), v])) ∧ Cor B m'' S ∧ Rep B m'' d (.ref T) := by
  rw [enumD_get] at hd
  cases e : ds[i]? with
  | none => rw [e] at hd; cases hd
  | some y =>
    rw [e] at hd
    simp only [Option.map_some, Option.some.injEq, Nat.zero_add] at hd
    subst hd
    obtain ⟨w, hw, rw'⟩ := rs.get e
    rw [hv] at hw
    cases hw
    exact ⟨_, Le.new c s hT, Cor.new c s hT, rp_tup c s hT (Reps.cons (rp_int _) (Reps.cons rw' Reps.nil))⟩
theorem enum_at {i : Nat} {d : D} {ds : List D} (hd : (enumD 0 ds)[i]? = some d) : i < ds.length := by
  have := (List.getElem?_eq_some_iff.mp hd).1
  rwa [enumD_len] at this
theorem itr_enumL {B : Bas} {m : Mp} {a : Addr} {d : D} {ds : List D} (r : Rep B m d (.ref a)) : ItR B m ⟨enumD 0 ds, fun S => seqL S d = some ds⟩ (Ite B.K a) := fun m' H' S k s c p => by
  obtain ⟨a', vs, e, q, rs⟩ := repL s c (r.monoK k) p
  cases e
  refine ⟨fun i x hx => ?_, fun i hi => ⟨vs, q, by rw [← rs.length]; simpa [enumD_len] using hi⟩⟩
  have hi := enum_at hx
  obtain ⟨v, hv, _⟩ := rs.get (List.getElem?_eq_getElem hi)
  refine ⟨⟨vs, v, q, hv⟩, ?_⟩
  rintro y H'' ⟨T, z, rfl, hT, rfl, hz⟩
  exact enum_item s c rs hx hT (hz vs q)
theorem itr_enumT {B : Bas} {m : Mp} {a : Addr} {ds : List D} {vs : List V} (q : ∀ m' H', Kp m m' → Sub m' H' → SqT B.K H' a vs) (rs : Reps B m ds vs) : ItR B m ⟨enumD 0 ds, fun _ => True⟩ (IteT B.K a vs) := fun m' H' S k s c _ => by
  have ln := rs.length
  refine ⟨fun i x hx => ?_, fun i hi => ⟨q m' H' k s, by rw [← ln]; simpa [enumD_len] using hi⟩⟩
  have hi := enum_at hx
  refine ⟨⟨q m' H' k s, by omega⟩, ?_⟩
  rintro y H'' ⟨T, z, hz, ⟨rfl, hT⟩, rfl⟩
  exact enum_item s c (rs.monoK k) hx hT hz
theorem seqT_sq {B : Bas} {m : Mp} {d : D} {ds : List D} {v : V} (r : Rep B m d v) (p : seqT d = some ds) : ∃ a vs, v = .ref a ∧ Reps B m ds vs ∧ ∀ m' H', Kp m m' → Sub m' H' → SqT B.K H' a vs := by
  cases d with
  | tup xs =>
    cases p
    simp only [Rep] at r
    obtain ⟨a, vs, rfl, t, rs⟩ := r
    exact ⟨a, vs, rfl, rs, fun m' H' k s => (t.mono k).sq s⟩
  | ktp xs =>
    cases p
    simp only [Rep] at r
    obtain ⟨a, vs, rfl, t, rs⟩ := r
    exact ⟨a, vs, rfl, rs, fun m' H' k s => t.sq⟩
  | _ => cases p
theorem di_enum {X : Cx} {B : Bas} {W : WX} {e : Expr} {me : ME} {p pos tpos : Pos} {elts : List Expr} {kk : Nat} (hm : X.mg "enumerate" = none) (he : PE X e (tE B W me)) (hK : B.K = X.K := by rfl) (hg : Gl X "enumerate" := by rfl) (hs : starEach [e] X.env = [(false, eval e X.env)] := by rfl) :
    PI X (.Tuple elts kk tpos) (.Call (.Name "enumerate" p) [e] [] pos) (tI B W (iEnum me)) :=
  PI.cut (pi_enumU hg hm (da_cons he da_nil (by rw [hs]; rfl)) hs) fun σ H R ⟨m, S, en, s, c, er, q⟩ => by
    refine ⟨m, S, en, s, c, er, ?_⟩
    have q1 : Post B (ItR B) (at' W σ) m H R ((aCons me aNil en S).bind fun xs S1 => match xs with
        | [d] => (match seqL S1 d, seqT d with
          | some ds, _ => .ok ⟨enumD 0 ds, fun S => seqL S d = some ds⟩ S1
          | none, some ds => .ok ⟨enumD 0 ds, fun _ => True⟩ S1
          | none, none => .bad)
        | _ => .bad) := by
      simp only [aCons, aNil]
      unfold iEnum at q
      cases h : me en S with
      | ok d S1 => rw [h] at q; exact q
      | ex c ns vs S1 => rw [h] at q; exact q
      | bad => rw [h] at q; exact q
    refine (Post.bind q1).imp ?_
    rintro vs H1 ⟨ds, S1, m1, _, l1, c1, r1, p1⟩
    match ds, p1, r1 with
    | [], p1, _ => exact p1.elim
    | _ :: _ :: _, p1, _ => exact p1.elim
    | [d], p1, r1 =>
      obtain ⟨v, rfl, rv⟩ := r1.one
      cases h1 : seqL S1 d with
      | some ds =>
        simp only [h1] at p1
        obtain ⟨a, us, rfl, q, rs⟩ := repL l1.sub c1 rv h1
        exact ⟨a, us, rfl, .inl ⟨hK ▸ q, p1 m1 H1 _ (Le.refl l1.sub) c1 (hK ▸ itr_enumL rv)⟩⟩
      | none =>
        cases h2 : seqT d with
        | none => simp only [h1, h2] at p1; exact p1.elim
        | some ds =>
          simp only [h1, h2] at p1
          obtain ⟨a, us, rfl, rs, q⟩ := seqT_sq rv h2
          exact ⟨a, us, rfl, .inr ⟨hK ▸ q m1 H1 (Kp.refl m1) l1.sub, p1 m1 H1 _ (Le.refl l1.sub) c1 (hK ▸ itr_enumT q rs)⟩⟩
end G
end
section
namespace PySem.SeqAt
open Sem (wp)
open AutoSeq1 (wpAny_loadPart')
open MeetsSeq MeetsSeq2 MeetsSeq3 SeqRoads2
def RcLe (A : Around) (s : Shared) (x y : Value) (b : Bool) : Prop := ∀ (prog : Program) (w : World) (E : Value → Shared → Prop) (Q : Value → Shared → Prop), Q (.bool b) s → wpAny (model prog w) A (richCompare .LtE x y) Q E s
theorem tuple_leF (l b : Addr) (items items2 : Array Value) (n n2 : Nat) (dd dd2 : Option Addr) (sl sl2 : Array (Option Value)) (e r : Nat → Bool) :
    Meets (Builtin.«tuple.__le__» ⟨[.ref l, .ref b], []⟩)
      (fun A R s => (s.heap.get? l = some { cls := .type "tuple", dict := dd, data := .seq items n, slots := sl } ∧ s.heap.get? b = some { cls := .type "tuple", dict := dd2, data := .seq items2 n2, slots := sl2 }) ∧
        ((∀ j (h1 : j < items.size) (h2 : j < items2.size), EqAt A.in1 s items[j] items2[j] (e j)) ∧ (∀ j (h1 : j < items.size) (h2 : j < items2.size), (∀ i, i < j → e i = true) → e j = false → RcLe A.in1 s items[j] items2[j] (r j))) ∧
        R (.ok (.ret (.bool (firstLt e r (decide (items.size ≤ items2.size)) (List.range (min items.size items2.size)))))) s) :=
  .of_wp fun prog w A R s h => by
    obtain ⟨hp, g, d, tk, os⟩ := s; obtain ⟨⟨hl, hb⟩, ⟨he, hr⟩, h⟩ := h
    have f2 := AutoSeq1.sub_tuple_tuple
    have lenZ : (items.toList.zip items2.toList).length = min items.size items2.size := by simp
    wp_walk using wpAny_loadPart' hl, wpAny_loadPart' hb, wpAny_forIn_list _ (fun rest b s' => b.1 = none ∧ s' = ⟨hp, g, d, tk, os⟩ ∧ ∃ i, (∀ k, k < i → e k = true) ∧ rest = (items.toList.zip items2.toList).drop i ∧
      R (.ok (.ret (.bool (firstLt e r (decide (items.size ≤ items2.size)) ((List.range (min items.size items2.size)).drop i))))) ⟨hp, g, d, tk, os⟩) _
    case turn =>
      rintro ⟨y, x⟩ rest b s' ⟨hb', rfl, i, hpre, hz, hR⟩
      have hlt : i < (items.toList.zip items2.toList).length := by
        apply Nat.lt_of_not_le
        intro h'
        rw [List.drop_of_length_le h'] at hz
        cases hz
      have hm : i < min items.size items2.size := lenZ ▸ hlt
      have h1 : i < items.size := Nat.lt_of_lt_of_le hm (Nat.min_le_left _ _)
      have h2 : i < items2.size := Nat.lt_of_lt_of_le hm (Nat.min_le_right _ _)
      rw [List.drop_eq_getElem_cons hlt] at hz
      injection hz with hyx hrest
      obtain rfl : y = items[i] := by simpa using congrArg Prod.fst hyx
      obtain rfl : x = items2[i] := by simpa using congrArg Prod.snd hyx
      have hd : (List.range (min items.size items2.size)).drop i = i :: (List.range (min items.size items2.size)).drop (i + 1) := by simp [List.drop_eq_getElem_cons, hm]
      rw [hd] at hR
      refine wpAny_bind (he i h1 h2 prog w _ _ ?_)
      cases hy : e i with
      | true =>
        rw [firstLt_yes hy] at hR
        wp_walk
        refine ⟨rfl, rfl, i + 1, fun k hk => ?_, hrest, hR⟩
        rcases Nat.lt_succ_iff_lt_or_eq.mp hk with z | z
        · exact hpre k z
        · rw [z]; exact hy
      | false =>
        rw [firstLt_no hy] at hR
        have hrc := hr i h1 h2 hpre hy
        unfold RcLe at hrc
        generalize richCompare CmpOp.LtE items[i] items2[i] = rc at hrc ⊢
        wp_walk
        refine hrc prog w _ _ ?_
        wp_walk
        exact ⟨_, rfl, hR⟩
    case fin =>
      rintro ⟨b1, b2⟩ s' ⟨hb', rfl, i, _, hz, hR⟩
      simp only at hb'
      subst hb'
      have hge : min items.size items2.size ≤ i := by
        apply Nat.le_of_not_lt
        intro h'
        rw [List.drop_eq_getElem_cons (by rw [lenZ]; exact h')] at hz
        cases hz
      rw [List.drop_of_length_le (by simpa using hge)] at hR
      wp_walk
      exact ⟨_, rfl, by simpa [Builtin.Tuple.tupleCompareSizes, firstLt] using hR⟩
    case h => exact ⟨rfl, rfl, 0, fun k hk => absurd hk (Nat.not_lt_zero _), rfl, by simpa using h⟩
theorem RcLe_tupF {A : Around} {s : Shared} {l b : Addr} {items items2 : Array Value} {e r : Nat → Bool} (hl : s.heap.IsTuple l items) (hb : s.heap.IsTuple b items2) (hu : A.units < cLine)
    (he : ∀ j (h1 : j < items.size) (h2 : j < items2.size), EqAt A.in1 s items[j] items2[j] (e j)) (hr : ∀ j (h1 : j < items.size) (h2 : j < items2.size), (∀ i, i < j → e i = true) → e j = false → RcLe A.in1 s items[j] items2[j] (r j)) :
    RcLe A s (.ref l) (.ref b) (firstLt e r (decide (items.size ≤ items2.size)) (List.range (min items.size items2.size))) := fun prog w E Q h => by
  obtain ⟨⟨cls, dd, data, sl⟩, ho, hc, n, hd⟩ := id hl
  obtain ⟨⟨cls2, dd2, data2, sl2⟩, ho2, hc2, n2, hd2⟩ := id hb
  simp only at hc hd hc2 hd2
  subst hc hd hc2 hd2
  exact richCompare_meets_room (op := .LtE) ⟨_, ho, rfl⟩ ⟨_, ho2, rfl⟩ F.slot_tuple_le F.entry_tuple_le (F.args_tuple_le_2 _ _) (tuple_leF l b items items2 n n2 dd dd2 sl sl2 e r)
    ⟨⟨ho, ho2⟩, ⟨he, hr⟩, ⟨(fun x => nomatch x), h⟩⟩ hu
end PySem.SeqAt
namespace G
open PySem L2
mutual
def pLe : PyData → PyData → Option Bool
  | .int i, .int j => some (decide (i ≤ j))
  | .str x, .str y => some (!(decide (y.cps.toList < x.cps.toList)))
  | .tuple xs, .tuple ys => pLes xs ys
  | _, _ => none
def pLes : List PyData → List PyData → Option Bool
  | [], [] => some true
  | [], _ :: _ => some true
  | _ :: _, [] => some false
  | x :: xs, y :: ys => if PyData.eqv x y = true then pLes xs ys else pLe x y
end
open SeqAt in
theorem firstLt_pLes : ∀ (xs ys : List PyData) (k : Bool) (r : Nat → Bool), pLes xs ys = some k →
    (∀ j, j < xs.length → j < ys.length → (∀ i, i < j → pairEq xs ys i = true) → pairEq xs ys j = false → pLe (xs.getD j .none) (ys.getD j .none) = some (r j)) →
    firstLt (pairEq xs ys) r (decide (xs.length ≤ ys.length)) (List.range (min xs.length ys.length)) = k
  | [], [], k, r, h, _ => by
    simp only [pLes] at h
    cases h
    simp [firstLt]
  | [], y :: ys, k, r, h, _ => by
    simp only [pLes] at h
    cases h
    simp [firstLt]
  | x :: xs, [], k, r, h, _ => by
    simp only [pLes] at h
    cases h
    simp [firstLt]
  | x :: xs, y :: ys, k, r, h, hr => by
    have e0 : pairEq (x :: xs) (y :: ys) 0 = PyData.eqv x y := rfl
    have e1 : ∀ j, pairEq (x :: xs) (y :: ys) (j + 1) = pairEq xs ys j := fun _ => rfl
    simp only [List.length_cons, Nat.succ_min_succ, firstLt_shift, e0, e1]
    simp only [pLes] at h
    split at h
    · rename_i hq
      rw [if_pos hq]
      have ih := firstLt_pLes xs ys k (fun j => r (j + 1)) h fun j h1 h2 hpre hj => by
        have := hr (j + 1) (by simpa using h1) (by simpa using h2) (fun i hi => by
          cases i with
          | zero => exact hq
          | succ i => exact hpre i (by omega)) hj
        simpa using this
      simpa using ih
    · rename_i hq
      rw [if_neg hq]
      have := hr 0 (by simp) (by simp) (fun i hi => absurd hi (Nat.not_lt_zero _)) (by rw [e0]; simpa using hq)
      simp only [List.getD_cons_zero] at this
      rw [h] at this
      exact (Option.some.inj this).symm
theorem pLes_at : ∀ (xs ys : List PyData) (k : Bool), pLes xs ys = some k → ∀ j, j < xs.length → j < ys.length → (∀ i, i < j → SeqAt.pairEq xs ys i = true) → SeqAt.pairEq xs ys j = false → ∃ q, pLe (xs.getD j .none) (ys.getD j .none) = some q
  | [], _, _, _, j, h1, _, _, _ => absurd h1 (Nat.not_lt_zero _)
  | _ :: _, [], _, _, j, _, h2, _, _ => absurd h2 (Nat.not_lt_zero _)
  | x :: xs, y :: ys, k, h, j, h1, h2, hpre, hj => by
    simp only [pLes] at h
    cases j with
    | zero =>
      have hj' : PyData.eqv x y = false := hj
      rw [hj'] at h
      simp only [Bool.false_eq_true, if_false] at h
      exact ⟨k, h⟩
    | succ j =>
      have h0 : PyData.eqv x y = true := hpre 0 (Nat.succ_pos _)
      rw [if_pos h0] at h
      exact pLes_at xs ys k h j (by simpa using h1) (by simpa using h2) (fun i hi => hpre (i + 1) (by omega)) hj
mutual
theorem rcLe_p : ∀ (da db : PyData) (A : Around) (s : Shared) (a b : Value) (as bs : List Addr) (k : Bool), Reads s.heap a da as → Reads s.heap b db bs → da.canLay0 = true → db.canLay0 = true → A.units + min da.depth db.depth < cLine → pLe da db = some k → SeqAt.RcLe A s a b k
  | .int x, db, A, s, a, b, as, bs, k, ra, rb, ha, hb, hu, h => by
    cases db with
    | int y =>
      simp only [pLe] at h
      cases h
      cases ra
      cases rb
      exact fun prog w E Q hq => P.le_int hq
    | _ => simp [pLe] at h
  | .str x, db, A, s, a, b, as, bs, k, ra, rb, ha, hb, hu, h => by
    cases db with
    | str y =>
      simp only [pLe] at h
      cases h
      cases ra
      cases rb
      exact fun prog w E Q hq => P.le_str hq
    | _ => simp [pLe] at h
  | .tuple xs, db, A, s, a, b, as, bs, k, ra, rb, ha, hb, hu, h => by
    cases db with
    | tuple ys =>
      simp only [pLe] at h
      have ha' : PyData.canLayAll0 xs = true := by simpa [PyData.canLay0] using ha
      have hb' : PyData.canLayAll0 ys = true := by simpa [PyData.canLay0] using hb
      cases ra with
      | @tuple l o vs n _ as₁ h1 h2 h3 h4 =>
        cases rb with
        | @tuple l' o' vs' n' _ bs₁ k1 k2 k3 k4 =>
          have hl : s.heap.IsTuple l vs := ⟨_, h1, h2, _, h3⟩
          have hl' : s.heap.IsTuple l' vs' := ⟨_, k1, k2, _, k3⟩
          have n1 : vs.size = xs.length := PySem.W.readsAll_len h4
          have n2 : vs'.size = ys.length := PySem.W.readsAll_len k4
          have hu1 : (A.in1).units + min (PyData.depthAll xs) (PyData.depthAll ys) < cLine := SeqAt.room_in hu
          rw [← firstLt_pLes xs ys k (fun j => (pLe (xs.getD j .none) (ys.getD j .none)).getD false) h (fun j h1 h2 hpre hj => by
            obtain ⟨q, hq⟩ := pLes_at xs ys k h j h1 h2 hpre hj
            rw [hq]
            rfl), ← n1, ← n2]
          refine SeqAt.RcLe_tupF hl hl' (SeqAt.room_here hu) (fun j j1 j2 => ?_) fun j j1 j2 hpre hj => ?_
          · have := SeqAt.eqAt_readsAll xs ys A.in1 s vs.toList vs'.toList _ _ h4 k4 ha' hb' hu1 j (by simpa using j1) (by simpa using j2)
            simpa using this
          · obtain ⟨q, hq⟩ := pLes_at xs ys k h j (by omega) (by omega) hpre hj
            have := rcLe_ps xs ys A.in1 s vs.toList vs'.toList _ _ h4 k4 ha' hb' hu1 j (by simpa using j1) (by simpa using j2) q hq
            rw [hq]
            simpa using this
    | _ => simp [pLe] at h
  | .none, db, _, _, _, _, _, _, _, _, _, _, _, _, h => by simp [pLe] at h
  | .bool _, db, _, _, _, _, _, _, _, _, _, _, _, _, h => by simp [pLe] at h
  | .list _, db, _, _, _, _, _, _, _, _, _, _, _, _, h => by simp [pLe] at h
  | .dict _, db, _, _, _, _, _, _, _, _, _, _, _, _, h => by simp [pLe] at h
theorem rcLe_ps : ∀ (xs ys : List PyData) (A : Around) (s : Shared) (vs ws : List Value) (as bs : List Addr), ReadsAll s.heap vs xs as → ReadsAll s.heap ws ys bs → PyData.canLayAll0 xs = true → PyData.canLayAll0 ys = true →
    A.units + min (PyData.depthAll xs) (PyData.depthAll ys) < cLine → ∀ j (h1 : j < vs.length) (h2 : j < ws.length) (q : Bool), pLe (xs.getD j .none) (ys.getD j .none) = some q → SeqAt.RcLe A s vs[j] ws[j] q
  | [], _, _, _, _, _, _, _, ra, _, _, _, _, j, h1, _, _, _ => by cases ra; exact absurd h1 (Nat.not_lt_zero _)
  | _ :: _, [], _, _, _, _, _, _, _, rb, _, _, _, j, _, h2, _, _ => by cases rb; exact absurd h2 (Nat.not_lt_zero _)
  | x :: xs, y :: ys, A, s, _, _, _, _, ra, rb, ha, hb, hu, j, h1, h2, q, hq => by
    have ha' : x.canLay0 = true ∧ PyData.canLayAll0 xs = true := by simpa [PyData.canLayAll0] using ha
    have hb' : y.canLay0 = true ∧ PyData.canLayAll0 ys = true := by simpa [PyData.canLayAll0] using hb
    cases ra with
    | cons r rs =>
      cases rb with
      | cons r' rs' =>
        cases j with
        | zero => exact rcLe_p x y A s _ _ _ _ q r r' ha'.1 hb'.1 (SeqAt.room_head hu) (by simpa using hq)
        | succ j => exact rcLe_ps xs ys A s _ _ _ _ rs rs' ha'.2 hb'.2 (SeqAt.room_tail hu) j (Nat.lt_of_succ_lt_succ h1) (Nat.lt_of_succ_lt_succ h2) q (by simpa using hq)
end
def dLe (S : Sto) (x y : D) : Option D := match pdv S x, pdv S y with
  | some p, some q => if SeqAt.shaped p = true ∧ SeqAt.shaped q = true then (pLe p q).map .bl else none
  | _, _ => none
end G
end
section
namespace G
open PySem PySem.Spec PyProof.Rows L2
section
variable {X : Cx}
theorem d_dictSetT {pins : List (Addr × Obj)} {σ : L2.St} {H : Hp} {s : Shared} {E : Value → Shared → Prop} {D b : Addr} {kvs : List (List Key × V)} {k : List Key} {v : V} {u r : Value} {Q : Unit → Shared → Prop} (hu : X.A.units + 1 < cLine) (I : Inv X pins σ H s) (hD : H D = some (.dT kvs)) (hb : H b = some (.tup (k.map kV))) (hz : kvs.length < sizeLine)
    (ry : RelV (.ref b) u) (rv : RelV v r) (h : ∀ s', Inv X pins σ (upd H D (.dT (putK kvs k v))) s' → Q () s') : wpAny (model X.prog X.w) X.A (dictSet D u r) Q E s := by
  cases (show u = Value.ref b from ry)
  obtain ⟨z, hd, xs, rel, dd⟩ := dt_of I.hok hD
  have hzv : xs.length ≤ sizeLine := by rw [← rel.length]; exact z
  have hl : (putK kvs k v).length ≤ sizeLine := by have := length_putK kvs k v; omega
  have hne : b ≠ D := ne_of hb hD (by intro q; cases q)
  refine wpAny_dictSet_heap (hsz := hzv) (show (tupleKind (mixKind X.prog X.w)).room X.A from by show X.A.units < cLine; omega) (key_of I.hok hb) dd fun h' dd' hs => h _ ?_
  obtain ⟨q, es, ep, hq, h2, h3, h4, _, h5⟩ := dd'
  refine d_write I (by rw [hD]; exact True.intro) hs ⟨q, hq⟩ ⟨hl, hd, _, (rel.put k hb rv).keeps fun c ys ec => ?_, q, es, ep, hq, h2, h3, h4, h5⟩
  rw [upd_ne (ne_of ec hD (by intro z; cases z))]
  exact ec
def DcPut (D : Addr) (Nx : Hp → Prop) (y z : V) (H : Hp) : Prop := ∃ kvs k bk, y = .ref bk ∧ H bk = some (.tup (k.map kV)) ∧ H D = some (.dT kvs) ∧ kvs.length < sizeLine ∧ Nx (upd H D (.dT (putK kvs k z)))
def DcItem (g : TG) (tt : TT) (tk tv : TE) (σ0 : L2.St) (vs : List Nat) (D : Addr) (Nx : Hp → Prop) (x : V) (H : Hp) : Prop :=
  g x σ0 H fun σ2 H2 => wipe σ2 vs = σ0 ∧ tt σ2 H2 fun b H3 => if b = true then tk σ2 H3 fun y H4 => tv σ2 H4 fun z H5 => DcPut D Nx y z H5 else Nx H3
structure Stand (Y : Cx) (fp : List Addr) (tn : Nat → Heap → Prop) (σ0 : L2.St) (i : Nat) (H : Hp) (s : Shared) : Prop where
  inv : Inv Y [] σ0 H s
  at_ : tn i s.heap
  no : ∀ b ∈ fp, H b = none
section
variable {s0 : Shared} {H0 : Hp} {scope : Scope} {ce : Env} {fp : List Addr} {tn : Nat → Heap → Prop} {σ0 : L2.St} {tg : Expr} {J : It} {it : Addr}
theorem fp_blk {σ : L2.St} {H : Hp} {s : Shared} (I : Inv (X.blk s0 H0 scope ce fp) [] σ H s) (no : ∀ b ∈ fp, H b = none) {b : Addr} (hb : b ∈ fp) : FpOk (X.blk s0 H0 scope ce fp) [] H b := by
  have e1 := I.ok.exf b hb
  refine ⟨no b hb, e1.1, I.ok.exfs b hb, .inl hb, fun _ _ e => e1.2 _ _ e, fun p hp => ?_⟩
  have : p ∈ ([] : List (Addr × Obj)) ++ [] := hp
  exact absurd this (by simp)
theorem Stand.after {vs : List Nat} {i : Nat} {σ' : L2.St} {H' : Hp} {s' s7 : Shared} (T : Turn X.prog X.w X.K tg J fp it tn) (t7 : tn (i + 1) s7.heap) (I' : Inv (X.blk s0 H0 scope ce fp) ([] ++ pinsAt fp s7.heap) σ' H' s') (hw : wipe σ' vs = σ0) : Stand (X.blk s0 H0 scope ce fp) fp tn σ0 (i + 1) H' s' := by
  have held : ∀ b ∈ fp, ∀ o, s7.heap.get? b = some o → s'.heap.get? b = some o ∧ H' b = none := fun b hb o e => by
    have z := I'.pin (b, o) (List.mem_append_right _ (List.mem_append_right _ (mem_pinsAt hb e)))
    exact ⟨z.1, z.2.1⟩
  subst hw
  refine ⟨I'.unpinned.weak (wipe_length σ' vs) fun j v e => (wipe_some e).1, T.keep _ _ _ t7 fun b hb o e => (held b hb o e).1, fun b hb => ?_⟩
  obtain ⟨o, e, _⟩ := T.obj _ _ t7 b hb
  exact (held b hb o e).2
theorem Stand.item {vs : List Nat} {i : Nat} {H : Hp} {s : Shared} {D : Addr} {Nx : Hp → Prop} {g : TG} {tt : TT} {tk tv : TE} {kx vx : Expr} {ifs : List Expr} {R : Shared → Prop} {F : Value → Shared → Prop} (hu : X.A.units + 1 < cLine) (hc : X.calm = true) (T : Turn X.prog X.w X.K tg J fp it tn) (S : Stand (X.blk s0 H0 scope ce fp) fp tn σ0 i H s)
    (pg : PG (X.blk s0 H0 scope ce fp) tg g) (pt : PTs (X.blk s0 H0 scope ce fp) ifs tt) (pk : PE (X.blk s0 H0 scope ce fp) kx tk) (pe : PE (X.blk s0 H0 scope ce fp) vx tv)
    (go : J.go i H) (step : ∀ x H', J.yld i H x H' → DcItem g tt tk tv σ0 vs D Nx x H') (r : ∀ H' s', Stand (X.blk s0 H0 scope ce fp) fp tn σ0 (i + 1) H' s' → Nx H' → R s') :
    wpAny (model X.prog X.w) X.A (pyNext (.ref it)) (fun o s1 => ∃ u, o = some u ∧ wpAny (model X.prog X.w) X.A (letOwnedTupleGo tg (.ref it) u) (fun _ s2 => wpAny (model X.prog X.w) X.A (assign tg ce u) (fun _ s3 =>
      wpAny (model X.prog X.w) X.A (forIn ifs true fun c r => if r = true then do let ok ← isTrue c ce (eval c ce); pure (ForInStep.yield ok) else pure (ForInStep.yield r)) (fun b s4 =>
        if b = true then wpAny (model X.prog X.w) X.A (eval kx ce) (fun kv s5 => wpAny (model X.prog X.w) X.A (eval vx ce) (fun vv s6 => wpAny (model X.prog X.w) X.A (dictSet D kv vv) (fun _ s7 => R s7) F s6) F s5) F s4 else R s4) F s3) F s2) F s1) F s := by
  refine thnF (T.item (X.blk s0 H0 scope ce fp) rfl rfl rfl hc i [] s σ0 H (fun _ _ => False) S.inv (fun b hb => fp_blk S.inv S.no hb) S.at_ go) fun o s1 ⟨u, ho, w1⟩ => ⟨u, ho, thnF w1 fun _ s2 ⟨x, H2, I2, rx, y2, t2, n2⟩ => ?_⟩
  have P2 := I2.pinned (fun b hb => fp_blk I2 n2 hb) (T.obj _ _ t2)
  refine thnF (pg.run _ s2 σ0 H2 x u _ P2 rx (step x H2 y2)) fun _ s3 ⟨σ3, H3, I3, w3, q3⟩ => thnF (pt.run _ s3 σ3 H3 _ I3 q3) fun b s4 ⟨H4, I4, q4⟩ => ?_
  cases b with
  | false => exact r H4 s4 (Stand.after T t2 I4 w3) q4
  | true =>
    rw [if_pos rfl]
    refine thnF (pk.run _ s4 σ3 H4 _ I4 q4) fun kv s5 ⟨y, H5, I5, r5, q5⟩ => thnF (pe.run _ s5 σ3 H5 _ I5 q5) fun vv s6 ⟨z, H6, I6, r6, q6⟩ => ?_
    obtain ⟨kvs, k, bk, rfl, hb, hD, few, nx⟩ := q6
    exact d_dictSetT (X := X.blk s0 H0 scope ce fp) hu I6 hD hb few r5 r6 fun s7 I7 => r _ s7 (Stand.after T t2 I7 w3) nx
end
end
end G
end
section
namespace G
open PySem PySem.Spec PyProof.Rows L2 RZ
section
variable {X : Cx}
end
def putP (ks ds : List D) (y d : D) : Option (List D × List D) := match tkeysD ks, tkeyD y with
  | some qs, some k => some (if hasK k qs = true then (ks, replT k d qs ds) else (ks ++ [y], ds ++ [d]))
  | _, _ => none
open Classical in
noncomputable def dcomp (g : MG) (t : MT) (k v : ME) (P : Sto → Prop) (en : En) : List D → List D × List D → Sto → Res (List D × List D)
  | [], acc, S => if P S then .ok acc S else .bad
  | d :: ds, acc, S => if P S then (match g d en with
    | none => .bad
    | some en1 => (t en1 S).noex.bind fun b S1 => match b with
      | false => dcomp g t k v P en ds acc S1
      | true => (k en1 S1).noex.bind fun y S2 => (v en1 S2).noex.bind fun x S3 => if acc.1.length < sizeLine then (match putP acc.1 acc.2 y x with
        | some acc' => dcomp g t k v P en ds acc' S3
        | none => .bad) else .bad) else .bad
noncomputable def mDcN (i : MI) (g : MG) (t : MT) (k v : ME) (vs : List Nat) : ME := fun en S => (i en S).bind fun its S1 => (dcomp g t k v its.P (wipeE en vs) its.ds ([], []) S1).bind fun acc S2 => .ok (.ref S2.length) (S2 ++ [.dic acc.1 acc.2])
section
variable {X : Cx} {B : Bas} {W : WX} {kx vx tg iter : Expr} {ifs : List Expr} {scope : Scope} {ow : List (Str × Nat)} {pos : Pos} {mi : MI} {g : TG} {t : MG} {tt : MT} {tk tv : ME} {own : List Nat}
end
def mChain (g g' : Sto → D → D → Option D) (a b c : ME) : ME := fun en S => (a en S).bind fun x S1 => (b en S1).bind fun y S2 => match g S2 x y with
  | some (.bl true) => (c en S2).bind fun z S3 => (match g' S3 y z with
    | some d => .ok d S3
    | none => .bad)
  | some (.bl false) => .ok (.bl false) S2
  | _ => .bad
section
variable {X : Cx} {B : Bas} {W : WX} {a b c : Expr} {pos : Pos} {ma mb mc : ME} {r r' : R2} {g g' : Sto → D → D → Option D}
end
end G
end
section
namespace G
open PySem PySem.Spec PyProof.Rows L2 RZ
def rIxG : R2 := fun x y H Q => ∃ a v, x = .ref a ∧ DGet H a y (some v) ∧ Q v H
theorem ix_dict {X : Cx} (hu : X.A.units + 1 < cLine) : IxR X rIxG := by
  intro value slice pins s σ H x y v u Q I rx ry h hs
  obtain ⟨a, z, rfl, g, q⟩ := h
  obtain rfl : v = Value.ref a := rx
  exact tail_any (dict_typeIs I g) PySem.F.slot_dict_getitem.lookup (d_getItem hu I g ry fun w' s3 I3 rw' => ⟨z, H, I3, rw', q⟩) hs
theorem ix_all {X : Cx} (hu : X.A.units + 1 < cLine) : IxR X (fun x y H Q => rIx X.K x y H Q ∨ rIxG x y H Q) := ix_seq.or (ix_dict hu)
def dIdxG (S : Sto) (x y : D) : Option D := match dGetO S x y with
  | some o => o
  | none => match kGetO S x y with
    | some o => o
    | none => none
theorem op2_idxG {B : Bas} : Op2 B rIxG dIdxG := fun m S H x y d1 d2 d s c r1 r2 e Q q => by
  unfold dIdxG at e
  cases h : dGetO S d1 d2 with
  | some o =>
    rw [h] at e
    simp only at e
    subst e
    obtain ⟨a, r, rfl, _, g, _, h2⟩ := dGet_of s c r1 r2 h
    obtain ⟨z, rfl, rz⟩ := h2 d rfl
    exact ⟨a, z, rfl, g, q_val s c q rz⟩
  | none =>
    rw [h] at e
    simp only at e
    cases h' : kGetO S d1 d2 with
    | none => rw [h'] at e; cases e
    | some o =>
      rw [h'] at e
      simp only at e
      subst e
      obtain ⟨a, r, rfl, _, g, _, h2⟩ := kGet_of s c r1 r2 h'
      obtain ⟨z, rfl, rz⟩ := h2 d rfl
      exact ⟨a, z, rfl, g, q_val s c q rz⟩
def dIdxA (S : Sto) (x y : D) : Option D := match dIdx S x y with
  | some d => some d
  | none => dIdxG S x y
theorem op2_idxA {B : Bas} : Op2 B (fun x y H Q => rIx B.K x y H Q ∨ rIxG x y H Q) dIdxA := fun m S H x y d1 d2 d s c r1 r2 e Q q => by
  unfold dIdxA at e
  cases h : dIdx S d1 d2 with
  | some z => rw [h] at e; cases e; exact .inl (op2_idx m S H x y d1 d2 d s c r1 r2 h Q q)
  | none => rw [h] at e; exact .inr (op2_idxG m S H x y d1 d2 d s c r1 r2 e Q q)
def iZip (r : MA) : MI := fun en S => (r en S).bind fun ds S1 => match ds with
  | [x, y] => match seqL S1 x, seqL S1 y with
    | some xs, some ys => .ok ⟨(xs.zip ys).map fun p => .tup [p.1, p.2], fun S => seqL S x = some xs ∧ seqL S y = some ys⟩ S1
    | _, _ => match seqT x, seqT y with
      | some xs, some ys => .ok ⟨(xs.zip ys).map fun p => .tup [p.1, p.2], fun _ => True⟩ S1
      | _, _ => .bad
  | _ => .bad
def intsL : List D → Option (List Int)
  | [] => some []
  | .int i :: r => (intsL r).map (i :: ·)
  | _ => none
def insI (i : Int) : List Int → List Int
  | [] => [i]
  | j :: r => if i ≤ j then i :: j :: r else j :: insI i r
def sortI : List Int → List Int
  | [] => []
  | i :: r => insI i (sortI r)
def dSortI (S : Sto) : List D → Option D
  | [d] => match seqL S d with
    | some ds => (intsL ds).map fun l => .lst ((sortI l).map .int)
    | none => none
  | _ => none
def sPar3 (i j l : Nat) (r : MA) : MS := fun en S => (r en S).bind fun ds S1 => match ds with
  | [x, y, z] => .ok (.nx (((en.set i (some x)).set j (some y)).set l (some z))) S1
  | _ => .bad
end G
end
section
namespace G
open PySem PySem.Spec PyProof.Rows L2 RZ
def HApart (qs : List (List Key)) : Prop := ∀ w : World, (qs.map fun k => reduceHash (Builtin.Tuple.tupleHashOf (k.map (keyH w)))).Nodup
theorem KT.fst {H : Hp} : ∀ {kvs : List (List Key × V)} {xs : List (List Key × Addr × Value)}, KT H kvs xs → kvs.map (·.1) = xs.map (·.1)
  | _, _, .nil => rfl
  | _, _, .cons h t => by simp only [List.map_cons, h.1, KT.fst t]
open Classical in
noncomputable def dictOfR (S1 : Sto) (x : D) : Res D := match dicOf S1 x with
  | some (ks, ds) => match tkeysD ks with
    | some qs => if HApart qs then .ok (.ref S1.length) (S1 ++ [.dic ks ds]) else .bad
    | none => .bad
  | none => .bad
noncomputable def mDictOf (e : ME) : ME := fun en S => (e en S).bind fun x S1 => dictOfR S1 x
end G
end
section
namespace G
open PySem PySem.Spec PyProof.Rows L2 He
def pAd (K : PySem.W.Frag) (C x : Str) : Addr := match PySem.W.recIn K (ma K (ga K C) x) "property" with
  | some (.ref g :: _) => g
  | _ => 0
def fnWA (K : PySem.W.Frag) (a : Addr) : FnW := match K.lookup a with
  | some ⟨_, _, .func fd, _⟩ => some (fd.name, fd.qualname, fd.params, fd.body, fd.scope, fd.globals, fd.closure, fd.builtins)
  | _ => none
structure GetD where
  c : Str
  x : Str
  d : DefD
def okA (K : PySem.W.Frag) (a : Addr) (d : DefD) : Bool := PySem.W.keepIn K (.ref a) && (match K.lookup a with
  | some ⟨_, _, .func fd, _⟩ => PySem.W.codeIn K fd.code d.qual && (dflB K fd.defaults (d.dvs K) && kwdB K fd.kwdefaults (d.kws K))
  | _ => false)
theorem funD_at {K : PySem.W.Frag} {a : Addr} {d : DefD} (e : fnWA K a = d.val) (c : okA K a d = true) : ∃ fd, FunD K d.name d.qual d.params d.body d.scope (d.dvs K) (d.kws K) a fd := by
  obtain ⟨kp, c2⟩ := ba c
  unfold fnWA at e
  cases q : K.lookup a with
  | none => rw [q] at c2; cases c2
  | some o =>
    obtain ⟨oc, od, dt, osl⟩ := o
    rw [q] at c2 e
    cases dt with
    | func fd =>
      obtain ⟨n1, n2, n3, n4, n5, n6, n7, n8, n9, n10, n11, n12, n13, n14, n15⟩ := fd
      have e2 : (some (n1, n2, n3, n4, n5, n6, n7, n15) : FnW) = some (d.name, d.qual, d.params, .stmts d.body, d.scope, mainGlobals, [], builtinsNs) := e
      simp only [Option.some.injEq, Prod.mk.injEq] at e2
      obtain ⟨h1, h2, h3, h4, h5, h6, h7, h8⟩ := e2
      subst h1 h2 h3 h4 h5 h6 h7 h8
      have c3 : (PySem.W.codeIn K n13 d.qual && (dflB K n8 (d.dvs K) && kwdB K n9 (d.kws K))) = true := c2
      obtain ⟨k1, k2⟩ := ba c3
      obtain ⟨k3, k4⟩ := ba k2
      exact ⟨_, ⟨oc, od, n8, n9, n10, n11, n12, n13, n14, osl, rfl, q, k1, dflB_ok k3, kwdB_ok k4⟩, kp⟩
    | _ => cases c2
def GetD.ok (K : PySem.W.Frag) (g : GetD) : Bool :=
  eqO (PySem.W.findIn K (.ref (ga K g.c)) g.x) (some (some (.ref (ma K (ga K g.c) g.x)))) && (eqO (PySem.W.specialIn K (.ref (ma K (ga K g.c) g.x)) "__get__") (some (some (.builtin "property.__get__"))) &&
    (decide (PySem.W.takesIn K (.ref (ma K (ga K g.c) g.x)) = some true) && ((match PySem.W.recIn K (ma K (ga K g.c) g.x) "property" with
      | some (.ref _ :: _) => true
      | _ => false) && okA K (pAd K g.c g.x) g.d)))
theorem GetD.prop {K : PySem.W.Frag} {g : GetD} (c : g.ok K = true) : PropOf K (ga K g.c) g.x (ma K (ga K g.c) g.x) (pAd K g.c g.x) := by
  obtain ⟨h1, c⟩ := ba c
  obtain ⟨h2, c⟩ := ba c
  obtain ⟨h3, c⟩ := ba c
  obtain ⟨h4, _⟩ := ba c
  refine ⟨eqO_ok h1, eqO_ok h2, of_decide_eq_true h3, ?_⟩
  unfold pAd
  revert h4
  cases PySem.W.recIn K (ma K (ga K g.c) g.x) "property" with
  | none => intro h; cases h
  | some l =>
    cases l with
    | nil => intro h; cases h
    | cons v r =>
      cases v with
      | ref a => intro _; exact ⟨r, rfl⟩
      | _ => intro h; cases h
theorem GetD.fun_ {K : PySem.W.Frag} {g : GetD} (c : g.ok K = true) (e : fnWA K (pAd K g.c g.x) = g.d.val) : ∃ fd, FunD K g.d.name g.d.qual g.d.params g.d.body g.d.scope (g.d.dvs K) (g.d.kws K) (pAd K g.c g.x) fd := by
  obtain ⟨_, c⟩ := ba c
  obtain ⟨_, c⟩ := ba c
  obtain ⟨_, c⟩ := ba c
  obtain ⟨_, c⟩ := ba c
  exact funD_at e c
structure SaysP (fa : List Fa) (fn : List DefD) (gs : List GetD) (ex : PySem.W.Frag → Bool) (K : PySem.W.Frag) : Prop where
  d : SaysD fa fn K
  more : ex K = true
  gok : ∀ g ∈ gs, g.ok K = true
  gfn : gs.map (fun d => fnWA K (pAd K d.c d.x)) = gs.map fun d => d.d.val
theorem SaysP.get {fa : List Fa} {fn : List DefD} {gs : List GetD} {ex : PySem.W.Frag → Bool} {K : PySem.W.Frag} (c : SaysP fa fn gs ex K) (i : Nat) {g : GetD} (h : gs[i]? = some g := by rfl) :
    PropOf K (ga K g.c) g.x (ma K (ga K g.c) g.x) (pAd K g.c g.x) ∧ ∃ fd, FunD K g.d.name g.d.qual g.d.params g.d.body g.d.scope (g.d.dvs K) (g.d.kws K) (pAd K g.c g.x) fd := by
  have hg := c.gok g (List.mem_of_getElem? h)
  refine ⟨GetD.prop hg, GetD.fun_ hg ?_⟩
  have e2 : (gs.map fun d => fnWA K (pAd K d.c d.x))[i]? = (gs.map fun d => d.d.val)[i]? := by rw [c.gfn]
  rw [List.getElem?_map, List.getElem?_map, h] at e2
  exact Option.some.inj e2
end G
end
section
namespace G
open PySem PySem.Spec PyProof.Rows L2
theorem passNoX {X : Cx} : Passes (L2.CX X.prog X.w) X (fun _ _ _ => False) := fun pins σ H s e s' I h => by
  obtain ⟨_, _, _, _, _, _, _, _, _, _, _, _, z⟩ := h
  exact z.elim
def spI1 (C : Addr) (f : Str) : Sp := fun vs H Q _ => ∃ a y, vs = [.ref a, y] ∧ H a = some (exo a C none) ∧ ∀ dx, H dx = none → dx ≠ a → Q .non (upd (upd H dx (exd dx [(f, y)])) a (exo a C (some dx)))
def spI2 (C : Addr) (f g : Str) : Sp := fun vs H Q _ => ∃ a y z, vs = [.ref a, y, z] ∧ H a = some (exo a C none) ∧ ∀ dx, H dx = none → dx ≠ a → Q .non (upd (upd (upd H dx (exd dx [(f, y)])) a (exo a C (some dx))) dx (exd dx [(g, z), (f, y)]))
section
variable {P : Program} {w : World} {K : PySem.W.Frag} {mg : Str → Option Value} {base : Heap} {x qual : Str} {st : Stmt} {fI : Addr} {fd : FuncData} {C : Addr} {f g : Str} {N ps : List Str} {k : Nat}
theorem init1_ok (F : Fun K x qual st fI fd) (S : FnScope N ps (defScope st)) (hp : ps.length = 2) (T : OexC K C) (hno : PySem.W.findIn K (.ref C) f = some none) (hN : 2 ≤ N.length)
    (hb : ∀ (cdv : Value) (A : Around) (outer : List Env) (s : Shared) (H : Hp) (E : XK), PSs (cxOf (L2.CX P w) P w K mg base N qual (defScope st) fI cdv A outer s H E) (defBody st) (tOst K f (tVar 0) (tVar 1))) :
    FnOk P w K mg base (L2.CX P w) (k + 1) fI fd ps (spI1 C f) := by
  refine F.okX S (fun vs H Q E h => ?_) fun cdv A outer s H vs Q E hr h => ⟨_, hb cdv A outer s H E, ?_⟩
  · obtain ⟨a, y, rfl, _⟩ := h
    rw [hp]; rfl
  · obtain ⟨a, y, rfl, ha, q⟩ := h
    obtain ⟨n1, n2, N', rfl⟩ : ∃ n1 n2 N', N = n1 :: n2 :: N' := by
      match N, hN with
      | n1 :: n2 :: N', _ => exact ⟨n1, n2, N', rfl⟩
    refine ⟨y, rfl, .ref a, rfl, a, C, rfl, T, hno, .inl ⟨ha, fun dx h1 h2 => q dx h1 h2⟩⟩
theorem init2_ok (F : Fun K x qual st fI fd) (S : FnScope N ps (defScope st)) (hp : ps.length = 3) (T : OexC K C) (hno : PySem.W.findIn K (.ref C) f = some none) (hno2 : PySem.W.findIn K (.ref C) g = some none) (hN : 3 ≤ N.length)
    (hb : ∀ (cdv : Value) (A : Around) (outer : List Env) (s : Shared) (H : Hp) (E : XK), PSs (cxOf (L2.CX P w) P w K mg base N qual (defScope st) fI cdv A outer s H E) (defBody st) (tSeq (tOst K f (tVar 0) (tVar 1)) (tOst K g (tVar 0) (tVar 2)))) :
    FnOk P w K mg base (L2.CX P w) (k + 1) fI fd ps (spI2 C f g) := by
  refine F.okX S (fun vs H Q E h => ?_) fun cdv A outer s H vs Q E hr h => ⟨_, hb cdv A outer s H E, ?_⟩
  · obtain ⟨a, y, z, rfl, _⟩ := h
    rw [hp]; rfl
  · obtain ⟨a, y, z, rfl, ha, q⟩ := h
    obtain ⟨n1, n2, n3, N', rfl⟩ : ∃ n1 n2 n3 N', N = n1 :: n2 :: n3 :: N' := by
      match N, hN with
      | n1 :: n2 :: n3 :: N', _ => exact ⟨n1, n2, n3, N', rfl⟩
    refine ⟨y, rfl, .ref a, rfl, a, C, rfl, T, hno, .inl ⟨ha, fun dx h1 h2 => ?_⟩⟩
    refine ⟨z, rfl, .ref a, rfl, a, C, rfl, T, hno2, .inr ⟨dx, [(f, y)], upd_same, ?_, by simp, q dx h1 h2⟩⟩
    rw [upd_ne h2, upd_same]
end
def sRaise (c : Nat) (ns : List Str) (r : MA) : MS := fun en S => (r en S).bind fun ds S1 => if ds.length = ns.length then .ex c ns ds.reverse S1 else .bad
def CalE1 (P : Program) (w : World) (K : PySem.W.Frag) (mg : Str → Option Value) (base : Heap) (B : Bas) (x : Str) (c k : Nat) (f : Str) : Prop :=
  ∃ (fI : Addr) (fd : FuncData) (ps : List Str), FnOk P w K mg base (L2.CX P w) k fI fd ps (spI1 (B.cls c) f) ∧ OexC K (B.cls c) ∧ PySem.W.findIn K (.ref (B.cls c)) "__init__" = some (some (.ref fI)) ∧ PySem.W.typeIn K (.ref fI) = some (.type "function") ∧ Binds K fd ps [] ∧ mg x = some (.ref (B.cls c))
def CalE2 (P : Program) (w : World) (K : PySem.W.Frag) (mg : Str → Option Value) (base : Heap) (B : Bas) (x : Str) (c k : Nat) (f g : Str) : Prop :=
  ∃ (fI : Addr) (fd : FuncData) (ps : List Str), FnOk P w K mg base (L2.CX P w) k fI fd ps (spI2 (B.cls c) f g) ∧ OexC K (B.cls c) ∧ PySem.W.findIn K (.ref (B.cls c)) "__init__" = some (some (.ref fI)) ∧ PySem.W.typeIn K (.ref fI) = some (.type "function") ∧ Binds K fd ps [] ∧ mg x = some (.ref (B.cls c))
section
variable {X : Cx} {B : Bas} {W : WX} {e e2 : Expr} {x f g : Str} {p pos rpos : Pos} {mr : MA} {c k j : Nat}
end
def CalE0 (K : PySem.W.Frag) (mg : Str → Option Value) (B : Bas) (x : Str) (c : Nat) : Prop := PySem.W.excIn K (B.cls c) He.veBase "ValueError.__new__" = true ∧ PySem.W.keepIn K (.ref (B.cls c)) = true ∧ PySem.W.subIn K (.ref (B.cls c)) (.type "BaseException") = some true ∧
    PySem.W.typeIn K (.ref (B.cls c)) = some (.type "type") ∧ mg x = some (.ref (B.cls c))
end G
namespace G
open PySem PySem.Spec PyProof.Rows L2 He
def oexB (K : PySem.W.Frag) (C : Addr) : Bool := (match K.lookup C with
  | some ⟨.type "type", _, .cls cd, sl⟩ => (match cd.mro, sl.toList with
    | .ref C' :: bm, [_, _, _, _, some (.builtin n), _] => C' == C && (n == "ValueError.__new__" && (!cd.hasDel && (cd.hasDict && PySem.HandSPX.refsVE bm)))
    | _, _ => false)
  | _ => false) && (eqO (PySem.W.findIn K (.ref C) "__setattr__") (some (some (.builtin "object.__setattr__"))) && (decide (PySem.W.subIn K (.ref C) (.type "BaseException") = some true) && (decide (PySem.W.typeIn K (.ref C) = some (.type "type")) && PySem.W.keepIn K (.ref C))))
theorem oexB_ok {K : PySem.W.Frag} {C : Addr} (h : oexB K C = true) : OexC K C := by
  unfold oexB at h
  obtain ⟨q, h⟩ := ba h
  obtain ⟨h1, h⟩ := ba h
  obtain ⟨h2, h⟩ := ba h
  obtain ⟨h3, h4⟩ := ba h
  refine ⟨?_, eqO_ok h1, of_decide_eq_true h2, of_decide_eq_true h3, h4⟩
  split at q
  · rename_i dd cd sl ho
    split at q
    · rename_i C' bm k0 k1 k2 k3 n k5 hm hs
      simp only [Bool.and_eq_true, beq_iff_eq, Bool.not_eq_true'] at q
      obtain ⟨rfl, rfl, hdel, hdict, hb⟩ := q
      obtain ⟨nm, bs, mro, ns, qn, hd, sn, sub, ab, col, del⟩ := cd
      dsimp only at hm hdel hdict
      subst hm hdel hdict
      have hsl : sl = #[k0, k1, k2, k3, some (.builtin "ValueError.__new__"), k5] := by
        obtain ⟨l⟩ := sl
        simp only at hs
        rw [hs]
      subst hsl
      exact ⟨nm, qn, ns, bs, bm, sn, sub, ab, col, dd, k0, k1, k2, k3, k5, ho, hb⟩
    · cases q
  · cases q
def iniB (K : PySem.W.Frag) (x : Str) : Bool := oexB K (ga K x) && (eqO (PySem.W.findIn K (.ref (ga K x)) "__init__") (some (some (.ref (ma K (ga K x) "__init__")))) && decide (PySem.W.typeIn K (.ref (ma K (ga K x) "__init__")) = some (.type "function")))
theorem iniB_ok {K : PySem.W.Frag} {x : Str} (h : iniB K x = true) : OexC K (ga K x) ∧ PySem.W.findIn K (.ref (ga K x)) "__init__" = some (some (.ref (ma K (ga K x) "__init__"))) ∧ PySem.W.typeIn K (.ref (ma K (ga K x) "__init__")) = some (.type "function") := by
  obtain ⟨h1, h⟩ := ba h
  obtain ⟨h2, h3⟩ := ba h
  exact ⟨oexB_ok h1, eqO_ok h2, of_decide_eq_true h3⟩
end G
end
section
namespace G
open PySem L2
theorem hu1 {A : Around} {k : Nat} (hr : Room k A) : A.units + 1 < cLine := by have := hr.un; omega
end G
end
section
namespace G
open PySem L2
def dispK (ss : List Str) (ds : List D) (S : Sto) : Res D := .ok (.ref S.length) (S ++ [.dic (ss.map .str) ds])
def dispDK (ss : List Str) (ds : List D) (S : Sto) : Res D := .ok (.dic (ss.map .str) ds) S
theorem mDisp_ap (ss : List Str) (r : MA) (en : En) (S : Sto) : mDisp ss r en S = (r en S).bind (dispK ss) := rfl
theorem mDispD_ap (ss : List Str) (r : MA) (en : En) (S : Sto) : mDispD ss r en S = (r en S).bind (dispDK ss) := rfl
theorem dispK_ap (ss : List Str) (ds : List D) (S : Sto) : dispK ss ds S = .ok (.ref S.length) (S ++ [.dic (ss.map .str) ds]) := rfl
theorem dispDK_ap (ss : List Str) (ds : List D) (S : Sto) : dispDK ss ds S = .ok (.dic (ss.map .str) ds) S := rfl
theorem mDEmp_ap (en : En) (S : Sto) : mDEmp en S = .ok (.dic [] []) S := rfl
theorem mDNew_ap (en : En) (S : Sto) : mDNew en S = .ok (.ref S.length) (S ++ [.dic [] []]) := rfl
noncomputable def dictK (x : D) (S : Sto) : Res D := dictOfR S x
theorem mDictOf_ap (e : ME) (en : En) (S : Sto) : mDictOf e en S = (e en S).bind dictK := rfl
theorem dicOf_dic (S : Sto) (ks ds : List D) : dicOf S (.dic ks ds) = some (ks, ds) := rfl
def dicO (o : Option Ob) : Option (List D × List D) := match o with
  | some (.dic ks ds) => some (ks, ds)
  | _ => none
theorem dicO_dic (ks ds : List D) : dicO (some (.dic ks ds)) = some (ks, ds) := rfl
def g2K3 (x y w : D) (S : Sto) : Res D := match dGetO S x y with
  | some (some d) => .ok d S
  | some none => .ok w S
  | none => .bad
def g2K2 (x y : D) (w : D) (S : Sto) : Res D := g2K3 x y w S
def g2K1 (z : ME) (en : En) (x y : D) (S : Sto) : Res D := (z en S).bind (g2K2 x y)
def g2K0 (b z : ME) (en : En) (x : D) (S : Sto) : Res D := match dicOf S x with
  | some (ks, _) => match tkeysD ks with
    | some _ => (b en S).bind (g2K1 z en x)
    | none => .bad
  | none => .bad
theorem mDGet2_ap (a b z : ME) (en : En) (S : Sto) : mDGet2 a b z en S = (a en S).bind (g2K0 b z en) := rfl
theorem g2K0_emp (b z : ME) (en : En) (S : Sto) : g2K0 b z en (.dic [] []) S = (b en S).bind (g2K1 z en (.dic [] [])) := rfl
theorem g2K1_ap (z : ME) (en : En) (x y : D) (S : Sto) : g2K1 z en x y S = (z en S).bind (g2K2 x y) := rfl
theorem g2K2_ap (x y w : D) (S : Sto) : g2K2 x y w S = g2K3 x y w S := rfl
noncomputable def dcK1 (g : MG) (t : MT) (k v : ME) (en : En) (its : Its) (S : Sto) : Res (List D × List D) := dcomp g t k v its.P en its.ds ([], []) S
def dcK2 (acc : List D × List D) (S : Sto) : Res D := .ok (.ref S.length) (S ++ [.dic acc.1 acc.2])
noncomputable def dcK0 (g : MG) (t : MT) (k v : ME) (en : En) (its : Its) (S : Sto) : Res D := (dcK1 g t k v en its S).bind dcK2
theorem mDcN_ap (i : MI) (g : MG) (t : MT) (k v : ME) (vs : List Nat) (en : En) (S : Sto) : mDcN i g t k v vs en S = (i en S).bind (dcK0 g t k v (wipeE en vs)) := rfl
theorem dcK0_ap (g : MG) (t : MT) (k v : ME) (en : En) (ds : List D) (P : Sto → Prop) (S : Sto) : dcK0 g t k v en ⟨ds, P⟩ S = (dcomp g t k v P en ds ([], []) S).bind dcK2 := rfl
theorem dcK2_ap (a b : List D) (S : Sto) : dcK2 (a, b) S = .ok (.ref S.length) (S ++ [.dic a b]) := rfl
def kpK3 (en : En) (d x y : D) (S : Sto) : Res Fl := match x, keyD y with
  | .ref i, some k => match S[i]? with
    | some (.dic ks ds) => match keysD ks with
      | some qs => if ks.isEmpty = false ∧ ks.length < sizeLine then .ok (.nx en) (S.set i (putKD ks qs ds y k d)) else .bad
      | none => .bad
    | _ => .bad
  | _, _ => .bad
def kpK2 (k : ME) (en : En) (d x : D) (S : Sto) : Res Fl := (k en S).bind (kpK3 en d x)
def kpK1 (o k : ME) (en : En) (d : D) (S : Sto) : Res Fl := (o en S).bind (kpK2 k en d)
theorem sKPutS_ap (o k e : ME) (en : En) (S : Sto) : sKPutS o k e en S = (e en S).bind (kpK1 o k en) := rfl
theorem kpK1_ap (o k : ME) (en : En) (d : D) (S : Sto) : kpK1 o k en d S = (o en S).bind (kpK2 k en d) := rfl
theorem kpK2_ap (k : ME) (en : En) (d x : D) (S : Sto) : kpK2 k en d x S = (k en S).bind (kpK3 en d x) := rfl
def dpK3 (en : En) (d x y : D) (S : Sto) : Res Fl := match x, tkeyD y with
  | .ref i, some k => match S[i]? with
    | some (.dic ks ds) => match tkeysD ks with
      | some qs => if ks.length < sizeLine then .ok (.nx en) (S.set i (putT ks qs ds y k d)) else .bad
      | none => .bad
    | _ => .bad
  | _, _ => .bad
def dpK2 (k : ME) (en : En) (d x : D) (S : Sto) : Res Fl := (k en S).bind (dpK3 en d x)
def dpK1 (o k : ME) (en : En) (d : D) (S : Sto) : Res Fl := (o en S).bind (dpK2 k en d)
theorem sDPutS_ap (o k e : ME) (en : En) (S : Sto) : sDPutS o k e en S = (e en S).bind (dpK1 o k en) := rfl
theorem dpK1_ap (o k : ME) (en : En) (d : D) (S : Sto) : dpK1 o k en d S = (o en S).bind (dpK2 k en d) := rfl
theorem dpK2_ap (k : ME) (en : En) (d x : D) (S : Sto) : dpK2 k en d x S = (k en S).bind (dpK3 en d x) := rfl
def propK (c : Nat) (F : Fn) (d : D) (S : Sto) : Res D := match insOf S d with
  | some (c', _, _) => if c' = c ∧ F.n = 1 then (F.run [d] S).noex else .bad
  | none => .bad
theorem mProp_ap (c : Nat) (F : Fn) (e : ME) (en : En) (S : Sto) : mProp c F e en S = (e en S).bind (propK c F) := rfl
def fldO (f : Str) (ns : List Str) (ds : List D) (S : Sto) : Res D := match lookF f ns ds with
  | some x => .ok x S
  | none => .bad
theorem fldO_hd (f : Str) (ns : List Str) (d : D) (ds : List D) (S : Sto) : fldO f (f :: ns) (d :: ds) S = .ok d S := by
  unfold fldO
  rw [lookF, if_pos rfl]
def methK2 (F : Fn) (d : D) (ds : List D) (S : Sto) : Res D := if ds.length + 1 = F.n then F.run (d :: ds) S else .bad
def methK (c : Nat) (x : Str) (F : Fn) (r : MA) (en : En) (d : D) (S : Sto) : Res D := match insOf S d with
  | some (c', ns, _) => if c' = c ∧ x ∉ ns then (r en S).bind (methK2 F d) else .bad
  | none => .bad
theorem mMeth_ap (c : Nat) (x : Str) (F : Fn) (e : ME) (r : MA) (en : En) (S : Sto) : mMeth c x F e r en S = (e en S).bind (methK c x F r en) := rfl
noncomputable def makeK (c : Nat) (F : Fn) (ds : List D) (S : Sto) : Res D := (mkR c F ds S).frz S
theorem mMake_ap (c : Nat) (F : Fn) (r : MA) (en : En) (S : Sto) : mMake c F r en S = (r en S).bind (makeK c F) := rfl
def fsK1 (cs : List Nat) (f : Str) (en : En) (d x : D) (S : Sto) : Res Fl := match x with
  | .ref i => match S[i]? with
    | some (.ins c ns ds) => if c ∈ cs ∧ ns.length < 1000 then .ok (.nx en) (S.set i (.ins c (putN f ns) (putD f d ns ds))) else .bad
    | _ => .bad
  | _ => .bad
def fsK0 (cs : List Nat) (f : Str) (o : ME) (en : En) (d : D) (S : Sto) : Res Fl := (o en S).bind (fsK1 cs f en d)
theorem sFldS_ap (cs : List Nat) (f : Str) (o e : ME) (en : En) (S : Sto) : sFldS cs f o e en S = (e en S).bind (fsK0 cs f o en) := rfl
theorem fsK0_ap (cs : List Nat) (f : Str) (o : ME) (en : En) (d : D) (S : Sto) : fsK0 cs f o en d S = (o en S).bind (fsK1 cs f en d) := rfl
def enumK (d : D) (S : Sto) : Res Its := match seqL S d, seqT d with
  | some ds, _ => .ok ⟨enumD 0 ds, fun S => seqL S d = some ds⟩ S
  | none, some ds => .ok ⟨enumD 0 ds, fun _ => True⟩ S
  | none, none => .bad
theorem iEnum_ap (e : ME) (en : En) (S : Sto) : iEnum e en S = (e en S).bind enumK := rfl
theorem enumK_tup (ds : List D) (S : Sto) : enumK (.tup ds) S = .ok ⟨enumD 0 ds, fun _ => True⟩ S := rfl
theorem enumK_lst (ds : List D) (S : Sto) : enumK (.lst ds) S = .ok ⟨enumD 0 ds, fun _ => True⟩ S := by
  unfold enumK
  simp only [seqL]
def zipK (ds : List D) (S1 : Sto) : Res Its := match ds with
  | [x, y] => match seqL S1 x, seqL S1 y with
    | some xs, some ys => .ok ⟨(xs.zip ys).map fun p => .tup [p.1, p.2], fun S => seqL S x = some xs ∧ seqL S y = some ys⟩ S1
    | _, _ => match seqT x, seqT y with
      | some xs, some ys => .ok ⟨(xs.zip ys).map fun p => .tup [p.1, p.2], fun _ => True⟩ S1
      | _, _ => .bad
  | _ => .bad
theorem iZip_ap (r : MA) (en : En) (S : Sto) : iZip r en S = (r en S).bind zipK := rfl
theorem zipK_tup (xs ys : List D) (S : Sto) : zipK [.tup xs, .tup ys] S = .ok ⟨(xs.zip ys).map fun p => .tup [p.1, p.2], fun _ => True⟩ S := rfl
def chK4 (g' : Sto → D → D → Option D) (y z : D) (S : Sto) : Res D := optR (g' S y z) S
def chK3 (g' : Sto → D → D → Option D) (c : ME) (en : En) (y : D) (o : Option D) (S : Sto) : Res D := match o with
  | some (.bl true) => (c en S).bind (chK4 g' y)
  | some (.bl false) => .ok (.bl false) S
  | _ => .bad
def chK2 (g g' : Sto → D → D → Option D) (c : ME) (en : En) (x y : D) (S : Sto) : Res D := chK3 g' c en y (g S x y) S
def chK1 (g g' : Sto → D → D → Option D) (b c : ME) (en : En) (x : D) (S : Sto) : Res D := (b en S).bind (chK2 g g' c en x)
theorem chK1_ap (g g' : Sto → D → D → Option D) (b c : ME) (en : En) (x : D) (S : Sto) : chK1 g g' b c en x S = (b en S).bind (chK2 g g' c en x) := rfl
theorem chK2_ap (g g' : Sto → D → D → Option D) (c : ME) (en : En) (x y : D) (S : Sto) : chK2 g g' c en x y S = chK3 g' c en y (g S x y) S := rfl
theorem chK3_t (g' : Sto → D → D → Option D) (c : ME) (en : En) (y : D) (S : Sto) : chK3 g' c en y (some (.bl true)) S = (c en S).bind (chK4 g' y) := rfl
theorem chK3_f (g' : Sto → D → D → Option D) (c : ME) (en : En) (y : D) (S : Sto) : chK3 g' c en y (some (.bl false)) S = .ok (.bl false) S := rfl
theorem chK4_ap (g' : Sto → D → D → Option D) (y z : D) (S : Sto) : chK4 g' y z S = optR (g' S y z) S := rfl
def par3K (i j l : Nat) (en : En) (ds : List D) (S : Sto) : Res Fl := match ds with
  | [x, y, z] => .ok (.nx (((en.set i (some x)).set j (some y)).set l (some z))) S
  | _ => .bad
theorem sPar3_ap (i j l : Nat) (r : MA) (en : En) (S : Sto) : sPar3 i j l r en S = (r en S).bind (par3K i j l en) := rfl
theorem par3K_ap (i j l : Nat) (en : En) (x y z : D) (S : Sto) : par3K i j l en [x, y, z] S = .ok (.nx (((en.set i (some x)).set j (some y)).set l (some z))) S := rfl
def raiK (c : Nat) (ns : List Str) (ds : List D) (S : Sto) : Res Fl := if ds.length = ns.length then .ex c ns ds.reverse S else .bad
theorem sRaise_ap (c : Nat) (ns : List Str) (r : MA) (en : En) (S : Sto) : sRaise c ns r en S = (r en S).bind (raiK c ns) := rfl
theorem frzF_run (F : Fn) (ds : List D) (S : Sto) : (frzF F).run ds S = (F.run ds S).frz S := rfl
theorem frzF_n (F : Fn) : (frzF F).n = F.n := rfl
open Classical in
theorem drop_ok {S S' : Sto} {d : D} (h1 : Cl S S') (h2 : d.bel S.length) : (Res.ok d S').drop S = .ok d (S'.take S.length) := by
  show (if Cl S S' ∧ D.bel S.length d then Res.ok d (S'.take S.length) else Res.bad) = _
  rw [if_pos ⟨h1, h2⟩]
theorem drop_app {S T : Sto} {d : D} (h : d.bel S.length) : (Res.ok d (S ++ T)).drop S = .ok d S := by
  rw [drop_ok (Cl.app _ _) h]
  simp
theorem getA {S T : Sto} {n : Nat} (h : S.length = n) : (S ++ T)[n]? = T[0]? := by
  rw [← h, List.getElem?_append_right (Nat.le_refl _), Nat.sub_self]
theorem setA {S T : Sto} {n : Nat} {o : Ob} (h : S.length = n) : (S ++ T).set n o = S ++ T.set 0 o := by
  rw [← h, List.set_append_right _ _ (Nat.le_refl _), Nat.sub_self]
theorem setB {S T : Sto} {i : Nat} {o : Ob} (h : i < S.length) : (S ++ T).set i o = S.set i o ++ T := List.set_append_left _ _ h
theorem dIdxA_idx {S : Sto} {x y d : D} (h : dIdx S x y = some d) : dIdxA S x y = some d := by
  unfold dIdxA
  rw [h]
theorem dIdxA_lst (S : Sto) (ds : List D) (i : Int) : dIdxA S (.lst ds) (.int i) = atI ds i := by
  unfold dIdxA
  rw [dIdx_lst]
  cases atI ds i with
  | some d => rfl
  | none => simp [dIdxG, dGetO, kGetO, dicOf]
theorem tkey2 (a b : Int) : tkeyD (.tup [.int a, .int b]) = some [.inl a, .inl b] := rfl
theorem noex_ok' {α : Type} (a : α) (S : Sto) : (Res.ok a S).noex = .ok a S := rfl
end G
end
section
namespace G
open PySem L2
theorem comp_map {α : Type} {g : MG} {t : MT} {e : ME} {en : En} {S : Sto} {f0 f : α → D} {p : α → Bool} : ∀ (l : List α) (acc : List D),
    (∀ a ∈ l, ∃ en1, g (f0 a) en = some en1 ∧ t en1 S = .ok (p a) S ∧ (p a = true → e en1 S = .ok (f a) S)) → acc.length + l.length ≤ 1000000 →
    comp g t e (fun _ => True) en (l.map f0) acc S = .ok (acc ++ (l.filter p).map f) S
  | [], acc, _, _ => by rw [List.map_nil, comp_nil_ap]; simp
  | a :: l, acc, h, hl => by
    obtain ⟨en1, h1, h2, h3⟩ := h a (by simp)
    rw [List.map_cons, comp_cons_ap, h1, cK0_some, h2]
    simp only [noex_ok, Res.bind_ok]
    simp only [List.length_cons] at hl
    cases hp : p a with
    | false =>
      rw [cK1_f, comp_map l acc (fun x hx => h x (by simp [hx])) (by omega), List.filter_cons_of_neg (by simp [hp])]
    | true =>
      rw [cK1_t, h3 hp]
      simp only [noex_ok, Res.bind_ok]
      rw [cK2_ap (by omega), comp_map l (acc ++ [f a]) (fun x hx => h x (by simp [hx])) (by simp; omega), List.filter_cons_of_pos hp]
      simp
theorem comp_all {α : Type} {g : MG} {e : ME} {en : En} {S : Sto} {f0 f : α → D} (l : List α) (h : ∀ a ∈ l, ∃ en1, g (f0 a) en = some en1 ∧ e en1 S = .ok (f a) S) (hl : l.length ≤ 1000000) :
    comp g tYesM e (fun _ => True) en (l.map f0) [] S = .ok (l.map f) S := by
  rw [comp_map (p := fun _ => true) (f := f) l [] (fun a ha => by obtain ⟨en1, h1, h2⟩ := h a ha; exact ⟨en1, h1, rfl, fun _ => h2⟩) (by simpa using hl)]
  rw [List.nil_append, List.filter_eq_self.mpr (fun _ _ => rfl)]
theorem Wp_for {α : Type} {g : MG} {b : MS} {f0 : α → D} {l : List α} {en : En} {S : Sto} {Q : Fl → Sto → Prop} (I : List α → En → Sto → Prop) (h0 : I [] en S)
    (turn : ∀ (pre : List α) (a : α) (suf : List α) (en : En) (S : Sto), l = pre ++ a :: suf → I pre en S → ∃ en1, g (f0 a) en = some en1 ∧ Wp (b en1 S) fun f S1 => match f with
      | .nx en2 => I (pre ++ [a]) en2 S1
      | .ct en2 => I (pre ++ [a]) en2 S1
      | .bk en2 => Q (.nx en2) S1
      | .rt d => Q (.rt d) S1)
    (done : ∀ en S, I l en S → Q (.nx en) S) : Wp (loop g b (fun _ => True) (l.map f0) en S) Q := by
  have key : ∀ (suf pre : List α) (en : En) (S : Sto), l = pre ++ suf → I pre en S → Wp (loop g b (fun _ => True) (suf.map f0) en S) Q := by
    intro suf
    induction suf with
    | nil =>
      intro pre en S hl h
      rw [List.map_nil, loop_nil]
      refine done en S ?_
      rw [hl, List.append_nil]
      exact h
    | cons a suf ih =>
      intro pre en S hl h
      rw [List.map_cons, loop_cons]
      obtain ⟨en1, e1, w⟩ := turn pre a suf en S hl h
      rw [e1, stepR_some, Wp_bind]
      refine w.mono fun f S1 q => ?_
      cases f with
      | nx en2 => exact ih (pre ++ [a]) en2 S1 (by simp [hl]) q
      | ct en2 => exact ih (pre ++ [a]) en2 S1 (by simp [hl]) q
      | bk en2 => exact q
      | rt d => exact q
  exact key l [] en S rfl h0
theorem rangeD_map (n : Nat) : rangeD 0 n = (List.range n).map fun k => D.int (k : Nat) := by
  unfold rangeD
  refine List.map_congr_left fun k _ => ?_
  rw [Int.zero_add]
theorem getA0 (S T : Sto) : (S ++ T)[S.length]? = T[0]? := getA rfl
theorem setA0 (S T : Sto) (o : Ob) : (S ++ T).set S.length o = S ++ T.set 0 o := setA rfl
theorem lenA (S T : Sto) : (S ++ T).length = S.length + T.length := List.length_append
theorem appA (S T U : Sto) : (S ++ T) ++ U = S ++ (T ++ U) := List.append_assoc _ _ _
end G
end
section
namespace G
open PySem L2
end G
end
section
namespace G
open PySem L2 PyProof.Rows PySem.W
section
variable {X : Cx}
end
structure SortOkL (ks : List NK) : Prop where
  few : ks.length ≤ 1000
  form : FormK ks
  ok : ∀ k ∈ ks, k.data.canLay0 = true
  dp : ∀ k ∈ ks, k.data.depth ≤ 8 ∧ k.depth ≤ 8
  cmp : CmpK ks
  once : ks.Nodup
open Classical in
noncomputable def dSortL (S : Sto) : List D → Option D
  | [x] => match seqA S x with
    | some ds => match nkDs ds with
      | some ks => if SortOkL ks then some (.lst (dOfs (sortK ks))) else none
      | none => none
    | none => none
  | _ => none
section
variable {P : Program} {w : World} {A : Around} {E : Value → Shared → Prop} {s : Shared}
end
def dSort1 (S : Sto) : List D → Option D
  | [x] => match seqA S x with
    | some ds => if ds.length ≤ 1 then some (.lst ds) else none
    | none => none
  | _ => none
noncomputable def dSortA (S : Sto) (xs : List D) : Option D := match dSortI S xs with
  | some d => some d
  | none => match dSortL S xs with
    | some d => some d
    | none => dSort1 S xs
end G
end
section
namespace G
open PySem L2 PyProof.Rows
section
variable {X : Cx}
end
def mLenO (c : Nat) (F : Fn) (e : ME) : ME := fun en S => (e en S).bind fun d S1 => match insOf S1 d with
  | some (c', _, _) => if c' = c ∧ F.n = 1 then ((F.run [d] S1).noex).bind fun z S2 => (match z with
      | .int k => if 0 ≤ k ∧ k < 1000000000 then .ok (.int k) S2 else .bad
      | _ => .bad)
    else .bad
  | none => .bad
def lenK2 (z : D) (S : Sto) : Res D := match z with
  | .int k => if 0 ≤ k ∧ k < 1000000000 then .ok (.int k) S else .bad
  | _ => .bad
def lenK (c : Nat) (F : Fn) (d : D) (S : Sto) : Res D := match insOf S d with
  | some (c', _, _) => if c' = c ∧ F.n = 1 then ((F.run [d] S).noex).bind lenK2 else .bad
  | none => .bad
theorem mLenO_ap (c : Nat) (F : Fn) (e : ME) (en : En) (S : Sto) : mLenO c F e en S = (e en S).bind (lenK c F) := rfl
end G
end
section
namespace G
open PySem L2 PyProof.Rows
def rgAt (i j : Int) : Prop := RgOk i j
open Classical in
noncomputable def rgLR (i j : Int) (S : Sto) : Res D := if rgAt i j then .ok (.lst (rangeD i (j - i).toNat)) S else .bad
noncomputable def rgK1 (g : Int → Int → Sto → Res D) (d : D) (S : Sto) : Res D := match d with
  | .int j => g 0 j S
  | _ => .bad
noncomputable def mRg1 (g : Int → Int → Sto → Res D) (a : ME) : ME := fun en S => (a en S).bind (rgK1 g)
noncomputable def rgK2 (g : Int → Int → Sto → Res D) (x : D) (y : D) (S : Sto) : Res D := match x, y with
  | .int i, .int j => g i j S
  | _, _ => .bad
noncomputable def rgK2a (g : Int → Int → Sto → Res D) (b : ME) (en : En) (x : D) (S : Sto) : Res D := (b en S).bind (rgK2 g x)
noncomputable def mRg2 (g : Int → Int → Sto → Res D) (a b : ME) : ME := fun en S => (a en S).bind (rgK2a g b en)
section
variable {X : Cx} {B : Bas} {W : WX} {a b : Expr} {p p2 pos pos2 : Pos} {ma mb : ME}
end
theorem mRg1_ap (g : Int → Int → Sto → Res D) (a : ME) (en : En) (S : Sto) : mRg1 g a en S = (a en S).bind (rgK1 g) := rfl
theorem mRg2_ap (g : Int → Int → Sto → Res D) (a b : ME) (en : En) (S : Sto) : mRg2 g a b en S = (a en S).bind (rgK2a g b en) := rfl
theorem rgK2a_ap (g : Int → Int → Sto → Res D) (b : ME) (en : En) (x : D) (S : Sto) : rgK2a g b en x S = (b en S).bind (rgK2 g x) := rfl
section
variable {X : Cx}
end
def cmpOK3 (z : D) (S : Sto) : Res D := match z with
  | .bl k => .ok (.bl k) S
  | _ => .bad
noncomputable def cmpOK2 (c : Nat) (F : Fn) (x y : D) (S : Sto) : Res D := match insOf S x, insOf S y with
  | some (c1, _, _), some (c2, _, _) => if c1 = c ∧ c2 = c ∧ F.n = 2 then ((F.run [x, y] S).noex).bind cmpOK3 else .bad
  | _, _ => .bad
noncomputable def cmpOK1 (c : Nat) (F : Fn) (b : ME) (en : En) (x : D) (S : Sto) : Res D := (b en S).bind (cmpOK2 c F x)
noncomputable def mCmpO (c : Nat) (F : Fn) (a b : ME) : ME := fun en S => (a en S).bind (cmpOK1 c F b en)
section
variable {X : Cx} {B : Bas} {W : WX} {a b : Expr} {pos : Pos} {ma mb : ME} {c k j : Nat} {F : Fn} {x : Str}
end
theorem mCmpO_ap (c : Nat) (F : Fn) (a b : ME) (en : En) (S : Sto) : mCmpO c F a b en S = (a en S).bind (cmpOK1 c F b en) := rfl
theorem cmpOK1_ap (c : Nat) (F : Fn) (b : ME) (en : En) (x : D) (S : Sto) : cmpOK1 c F b en x S = (b en S).bind (cmpOK2 c F x) := rfl
def tyNames : List String := ["NoneType", "bool", "int", "str", "tuple", "list", "dict"]
structure IsiK (K : PySem.W.Frag) (C : Addr) : Prop where
  cl : Cls K C
  ha : PySem.W.findIn K (.ref C) "__class__" = some (some (.builtin "object.__class__"))
  hn : PySem.W.specialIn K (.builtin "object.__class__") "__get__" = some (some (.builtin "getset_descriptor.__get__"))
  htk : PySem.W.takesIn K (.builtin "object.__class__") = some true
  hm : PySem.W.mroIn K C (.type "object") = some true
def dIsiO (c : Nat) (cs : List Nat) (S : Sto) (x : D) : Option D := match insOf S x with
  | some (c', _, _) => if c' ∈ cs then some (.bl (decide (c' = c))) else none
  | none => match tyN S x with
    | some n => if n ∈ tyNames then some (.bl false) else none
    | none => none
def isiOK (c : Nat) (cs : List Nat) (x : D) (S : Sto) : Res D := match dIsiO c cs S x with
  | some d => .ok d S
  | none => .bad
def mIsiO (c : Nat) (cs : List Nat) (a : ME) : ME := fun en S => (a en S).bind (isiOK c cs)
theorem mIsiO_ap (c : Nat) (cs : List Nat) (a : ME) (en : En) (S : Sto) : mIsiO c cs a en S = (a en S).bind (isiOK c cs) := rfl
end G
end
section
namespace G
open PySem L2
end G
end
section
namespace G
open PySem L2
def listNK (x : D) (S : Sto) : Res D := match seqL S x, seqT x with
  | some ds, _ => .ok (.ref S.length) (S ++ [.lst ds])
  | none, some ds => .ok (.ref S.length) (S ++ [.lst ds])
  | none, none => .bad
def mListN (a : ME) : ME := fun en S => (a en S).bind listNK
theorem mListN_ap (a : ME) (en : En) (S : Sto) : mListN a en S = (a en S).bind listNK := rfl
end G
end
section
namespace G
open PySem L2
end G
end
section
namespace G
open PySem L2 PyProof.Rows
section
variable {X : Cx}
end
end G
end
section
namespace G
open PySem PySem.Spec PyProof.Rows L2 RZ
section
variable {X : Cx}
end
def disp1K (y d : D) (S : Sto) : Res D := match tkeyD y with
  | some _ => .ok (.ref S.length) (S ++ [.dic [y] [d]])
  | none => .bad
def mDisp1 (k v : ME) : ME := fun en S => (k en S).bind fun y S1 => (v en S1).bind fun d S2 => disp1K y d S2
theorem mDisp1_ap (k v : ME) (en : En) (S : Sto) : mDisp1 k v en S = (k en S).bind fun y S1 => (v en S1).bind fun d S2 => disp1K y d S2 := rfl
end G
end
section
namespace G
open PySem PySem.Spec PyProof.Rows L2
section
variable {prog : Program} {w : World} {A : Around} {E : Value → Shared → Prop} {s : Shared}
end
section
variable {X : Cx}
end
end G
end
section
namespace G
open PySem L2
end G
end
section
namespace G
open PySem L2 PySem.Spec PyProof.Rows
def keyP : Key → PyData
  | .inl i => .int i
  | .inr x => .str x
mutual
inductive Dx (K : PySem.W.Frag) (H : Hp) : V → PyData → Prop
  | non : Dx K H .non .none
  | bl (b : Bool) : Dx K H (.bl b) (.bool b)
  | int (i : Int) : Dx K H (.int i) (.int i)
  | str (x : Str) : Dx K H (.str x) (.str x)
  | tup {a : Addr} {xs : List V} {ds : List PyData} : SqT K H a xs → DxA K H xs ds → Dx K H (.ref a) (.tuple ds)
  | dic0 {a : Addr} : H a = some (.dT []) → Dx K H (.ref a) (.dict [])
  | dic {a : Addr} {kvs : List (Key × V)} {ds : List PyData} : H a = some (.dK kvs) → DxA K H (kvs.map (·.2)) ds → Dx K H (.ref a) (.dict ((kvs.map fun p => keyP p.1).zip ds))
inductive DxA (K : PySem.W.Frag) (H : Hp) : List V → List PyData → Prop
  | nil : DxA K H [] []
  | cons {v : V} {vs : List V} {d : PyData} {ds : List PyData} : Dx K H v d → DxA K H vs ds → DxA K H (v :: vs) (d :: ds)
end
section
variable {X : Cx} {pins : List (Addr × Obj)} {σ : L2.St} {H : Hp} {s : Shared}
theorem reads_keys {h : Heap} {P : Program} {w : World} : ∀ {es : List DictEntry} {kvs : List (Key × Value)}, PySem.Pairs (mixKind P w) es kvs → ReadsAll h (es.map (·.key)) (kvs.map fun p => keyP p.1) []
  | _, _, .nil => .nil
  | _, _, .cons (e := e) (kv := kv) hk _ r => by
    rcases keyIs_shape (show keyIs kv.1 e.key = true from hk) with ⟨i, t, h1, h2⟩ | ⟨x, t, h1, h2⟩
    · simp only [List.map_cons, h1, h2, keyP]
      exact ReadsAll.cons (as := []) (Reads.int i t) (reads_keys r)
    · simp only [List.map_cons, h1, h2, keyP]
      exact ReadsAll.cons (as := []) (Reads.str x t) (reads_keys r)
theorem pairs_vals {P : Program} {w : World} : ∀ {es : List DictEntry} {kvs : List (Key × Value)}, PySem.Pairs (mixKind P w) es kvs → es.map (·.val) = kvs.map (·.2)
  | _, _, .nil => rfl
  | _, _, .cons _ hv r => by rw [List.map_cons, List.map_cons, hv, pairs_vals r]
theorem kv_vals : ∀ {kvs : List (Key × V)} {us : List (Key × Value)}, KV kvs us → Vals (kvs.map (·.2)) (us.map (·.2)) ∧ kvs.map (fun p => keyP p.1) = us.map fun p => keyP p.1
  | _, _, .nil => ⟨.nil, rfl⟩
  | _, _, .cons r t => ⟨.cons r.2 (kv_vals t).1, by rw [List.map_cons, List.map_cons, r.1, (kv_vals t).2]⟩
theorem DxA.len {K : PySem.W.Frag} {H : Hp} : ∀ {vs : List V} {ds : List PyData}, DxA K H vs ds → vs.length = ds.length
  | _, _, .nil => rfl
  | _, _, .cons _ t => by rw [List.length_cons, List.length_cons, t.len]
theorem zip_fst_snd {α β : Type} : ∀ {l : List α} {m : List β}, l.length = m.length → (l.zip m).map (·.1) = l ∧ (l.zip m).map (·.2) = m
  | [], [], _ => ⟨rfl, rfl⟩
  | a :: l, b :: m, h => by
    obtain ⟨h1, h2⟩ := zip_fst_snd (l := l) (m := m) (by simpa using h)
    exact ⟨by rw [List.zip_cons_cons, List.map_cons, h1], by rw [List.zip_cons_cons, List.map_cons, h2]⟩
mutual
theorem Dx.reads (I : Inv X pins σ H s) : ∀ {v : V} {d : PyData} {u : Value}, Dx X.K H v d → RelV v u → ∃ as, Reads s.heap u d as ∧ sysModules ∉ as
  | _, _, _, .non, r => by cases r; exact ⟨_, Reads.none, List.not_mem_nil⟩
  | _, _, _, .bl b, r => by cases r; exact ⟨_, Reads.bool b, List.not_mem_nil⟩
  | _, _, _, .int i, r => by obtain ⟨t, rfl⟩ := r; exact ⟨_, Reads.int i t, List.not_mem_nil⟩
  | _, _, _, .str x, r => by obtain ⟨t, rfl⟩ := r; exact ⟨_, Reads.str x t, List.not_mem_nil⟩
  | _, _, _, .tup hs ha, r => by
    cases r
    obtain ⟨its, rv, ⟨o, ho, hc, n, hd⟩, _⟩ := I.tuple hs
    obtain ⟨as, hr, hn⟩ := DxA.reads I ha rv
    exact ⟨_, Reads.tuple ho hc hd hr, hn⟩
  | _, _, _, .dic0 ha, r => by
    cases r
    obtain ⟨_, hd, xs, pr, o, es, ep, ho, ex, hdat, he, _⟩ := I.hok _ _ ha
    cases pr
    exact ⟨_, Reads.dict (as := []) (bs := []) ho ex.1 hdat (by rw [he]; exact .nil) (by rw [he]; exact .nil), by simpa using fun z => by rw [z] at hd; simp at hd⟩
  | _, _, _, .dic (kvs := kvs) (ds := ds) ha hv, r => by
    cases r
    obtain ⟨_, hd, us, kv, o, es, ep, ho, ex, hdat, _, pr, _⟩ := I.hok _ _ ha
    obtain ⟨vv, ek⟩ := kv_vals kv
    obtain ⟨bs, hr, hn⟩ := DxA.reads I hv vv
    have l := hv.len
    obtain ⟨z1, z2⟩ := zip_fst_snd (l := List.map (fun p : Key × V => keyP p.1) kvs) (m := ds) (by rw [List.length_map, ← l, List.length_map])
    refine ⟨_, Reads.dict (as := []) (bs := bs) ho ex.1 hdat ?_ ?_, ?_⟩
    · rw [z1, ek]; exact reads_keys pr
    · rw [z2, pairs_vals pr]; exact hr
    · exact fun z => (List.mem_cons.mp (show sysModules ∈ _ :: bs from z)).elim (fun z => by rw [← z] at hd; simp at hd) hn
theorem DxA.reads (I : Inv X pins σ H s) : ∀ {vs : List V} {ds : List PyData} {us : List Value}, DxA X.K H vs ds → Vals vs us → ∃ as, ReadsAll s.heap us ds as ∧ sysModules ∉ as
  | _, _, _, .nil, r => by cases r; exact ⟨_, ReadsAll.nil, List.not_mem_nil⟩
  | _, _, _, .cons h1 h2, r => by
    cases r with
    | cons r1 r2 =>
      obtain ⟨as, q1, n1⟩ := Dx.reads I h1 r1
      obtain ⟨bs, q2, n2⟩ := DxA.reads I h2 r2
      exact ⟨_, ReadsAll.cons q1 q2, fun z => (List.mem_append.mp z).elim n1 n2⟩
end
end
def showOk (p : PyData) : Prop := p.showable = true ∧ p.shown.length ≤ sizeLine ∧ p.depth ≤ 64
instance (p : PyData) : Decidable (showOk p) := by unfold showOk; exact inferInstance
def keyPD : D → Option PyData
  | .int i => some (.int i)
  | .str x => some (.str x)
  | _ => none
def keysPD : List D → Option (List PyData)
  | [] => some []
  | d :: r => match keyPD d, keysPD r with
    | some p, some q => some (p :: q)
    | _, _ => none
mutual
def pdx : D → Option PyData
  | .non => some .none
  | .bl b => some (.bool b)
  | .int i => some (.int i)
  | .str x => some (.str x)
  | .tup ds => (pdxs ds).map .tuple
  | .dic ks ds => match keysPD ks, pdxs ds with
    | some p, some q => some (.dict (p.zip q))
    | _, _ => none
  | _ => none
def pdxs : List D → Option (List PyData)
  | [] => some []
  | d :: r => match pdx d, pdxs r with
    | some p, some q => some (p :: q)
    | _, _ => none
end
theorem keys_both : ∀ {ks : List D} {ps : List PyData} {q : List Key}, keysPD ks = some ps → keysD ks = some q → ps = q.map keyP
  | [], ps, q, h1, h2 => by simp only [keysPD] at h1; simp only [keysD] at h2; cases h1; cases h2; rfl
  | d :: r, ps, q, h1, h2 => by
    simp only [keysPD] at h1
    simp only [keysD] at h2
    cases e1 : keyPD d with
    | none => rw [e1] at h1; cases h1
    | some p =>
      cases e2 : keysPD r with
      | none => rw [e1, e2] at h1; cases h1
      | some ps' =>
        rw [e1, e2] at h1
        cases h1
        cases e3 : keyD d with
        | none => rw [e3] at h2; cases h2
        | some k =>
          cases e4 : keysD r with
          | none => rw [e3, e4] at h2; cases h2
          | some q' =>
            rw [e3, e4] at h2
            cases h2
            rw [List.map_cons, keys_both e2 e4]
            congr 1
            cases d <;> simp only [keyPD, keyD] at e1 e3 <;> cases e1 <;> cases e3 <;> rfl
theorem no_tkeys : ∀ {ks : List D} {ps : List PyData} {q : List (List Key)}, keysPD ks = some ps → tkeysD ks = some q → ks = []
  | [], _, _, _, _ => rfl
  | d :: r, ps, q, h1, h2 => by
    simp only [keysPD] at h1
    simp only [tkeysD] at h2
    cases d <;> simp only [keyPD, tkeyD] at h1 h2 <;> first | (cases h1; done) | (cases h2; done)
section
variable {B : Bas} {m : Mp} {H : Hp} {S : Sto}
mutual
theorem Rep.dx (s : Sub m H) : ∀ {d : D} {v : V} {p : PyData}, Rep B m d v → pdx d = some p → Dx B.K H v p
  | .non, v, p, r, e => by simp only [Rep] at r; simp only [pdx] at e; cases e; subst r; exact .non
  | .bl b, v, p, r, e => by simp only [Rep] at r; simp only [pdx] at e; cases e; subst r; exact .bl b
  | .int i, v, p, r, e => by simp only [Rep] at r; simp only [pdx] at e; cases e; subst r; exact .int i
  | .str x, v, p, r, e => by simp only [Rep] at r; simp only [pdx] at e; cases e; subst r; exact .str x
  | .tup ds, v, p, r, e => by
    simp only [Rep] at r
    simp only [pdx] at e
    obtain ⟨a, vs, rfl, t, q⟩ := r
    cases h : pdxs ds with
    | none => rw [h] at e; cases e
    | some ps => rw [h] at e; cases e; exact .tup (t.sq s) (Reps.dx s q h)
  | .dic ks ds, v, p, r, e => by
    simp only [Rep] at r
    simp only [pdx] at e
    obtain ⟨a, vs, rfl, _, ⟨hl, t⟩, q⟩ := r
    cases h1 : keysPD ks with
    | none => rw [h1] at e; cases e
    | some kp =>
      cases h2 : pdxs ds with
      | none => rw [h1, h2] at e; cases e
      | some ps =>
        rw [h1, h2] at e
        cases e
        rcases t with ⟨k, _, hk, ho⟩ | ⟨k, hk, ho⟩
        · have e1 := keys_both h1 hk
          have l1 : ∀ {ks : List D} {q : List Key}, keysD ks = some q → ks.length = q.length := by
            intro ks
            induction ks with
            | nil => intro q h; simp only [keysD] at h; cases h; rfl
            | cons d r ih =>
              intro q h
              simp only [keysD] at h
              cases e3 : keyD d with
              | none => rw [e3] at h; cases h
              | some k =>
                cases e4 : keysD r with
                | none => rw [e3, e4] at h; cases h
                | some q' => rw [e3, e4] at h; cases h; rw [List.length_cons, List.length_cons, ih e4]
          have l2 := l1 hk
          obtain ⟨z1, z2⟩ := zip_fst_snd (l := k) (m := vs) (by omega)
          have e2 : kp = (k.zip vs).map fun p => keyP p.1 := by
            rw [e1, show (fun p : Key × V => keyP p.1) = keyP ∘ (·.1) from rfl, ← List.map_map, z1]
          rw [e2]
          exact .dic (s _ _ ho) (by rw [z2]; exact Reps.dx s q h2)
        · obtain rfl := no_tkeys h1 hk
          simp only [tkeysD] at hk
          cases hk
          simp only [keysPD] at h1
          cases h1
          exact .dic0 (s _ _ ho)
  | .ktp _, v, p, r, e => by simp [pdx] at e
  | .lst _, v, p, r, e => by simp [pdx] at e
  | .scr _, v, p, r, e => by simp [pdx] at e
  | .ins _ _ _, v, p, r, e => by simp [pdx] at e
  | .ref _, v, p, r, e => by simp [pdx] at e
  | .fn _, v, p, r, e => by simp [pdx] at e
  | .ty _, v, p, r, e => by simp [pdx] at e
  | .cl _, v, p, r, e => by simp [pdx] at e
  | .lam _ _ _ _ _, v, p, r, e => by simp [pdx] at e
theorem Reps.dx (s : Sub m H) : ∀ {ds : List D} {vs : List V} {ps : List PyData}, Reps B m ds vs → pdxs ds = some ps → DxA B.K H vs ps
  | [], vs, ps, r, e => by simp only [Reps] at r; simp only [pdxs] at e; cases e; subst r; exact .nil
  | d :: ds, vs, ps, r, e => by
    simp only [Reps] at r
    obtain ⟨v, t, rfl, a, b⟩ := r
    simp only [pdxs] at e
    cases h1 : pdx d with
    | none => rw [h1] at e; cases e
    | some p =>
      cases h2 : pdxs ds with
      | none => rw [h1, h2] at e; cases e
      | some q =>
        rw [h1, h2] at e
        cases e
        exact .cons (Rep.dx s a h1) (Reps.dx s b h2)
end
end
end G
end
section
namespace G
open PySem L2
noncomputable def mMakeD (c : Nat) (F : Fn) (n : Nat) (r : MA) : ME := fun en S => (r en S).bind fun ds S1 => (mkR c F (ds ++ List.replicate n (.ktp [])) S1).frz S1
section
variable {X : Cx} {B : Bas} {W : WX} {CX : CXT} {e : Expr} {es : List Expr} {x : Str} {p pos : Pos} {mr : MA} {c k j n : Nat} {F : Fn} {C f : Addr} {fd : FuncData} {ps : List Str} {sp : Sp} {E : St → XK} {t : TA} {dvs : List V} {dus : List Value}
end
noncomputable def makeDK (c : Nat) (F : Fn) (n : Nat) (ds : List D) (S : Sto) : Res D := (mkR c F (ds ++ List.replicate n (.ktp [])) S).frz S
theorem mMakeD_ap (c : Nat) (F : Fn) (n : Nat) (r : MA) (en : En) (S : Sto) : mMakeD c F n r en S = (r en S).bind (makeDK c F n) := rfl
end G
end
section
namespace G
open PySem L2 PySem.Spec PyProof.Rows
end G
end
section
namespace G
open PySem L2 PySem.Spec PyProof.Rows
def dEqE (_ : Sto) : D → D → Option D
  | .tup xs, .tup [] => some (.bl xs.isEmpty)
  | _, _ => none
theorem dEqE_nil (S : Sto) : dEqE S (.tup []) (.tup []) = some (.bl true) := rfl
theorem dEqE_cons (S : Sto) (x : D) (xs : List D) : dEqE S (.tup (x :: xs)) (.tup []) = some (.bl false) := rfl
end G
end
section
namespace G
open PySem L2
def isSub (c d : Nat) : Bool := decide (c = d) || (decide (d = 10) && decide (11 ≤ c) && decide (c ≤ 22))
def isSubB (c : Nat) (T : String) : Bool := (decide (T = "ValueError") && decide (c ≤ 22)) || (decide (T = "LookupError") && decide (c = 23))
structure XF (B : Bas) (i : Nat) (a : Addr) (cls : Value) (dd : Option Addr) (m : Mp) (σ : L2.St) (c : Nat) (ns : List Str) (vs : List D) : Prop where
  sl : σ[i]? = some (some (.ref a))
  cl : cls = .ref (B.cls c)
  ex : ExR B m ns vs dd
theorem ExR.mono {B : Bas} {m m' : Mp} {ns : List Str} {vs : List D} {dd : Option Addr} (l : Kp m m') (h : ExR B m ns vs dd) : ExR B m' ns vs dd := by
  rcases h with h | ⟨a, us, e, z, o, n, r⟩
  · exact .inl h
  · obtain ⟨z', o'⟩ := l.keep a _ z o
    exact .inr ⟨a, us, e, z', o', n, r.monoK l⟩
theorem XF.mono {B : Bas} {i : Nat} {a : Addr} {cls : Value} {dd : Option Addr} {m m' : Mp} {σ : L2.St} {c : Nat} {ns : List Str} {vs : List D} (l : Kp m m') (h : XF B i a cls dd m σ c ns vs) : XF B i a cls dd m' σ c ns vs := ⟨h.sl, h.cl, h.ex.mono l⟩
abbrev XE := Nat → List Str → List D → En → Option D
abbrev XA := Nat → List Str → List D → En → Option (List D)
abbrev XS := Nat → List Str → List D → En → Option Fl
section
variable (B : Bas) (cs : List Nat) (i : Nat) (a : Addr) (cls : Value) (dd : Option Addr)
def tXS (e : XS) : TS := fun D σ H => ∃ m S en c ns vs d, (Sub m H ∧ Cor B m S ∧ EnR B m en σ) ∧ (c ∈ cs ∧ XF B i a cls dd m σ c ns vs) ∧ e c ns vs en = some d ∧ ∀ m' H' v, Le m H m' H' → Cor B m' S → RFl B m' d v → qOf D v H'
end
def xC (d : D) : XE := fun _ _ _ _ => some d
def xF (f : Str) : XE := fun _ ns vs _ => (ns.zip vs).lookup f
def xI (d : Nat) : XE := fun c _ _ _ => some (.bl (isSub c d))
def xIB (T : String) : XE := fun c _ _ _ => some (.bl (isSubB c T))
def xAnd (e f : XE) : XE := fun c ns vs en => match e c ns vs en with
  | some (.bl true) => f c ns vs en
  | some (.bl false) => some (.bl false)
  | _ => none
def xNil : XA := fun _ _ _ _ => some []
def xCons (e : XE) (r : XA) : XA := fun c ns vs en => match e c ns vs en, r c ns vs en with
  | some d, some ds => some (d :: ds)
  | _, _ => none
def xLst (r : XA) : XE := fun c ns vs en => match r c ns vs en with
  | some ds => if ds.length ≤ sizeLine then some (.lst ds) else none
  | none => none
def xSet (e : XE) (j : Nat) : XS := fun c ns vs en => (e c ns vs en).map fun d => .nx (en.set j (some d))
section
variable {X : Cx} {B : Bas} {cs : List Nat} {i : Nat} {a : Addr} {cls : Value} {dd : Option Addr}
end
end G
end
section
namespace G
open PySem L2
structure Xc (K : PySem.W.Frag) (C : Addr) : Prop where
  f : XfC K C
  cl : (PySem.W.clsIn K C).isSome = true
  ha : PySem.W.findIn K (.ref C) "__class__" = some (some (.builtin "object.__class__"))
  hn : PySem.W.specialIn K (.builtin "object.__class__") "__get__" = some (some (.builtin "getset_descriptor.__get__"))
  ht : PySem.W.takesIn K (.builtin "object.__class__") = some true
  hm : PySem.W.mroIn K C (.type "object") = some true
  ty : PySem.W.typeIn K (.ref C) = some (.type "type")
def xcB (K : PySem.W.Frag) (C : Addr) : Bool := xfB K C && ((PySem.W.clsIn K C).isSome && (decide (PySem.W.findIn K (.ref C) "__class__" = some (some (.builtin "object.__class__"))) && (decide (PySem.W.specialIn K (.builtin "object.__class__") "__get__" = some (some (.builtin "getset_descriptor.__get__"))) &&
  (decide (PySem.W.takesIn K (.builtin "object.__class__") = some true) && (decide (PySem.W.mroIn K C (.type "object") = some true) && decide (PySem.W.typeIn K (.ref C) = some (.type "type")))))))
theorem xcB_ok {K : PySem.W.Frag} {C : Addr} (h : xcB K C = true) : Xc K C := by
  obtain ⟨h1, h⟩ := He.ba h
  obtain ⟨h2, h⟩ := He.ba h
  obtain ⟨h3, h⟩ := He.ba h
  obtain ⟨h4, h⟩ := He.ba h
  obtain ⟨h5, h⟩ := He.ba h
  obtain ⟨h6, h7⟩ := He.ba h
  exact ⟨xfB_ok h1, h2, of_decide_eq_true h3, of_decide_eq_true h4, of_decide_eq_true h5, of_decide_eq_true h6, of_decide_eq_true h7⟩
section
variable {X : Cx} {B : Bas} {cs : List Nat} {i : Nat} {a : Addr} {cls : Value} {dd : Option Addr} {oe : Obj} {pn : List (Addr × Obj)}
theorem ExR.lookup {m : Mp} {ns : List Str} {vs : List D} {f : Str} {d : D} (h : ExR B m ns vs dd) (e : (ns.zip vs).lookup f = some d) : ∃ da us v, dd = some da ∧ m.Z da = some (.xd (ns.zip us)) ∧ (ns.zip us).lookup f = some v ∧ Rep B m d v := by
  rcases h with ⟨rfl, rfl, _⟩ | ⟨da, us, ed, z, _, n, r⟩
  · cases e
  · have key : ∀ (ns : List Str) (vs : List D) (us : List V), Reps B m vs us → (ns.zip vs).lookup f = some d → ∃ v, (ns.zip us).lookup f = some v ∧ Rep B m d v := by
      intro ns
      induction ns with
      | nil => intro vs us _ e; cases e
      | cons k ns ih =>
        intro vs us r e
        cases vs with
        | nil => cases e
        | cons x vs =>
          simp only [Reps] at r
          obtain ⟨u, us', rfl, r1, r2⟩ := r
          rw [List.zip_cons_cons, List.lookup_cons] at e ⊢
          cases hk : f == k with
          | true => rw [hk] at e; cases e; exact ⟨u, rfl, r1⟩
          | false => rw [hk] at e; exact ih vs us' r2 e
    obtain ⟨v, hv, rv⟩ := key ns vs us r e
    exact ⟨da, us, v, ed, z, hv, rv⟩
end
def unN (i : Nat) : Fl → Fl
  | .nx en => .nx (en.set i none)
  | .rt d => .rt d
  | .bk en => .bk (en.set i none)
  | .ct en => .ct (en.set i none)
def unV (i : Nat) : FlV → FlV
  | .nx en => .nx (en.set i none)
  | .rt d => .rt d
  | .bk en => .bk (en.set i none)
  | .ct en => .ct (en.set i none)
theorem EnR.gone {B : Bas} {m : Mp} {en : En} {σ : L2.St} (i : Nat) (h : EnR B m en σ) (o : Option V) : EnR B m (en.set i none) (σ.set i o) := ⟨by rw [List.length_set, List.length_set, h.1], fun j d e => by
  by_cases hj : i = j
  · subst hj
    by_cases hi : i < en.length
    · rw [List.getElem?_set_self hi] at e; cases e
    · rw [List.getElem?_eq_none (by rw [List.length_set]; omega)] at e; cases e
  · rw [List.getElem?_set_ne hj] at e
    rw [List.getElem?_set_ne hj]
    exact h.2 j d e⟩
theorem RFl.gone {B : Bas} {m : Mp} (i : Nat) : ∀ {g : Fl} {v : FlV}, RFl B m g v → RFl B m (unN i g) (unV i v)
  | .nx _, .nx _, h => EnR.gone i h none
  | .rt _, .rt _, h => h
  | .bk _, .bk _, h => EnR.gone i h none
  | .ct _, .ct _, h => EnR.gone i h none
  | .nx _, .rt _, h => h.elim
  | .nx _, .bk _, h => h.elim
  | .nx _, .ct _, h => h.elim
  | .rt _, .nx _, h => h.elim
  | .rt _, .bk _, h => h.elim
  | .rt _, .ct _, h => h.elim
  | .bk _, .nx _, h => h.elim
  | .bk _, .rt _, h => h.elim
  | .bk _, .ct _, h => h.elim
  | .ct _, .nx _, h => h.elim
  | .ct _, .rt _, h => h.elim
  | .ct _, .bk _, h => h.elim
def catchR (i : Nat) (f : XS) (c : Nat) (ns : List Str) (vs : List D) (en : En) (S : Sto) : Res Fl := match f c ns vs (en.set i none) with
  | some g => .ok (unN i g) S
  | none => .bad
def sTry1 (cs : List Nat) (d i : Nat) (b : MS) (f : XS) : MS := fun en S => match b en S with
  | .ok g S1 => .ok g S1
  | .ex c ns vs S1 => if c ∈ cs ∧ i < en.length then (if isSub c d = true then catchR i f c ns vs en S1 else .ex c ns vs S1) else .bad
  | .bad => .bad
def sSeqN (a b : MS) : MS := fun en S => (a en S).bind fun f S1 => match f with
  | .nx en1 => (b en1 S1).noex
  | .rt d => .ok (.rt d) S1
  | .bk e => .ok (.bk e) S1
  | .ct e => .ok (.ct e) S1
section
variable {X : Cx} {B : Bas} {W : WX} {cs : List Nat} {st : Stmt} {sts body suite : List Stmt} {b₀ : Stmt} {d i : Nat} {x n : Str} {np pos pos' : Pos} {ma mb : MS} {f : XS}
end
end G
end
section
namespace G
open PySem L2
def tryK (cs : List Nat) (d i : Nat) (f : XS) (en : En) (r : Res Fl) : Res Fl := match r with
  | .ok g S1 => .ok g S1
  | .ex c ns vs S1 => if c ∈ cs ∧ i < en.length then (if isSub c d = true then catchR i f c ns vs en S1 else .ex c ns vs S1) else .bad
  | .bad => .bad
theorem tryK_ok (cs : List Nat) (d i : Nat) (f : XS) (en : En) (g : Fl) (S : Sto) : tryK cs d i f en (.ok g S) = .ok g S := rfl
def seqNK (b : MS) (f : Fl) (S : Sto) : Res Fl := match f with
  | .nx en1 => (b en1 S).noex
  | .rt d => .ok (.rt d) S
  | .bk e => .ok (.bk e) S
  | .ct e => .ok (.ct e) S
theorem sSeqN_ap (a b : MS) (en : En) (S : Sto) : sSeqN a b en S = (a en S).bind (seqNK b) := rfl
theorem seqNK_nx (b : MS) (en : En) (S : Sto) : seqNK b (.nx en) S = (b en S).noex := rfl
end G
end
section
namespace G
open PySem L2 PySem.Spec PyProof.Rows
section
variable {X : Cx} {B : Bas} {W : WX} {e : Expr} {es : List Expr} {pos p : Pos} {mr : MA} {x : Str} {i j : Nat} {fs : List (Nat × Fn)}
end
def cvK (F : Fn) (ds : List D) (S : Sto) : Res D := if ds.length = F.n then (F.run ds S).noex else .bad
def cvS (fs : List (Nat × Fn)) (o : Option (Option D)) (r : MA) (en : En) (S : Sto) : Res D := match o with
  | some (some (.fn c)) => match fs.lookup c with
    | some F => (r en S).bind (cvK F)
    | none => .bad
  | _ => .bad
theorem cvS_0 (F G : Fn) (r : MA) (en : En) (S : Sto) : cvS [(0, F), (1, G)] (some (some (.fn 0))) r en S = (r en S).bind (cvK F) := rfl
theorem cvS_1 (F G : Fn) (r : MA) (en : En) (S : Sto) : cvS [(0, F), (1, G)] (some (some (.fn 1))) r en S = (r en S).bind (cvK G) := rfl
end G
namespace G
open L2 PySem
end G
end
section
namespace G
open PySem L2 PyProof.Rows PySem.W
def Empt (L : Ks) : Prop := (∃ p ∈ L, p.2 = .tup []) ∧ ∀ p ∈ L, ∃ r, p.2 = .tup r
structure Rdy (h : Heap) (L : Ks) : Prop where
  tup : ∀ p ∈ L, ∃ r, p.2 = .tup r
  rd : ∀ p ∈ L, ∃ as, Reads h (.ref p.1) p.2.data as
  ok : ∀ p ∈ L, p.2.data.canLay0 = true
  dp : ∀ p ∈ L, p.2.data.depth ≤ 8
  cmp : ∀ p ∈ L, ∀ q ∈ L, ∃ b, pLt p.2.data q.2.data = some b
theorem Rdy.keep {h h' : Heap} {L : Ks} (x : Rdy h L) (f : ∀ b o, h.get? b = some o → o.cls = .type "tuple" → h'.get? b = some o) : Rdy h' L :=
  ⟨x.tup, fun p hp => (x.rd p hp).imp fun as r => reads_keep f p.2 _ as r, x.ok, x.dp, x.cmp⟩
section
variable {P : Program} {w : World} {A : Around} {E : Value → Shared → Prop} {s : Shared}
end
end G
end
section
namespace G
open PySem PySem.Spec PyProof.Rows L2
def hasN (k : NK) (ks : List NK) : Bool := ks.any fun q => decide (q = k)
def lookN : List NK → List D → NK → Option D
  | q :: qs, d :: ds, k => if q = k then some d else lookN qs ds k
  | _, _, _ => none
def replN {α : Type} (k : NK) (d : α) : List NK → List α → List α
  | q :: qs, x :: ds => (if q = k then d else x) :: replN k d qs ds
  | _, ds => ds
def putV {α : Type} (k : NK) (d : α) (ks : List NK) (ds : List α) : List α := if hasN k ks = true then replN k d ks ds else ds ++ [d]
section
variable {X : Cx} {pins : List (Addr × Obj)} {σ : L2.St} {H : Hp} {s : Shared} {a b : Addr} {qs : List (NK × Addr)} {vs : List V}
end
def ndcOf (S : Sto) : D → Option (List D × List D)
  | .ref i => match S[i]? with
    | some (.ndc ks ds) => some (ks, ds)
    | _ => none
  | _ => none
def dNGet (S : Sto) (x y : D) : Option D := match ndcOf S x, y, nkD y with
  | some (ks, ds), .tup _, some k => if k.depth ≤ 8 then (match nkDs ks with
    | some qs => lookN qs ds k
    | none => none) else none
  | _, _, _ => none
def putNd (ks ds : List D) (y : D) (k : NK) (d : D) (qs : List NK) : Ob := .ndc (if hasN k qs = true then ks else ks ++ [y]) (putV k d qs ds)
def sNPutS (o k e : ME) : MS := fun en S => (e en S).bind fun d S1 => (o en S1).bind fun x S2 => (k en S2).bind fun y S3 => match x, y, nkD y with
  | .ref i, .tup _, some k => match S3[i]? with
    | some (.ndc ks ds) => match nkDs ks with
      | some qs => if ks.length < sizeLine ∧ k.depth ≤ 8 then .ok (.nx en) (S3.set i (putNd ks ds y k d qs)) else .bad
      | none => .bad
    | _ => .bad
  | _, _, _ => .bad
def mNNew : ME := fun _ S => .ok (.ref S.length) (S ++ [.ndc [] []])
section
variable {X : Cx} {B : Bas} {W : WX} {m : Mp} {H : Hp} {S : Sto}
end
end G
end
section
namespace G
open PySem L2
def npK3 (en : En) (d x y : D) (S : Sto) : Res Fl := match x, y, nkD y with
  | .ref i, .tup _, some k => match S[i]? with
    | some (.ndc ks ds) => match nkDs ks with
      | some qs => if ks.length < sizeLine ∧ k.depth ≤ 8 then .ok (.nx en) (S.set i (putNd ks ds y k d qs)) else .bad
      | none => .bad
    | _ => .bad
  | _, _, _ => .bad
def npK2 (k : ME) (en : En) (d x : D) (S : Sto) : Res Fl := (k en S).bind (npK3 en d x)
def npK1 (o k : ME) (en : En) (d : D) (S : Sto) : Res Fl := (o en S).bind (npK2 k en d)
theorem sNPutS_ap (o k e : ME) (en : En) (S : Sto) : sNPutS o k e en S = (e en S).bind (npK1 o k en) := rfl
theorem npK1_ap (o k : ME) (en : En) (d : D) (S : Sto) : npK1 o k en d S = (o en S).bind (npK2 k en d) := rfl
theorem npK2_ap (k : ME) (en : En) (d x : D) (S : Sto) : npK2 k en d x S = (k en S).bind (npK3 en d x) := rfl
theorem mNNew_ap (en : En) (S : Sto) : mNNew en S = .ok (.ref S.length) (S ++ [.ndc [] []]) := rfl
structure NkOk {α : Type} (f : α → D) (k : α → NK) : Prop where
  nk : ∀ a, nkD (f a) = some (k a)
  inj : ∀ a b, k a = k b → a = b
  dep : ∀ a, (k a).depth ≤ 8
  tup : ∀ a, ∃ ds, f a = .tup ds
section
variable {α : Type} {f : α → D} {k : α → NK}
theorem NkOk.keys (h : NkOk f k) : ∀ l : List α, nkDs (l.map f) = some (l.map k)
  | [] => rfl
  | a :: l => by simp only [List.map_cons, nkDs, h.nk a, h.keys l]
theorem NkOk.look (h : NkOk f k) (g : α → D) {a : α} : ∀ {l : List α}, a ∈ l → lookN (l.map k) (l.map g) (k a) = some (g a)
  | [], m => absurd m List.not_mem_nil
  | b :: l, m => by
    simp only [List.map_cons, lookN]
    by_cases e : k b = k a
    · rw [if_pos e, h.inj _ _ e]
    · rw [if_neg e]
      rcases List.mem_cons.mp m with z | z
      · exact absurd (by rw [z]) e
      · exact h.look g z
theorem NkOk.has (h : NkOk f k) {a : α} {l : List α} (m : a ∉ l) : hasN (k a) (l.map k) = false := by
  unfold hasN
  rw [List.any_eq_false]
  intro q hq
  obtain ⟨b, hb, rfl⟩ := List.mem_map.mp hq
  simp only [decide_eq_true_eq]
  exact fun e => m (h.inj _ _ e ▸ hb)
def nd (f : α → D) (g : α → D) (l : List α) : Ob := .ndc (l.map f) (l.map g)
theorem NkOk.get (h : NkOk f k) {g : α → D} {a : α} {l : List α} {S : Sto} {i : Nat} (e : S[i]? = some (nd f g l)) (m : a ∈ l) : dNGet S (.ref i) (f a) = some (g a) := by
  obtain ⟨ds, hd⟩ := h.tup a
  have hn := h.nk a
  rw [hd] at hn ⊢
  have e2 : ndcOf S (.ref i) = some (l.map f, l.map g) := by
    show (match S[i]? with
      | some (.ndc ks ds) => some (ks, ds)
      | _ => none) = _
    rw [e]
    rfl
  unfold dNGet
  simp only [e2, hn]
  rw [if_pos (h.dep a), h.keys l]
  exact h.look g m
theorem NkOk.put (h : NkOk f k) {g : α → D} {a : α} {l : List α} {S : Sto} {i : Nat} {en : En} (e : S[i]? = some (nd f g l)) (m : a ∉ l) (hl : l.length < 1000000) : npK3 en (g a) (.ref i) (f a) S = .ok (.nx en) (S.set i (nd f g (l ++ [a]))) := by
  obtain ⟨ds, hd⟩ := h.tup a
  have hn := h.nk a
  rw [hd] at hn ⊢
  unfold npK3
  simp only [hn, e, nd]
  rw [h.keys l]
  simp only
  rw [if_pos ⟨by rw [List.length_map]; exact Nat.lt_of_lt_of_le hl (sz_small (Nat.le_refl _)), h.dep a⟩]
  unfold putNd putV
  rw [h.has m]
  simp only [Bool.false_eq_true, if_false, List.map_append, List.map_cons, List.map_nil, hd]
end
end G
end
section
namespace G
open PySem PySem.Spec PyProof.Rows PySem.W L2
structure KsOk (K : PySem.W.Frag) (H : Hp) (L : Ks) : Prop where
  dp : ∀ p ∈ L, Dp K H (.ref p.1) p.2.data
  tup : ∀ p ∈ L, ∃ r, p.2 = .tup r
  form : Formed L ∨ Empt L
  ok : ∀ p ∈ L, p.2.data.canLay0 = true
  dep : ∀ p ∈ L, p.2.data.depth ≤ 8 ∧ p.2.depth ≤ 8
  cmp : ∀ p ∈ L, ∀ r ∈ L, ∃ b, pLt p.2.data r.2.data = some b
section
variable {X : Cx} {pins : List (Addr × Obj)} {σ : L2.St} {H : Hp} {s : Shared} {Q : VK} {L : Ks}
end
end G
end
section
namespace G
open PySem PySem.Spec PyProof.Rows PySem.W L2
section
variable {X : Cx}
section
variable {s0 : Shared} {H0 : Hp} {scope : Scope} {ce : Env} {fp : List Addr} {tn : Nat → Heap → Prop} {σ0 : L2.St} {tg : Expr} {J : It} {it : Addr}
end
end
end G
end
section
namespace G
open PySem PySem.Spec PyProof.Rows PySem.W L2
structure SortOkG (ks : List NK) : Prop where
  form : FormK ks ∨ (.tup [] ∈ ks ∧ ∀ k ∈ ks, ∃ r, k = .tup r)
  ok : ∀ k ∈ ks, k.data.canLay0 = true
  dp : ∀ k ∈ ks, k.data.depth ≤ 8 ∧ k.depth ≤ 8
  cmp : CmpK ks
theorem SortOkG.tup {ks : List NK} (h : SortOkG ks) {k : NK} (hk : k ∈ ks) : ∃ r, k = .tup r := by
  rcases h.form with (f | f) | f
  · obtain ⟨_, _, e⟩ := f k hk; exact ⟨_, e⟩
  · obtain ⟨_, _, e⟩ := f k hk; exact ⟨_, e⟩
  · exact f.2 k hk
theorem SortOkG.ks {ks : List NK} {K : PySem.W.Frag} {H : Hp} {L : Ks} (h : SortOkG ks) (hL : ∀ k, k ∈ L.map (·.2) ↔ k ∈ ks) (dp : ∀ p ∈ L, Dp K H (.ref p.1) p.2.data) : KsOk K H L := by
  have inK : ∀ p ∈ L, p.2 ∈ ks := fun p hp => (hL _).mp (List.mem_map_of_mem hp)
  refine ⟨dp, fun p hp => h.tup (inK p hp), ?_, fun p hp => h.ok _ (inK p hp), fun p hp => h.dp _ (inK p hp), fun p hp r hr => h.cmp _ (inK p hp) _ (inK r hr)⟩
  rcases h.form with (f | f) | f
  · exact .inl (.inl fun p hp => f _ (inK p hp))
  · exact .inl (.inr fun p hp => f _ (inK p hp))
  · refine .inr ⟨?_, fun p hp => f.2 _ (inK p hp)⟩
    obtain ⟨p, hp, e⟩ := List.mem_map.mp ((hL _).mpr f.1)
    exact ⟨p, hp, e⟩
section
variable {B : Bas} {m : Mp} {S : Sto} {H : Hp} {Q : VK}
end
open Classical in
noncomputable def scomp (g : MG) (t : MT) (e : ME) (P : Sto → Prop) (en : En) : List D → List NK → Sto → Res (List NK)
  | [], acc, S => if P S then .ok acc S else .bad
  | d :: ds, acc, S => if P S then (match g d en with
    | none => .bad
    | some en1 => (t en1 S).noex.bind fun b S1 => match b with
      | false => scomp g t e P en ds acc S1
      | true => (e en1 S1).noex.bind fun y S2 => match y, nkD y with
        | .tup _, some k => if k.depth ≤ 8 ∧ acc.length + 1 < 1228 then scomp g t e P en ds (if k ∈ acc then acc else acc ++ [k]) S2 else .bad
        | _, _ => .bad) else .bad
open Classical in
noncomputable def ssK (acc : List NK) (S : Sto) : Res D := if SortOkG acc ∧ acc.length < 1228 then .ok (.lst (dOfs (sortK acc))) S else .bad
noncomputable def mSortSc (i : MI) (g : MG) (t : MT) (e : ME) (vs : List Nat) : ME := fun en S => (i en S).bind fun its S1 => (scomp g t e its.P (wipeE en vs) its.ds [] S1).bind ssK
structure ScAt (B : Bas) (w : World) (m : Mp) (D : Addr) (acc : List NK) (L : Ks) (o : Option HO) : Prop where
  ob : o = some (SetKO w D L)
  mem : ∀ k, k ∈ L.map (·.2) ↔ k ∈ acc
  len : L.length ≤ acc.length
  rep : ∀ p ∈ L, Rep B m (dOf p.2) (.ref p.1) ∧ pd (dOf p.2) = some p.2.data ∧ p.2.depth ≤ 8
theorem ScAt.dp {B : Bas} {w : World} {m : Mp} {D : Addr} {acc : List NK} {L : Ks} {o : Option HO} {H : Hp} (h : ScAt B w m D acc L o) (s : Sub m H) : ∀ p ∈ L, Dp B.K H (.ref p.1) p.2.data ∧ p.2.depth ≤ 8 :=
  fun p hp => ⟨(h.rep p hp).1.dp s (h.rep p hp).2.1, (h.rep p hp).2.2⟩
theorem ScAt.mono {B : Bas} {w : World} {m m' : Mp} {H H' : Hp} {D : Addr} {acc : List NK} {L : Ks} {o o' : Option HO} (h : ScAt B w m D acc L o) (l : Le m H m' H') (e : o' = o) : ScAt B w m' D acc L o' :=
  ⟨e.trans h.ob, h.mem, h.len, fun p hp => ⟨(h.rep p hp).1.mono l, (h.rep p hp).2⟩⟩
section
variable {X : Cx} {B : Bas} {W : WX} {ex tg iter : Expr} {ifs : List Expr} {scope : Scope} {ow : List (Str × Nat)} {p pos pos2 : Pos} {mi : MI} {g : TG} {t : MG} {tt : MT} {te : ME} {own : List Nat}
end
end G
end
section
namespace G
open PySem L2
noncomputable def scK1 (g : MG) (t : MT) (e : ME) (en : En) (its : Its) (S : Sto) : Res D := (scomp g t e its.P en its.ds [] S).bind ssK
theorem mSortSc_ap (i : MI) (g : MG) (t : MT) (e : ME) (vs : List Nat) (en : En) (S : Sto) : mSortSc i g t e vs en S = (i en S).bind (scK1 g t e (wipeE en vs)) := rfl
theorem scK1_ap (g : MG) (t : MT) (e : ME) (en : En) (ds : List D) (P : Sto → Prop) (S : Sto) : scK1 g t e en ⟨ds, P⟩ S = (scomp g t e P en ds [] S).bind ssK := rfl
end G
end
section
namespace G
open PySem L2
def gTL (n : Nat) (g : MGs) : MG := fun d en => match d with
  | .lst ds => if ds.length = n then g ds en else none
  | _ => none
theorem gTL_ap (n : Nat) (g : MGs) (ds : List D) (en : En) : gTL n g (.lst ds) en = if ds.length = n then g ds en else none := rfl
end G
end
section
namespace G
open PySem L2 PySem.Spec PyProof.Rows
def smB (K : PySem.W.Frag) : Bool := match K.lookup sysModules with
  | some ⟨_, _, .dict _ _, _⟩ => true
  | _ => false
theorem smB_ok {K : PySem.W.Frag} (h : smB K = true) : ∃ o es n, K.lookup sysModules = some o ∧ o.data = .dict es n := by
  unfold smB at h
  split at h
  · rename_i es n _ e
    exact ⟨_, es, n, e, rfl⟩
  · cases h
mutual
inductive Dz (K : PySem.W.Frag) (H : Hp) : V → PyData → Prop
  | non : Dz K H .non .none
  | bl (b : Bool) : Dz K H (.bl b) (.bool b)
  | int (i : Int) : Dz K H (.int i) (.int i)
  | str (x : Str) : Dz K H (.str x) (.str x)
  | tup {a : Addr} {xs : List V} {ds : List PyData} : SqT K H a xs → DzA K H xs ds → Dz K H (.ref a) (.tuple ds)
  | lst {a : Addr} {xs : List V} {ds : List PyData} : SqL K H a xs → DzA K H xs ds → Dz K H (.ref a) (.list ds)
  | dic0 {a : Addr} : H a = some (.dT []) → Dz K H (.ref a) (.dict [])
  | dic {a : Addr} {kvs : List (Key × V)} {ds : List PyData} : H a = some (.dK kvs) → DzA K H (kvs.map (·.2)) ds → Dz K H (.ref a) (.dict ((kvs.map fun p => keyP p.1).zip ds))
inductive DzA (K : PySem.W.Frag) (H : Hp) : List V → List PyData → Prop
  | nil : DzA K H [] []
  | cons {v : V} {vs : List V} {d : PyData} {ds : List PyData} : Dz K H v d → DzA K H vs ds → DzA K H (v :: vs) (d :: ds)
end
theorem DzA.len {K : PySem.W.Frag} {H : Hp} : ∀ {vs : List V} {ds : List PyData}, DzA K H vs ds → vs.length = ds.length
  | _, _, .nil => rfl
  | _, _, .cons _ t => congrArg (· + 1) t.len
section
variable {X : Cx} {pins : List (Addr × Obj)} {σ : L2.St} {H : Hp} {s : Shared}
theorem no_sys (hsm : smB X.K = true) (I : Inv X pins σ H s) : H sysModules = none ∧ ∀ o, s.heap.get? sysModules = some o → ∃ es n, o.data = .dict es n := by
  obtain ⟨o, es, n, e, d⟩ := smB_ok hsm
  refine ⟨(I.bs _ o (I.mod.kin _ o e)).2, fun o' e' => ?_⟩
  rw [(I.bs _ o (I.mod.kin _ o e)).1] at e'
  cases e'
  exact ⟨es, n, d⟩
mutual
theorem Dz.reads (hsm : smB X.K = true) (I : Inv X pins σ H s) : ∀ {v : V} {d : PyData} {u : Value}, Dz X.K H v d → RelV v u → ∃ as, Reads s.heap u d as ∧ sysModules ∉ as
  | _, _, _, .non, r => by cases r; exact ⟨[], .none, by simp⟩
  | _, _, _, .bl b, r => by cases r; exact ⟨[], .bool b, by simp⟩
  | _, _, _, .int i, r => by obtain ⟨t, rfl⟩ := r; exact ⟨[], .int i t, by simp⟩
  | _, _, _, .str x, r => by obtain ⟨t, rfl⟩ := r; exact ⟨[], .str x t, by simp⟩
  | _, _, _, .tup hs ha, r => by
    cases r
    obtain ⟨us, rv, ⟨o, e, hc, n, hd⟩, _⟩ := I.tuple hs
    obtain ⟨as, q, nm⟩ := DzA.reads hsm I ha rv
    exact ⟨as, .tuple e hc hd q, nm⟩
  | _, _, _, .lst (a := a) hs ha, r => by
    cases r
    obtain ⟨us, rv, ⟨o, n, e, hc, _, hd⟩, _⟩ := I.list hs
    obtain ⟨as, q, nm⟩ := DzA.reads hsm I ha rv
    refine ⟨a :: as, .list e hc hd q, fun z => ?_⟩
    rcases List.mem_cons.mp z with z | z
    · obtain ⟨es, k, hd'⟩ := (no_sys hsm I).2 o (z ▸ e)
      rw [hd] at hd'
      cases hd'
    · exact nm z
  | _, _, _, .dic0 (a := a) ha, r => by
    cases r
    obtain ⟨_, _, xs, pr, o, es, ep, e, ex, hd, he, _⟩ := I.hok _ _ ha
    cases pr
    refine ⟨_, Reads.dict (as := []) (bs := []) e ex.1 hd (by rw [he]; exact .nil) (by rw [he]; exact .nil), ?_⟩
    simp only [List.append_nil, List.mem_singleton]
    intro z
    rw [← z, (no_sys hsm I).1] at ha
    cases ha
  | _, _, _, .dic (a := a) (kvs := kvs) (ds := ds) ha hv, r => by
    cases r
    obtain ⟨_, _, us, kv, o, es, ep, e, ex, hd, _, pr, _⟩ := I.hok _ _ ha
    obtain ⟨vv, ek⟩ := kv_vals kv
    obtain ⟨bs, q, nm⟩ := DzA.reads hsm I hv vv
    have l := hv.len
    obtain ⟨z1, z2⟩ := zip_fst_snd (l := List.map (fun p : Key × V => keyP p.1) kvs) (m := ds) (by rw [List.length_map, ← l, List.length_map])
    refine ⟨_, Reads.dict (as := []) (bs := bs) e ex.1 hd (by rw [z1, ek]; exact reads_keys pr) (by rw [z2, pairs_vals pr]; exact q), ?_⟩
    intro z
    rcases List.mem_cons.mp (show sysModules ∈ a :: bs from z) with z | z
    · rw [← z, (no_sys hsm I).1] at ha
      cases ha
    · exact nm z
theorem DzA.reads (hsm : smB X.K = true) (I : Inv X pins σ H s) : ∀ {vs : List V} {ds : List PyData} {us : List Value}, DzA X.K H vs ds → Vals vs us → ∃ as, ReadsAll s.heap us ds as ∧ sysModules ∉ as
  | _, _, _, .nil, r => by cases r; exact ⟨[], .nil, by simp⟩
  | _, _, _, .cons h1 h2, r => by
    cases r with
    | cons r1 r2 =>
      obtain ⟨as, q1, n1⟩ := Dz.reads hsm I h1 r1
      obtain ⟨bs, q2, n2⟩ := DzA.reads hsm I h2 r2
      exact ⟨as ++ bs, .cons q1 q2, by simp [n1, n2]⟩
end
end
def rReprZ (K : PySem.W.Frag) : List V → Hp → VK → Prop := fun xs H Q => rRepr K xs H Q ∨ ∃ a p, xs = [.ref a] ∧ Dz K H (.ref a) p ∧ showOk p ∧ Q (.str p.shown) H
theorem call_reprZ {X : Cx} (hsm : smB X.K = true) (hg : X.A.guards = some []) (hu : X.A.units + 66 < cLine) : CallR X (.builtin "repr") (rReprZ X.K) := by
  intro pins s σ H xs us Q I r h
  rcases h with h | ⟨a, p, rfl, hp, ⟨sh, hl, hd⟩, q⟩
  · exact call_reprD hg hu pins s σ H xs us Q I r h
  · obtain ⟨u, rfl, ru⟩ := vals1 r
    obtain ⟨as, rd, nm⟩ := Dz.reads hsm I hp ru
    cases ru
    exact repr_of_reads' rd sh (fun _ => nm) hg (by omega) (fun _ _ e => e) (fun h' u tk hk => ⟨.str _, H, I.kept hk, ⟨_, rfl⟩, q⟩) hl
mutual
def pdzW (f : Nat → Option PyData) : D → Option PyData
  | .non => some .none
  | .bl b => some (.bool b)
  | .int i => some (.int i)
  | .str x => some (.str x)
  | .tup ds => (pdzsW f ds).map .tuple
  | .ktp ds => (pdzsW f ds).map .tuple
  | .lst ds => (pdzsW f ds).map .list
  | .scr ds => (pdzsW f ds).map .list
  | .dic ks ds => match keysPD ks, pdzsW f ds with
    | some p, some q => some (.dict (p.zip q))
    | _, _ => none
  | .ref i => f i
  | _ => none
def pdzsW (f : Nat → Option PyData) : List D → Option (List PyData)
  | [] => some []
  | d :: r => match pdzW f d, pdzsW f r with
    | some p, some q => some (p :: q)
    | _, _ => none
end
def pdzR (S : Sto) : Nat → Nat → Option PyData
  | 0, _ => none
  | n + 1, i => match S[i]? with
    | some (.lst ds) => (pdzsW (pdzR S n) ds).map .list
    | _ => none
def pdz (S : Sto) (d : D) : Option PyData := pdzW (pdzR S 6) d
theorem keysD_len : ∀ {ks : List D} {q : List Key}, keysD ks = some q → ks.length = q.length
  | [], q, h => by simp only [keysD] at h; cases h; rfl
  | d :: r, q, h => by
    simp only [keysD] at h
    split at h
    · rename_i k ks _ e
      cases h
      exact congrArg (· + 1) (keysD_len e)
    · cases h
section
variable {B : Bas} {m : Mp} {H : Hp} {S : Sto} {f : Nat → Option PyData}
theorem dic_dz {a : Addr} {ks : List D} {vs : List V} {kp ps : List PyData} (t : DicAt (H a) ks vs) (h1 : keysPD ks = some kp) (h2 : DzA B.K H vs ps) : Dz B.K H (.ref a) (.dict (kp.zip ps)) := by
  obtain ⟨hl, ⟨k, _, hk, ho⟩ | ⟨k, hk, ho⟩⟩ := t
  · have l := keysD_len hk
    obtain ⟨z1, z2⟩ := zip_fst_snd (l := k) (m := vs) (by omega)
    have e : kp = (k.zip vs).map fun p => keyP p.1 := by
      rw [keys_both h1 hk]
      exact (congrArg (List.map keyP) z1).symm.trans (List.map_map ..)
    rw [e]
    exact .dic ho (by rw [z2]; exact h2)
  · obtain rfl := no_tkeys h1 hk
    cases hk
    cases h1
    exact .dic0 ho
mutual
theorem Rep.dzW (s : Sub m H) (hf : ∀ i p v, Rep B m (.ref i) v → f i = some p → Dz B.K H v p) : ∀ {d : D} {v : V} {p : PyData}, Rep B m d v → pdzW f d = some p → Dz B.K H v p
  | .non, v, p, r, e => by simp only [Rep] at r; simp only [pdzW] at e; cases e; subst r; exact .non
  | .bl b, v, p, r, e => by simp only [Rep] at r; simp only [pdzW] at e; cases e; subst r; exact .bl b
  | .int i, v, p, r, e => by simp only [Rep] at r; simp only [pdzW] at e; cases e; subst r; exact .int i
  | .str x, v, p, r, e => by simp only [Rep] at r; simp only [pdzW] at e; cases e; subst r; exact .str x
  | .tup ds, v, p, r, e => by
    simp only [Rep] at r
    simp only [pdzW, Option.map_eq_some_iff] at e
    obtain ⟨a, vs, rfl, t, q⟩ := r
    obtain ⟨ps, h, rfl⟩ := e
    exact .tup (t.sq s) (Reps.dzW s hf q h)
  | .ktp ds, v, p, r, e => by
    simp only [Rep] at r
    simp only [pdzW, Option.map_eq_some_iff] at e
    obtain ⟨a, vs, rfl, t, q⟩ := r
    obtain ⟨ps, h, rfl⟩ := e
    exact .tup t.sq (Reps.dzW s hf q h)
  | .lst ds, v, p, r, e => by
    simp only [Rep] at r
    simp only [pdzW, Option.map_eq_some_iff] at e
    obtain ⟨a, vs, rfl, t, q⟩ := r
    obtain ⟨ps, h, rfl⟩ := e
    exact .lst (t.sq s) (Reps.dzW s hf q h)
  | .scr ds, v, p, r, e => by
    simp only [Rep] at r
    simp only [pdzW, Option.map_eq_some_iff] at e
    obtain ⟨a, vs, rfl, t, q⟩ := r
    obtain ⟨ps, h, rfl⟩ := e
    exact .lst (t.sq s) (Reps.dzW s hf q h)
  | .dic ks ds, v, p, r, e => by
    simp only [Rep] at r
    simp only [pdzW] at e
    obtain ⟨a, vs, rfl, _, t, q⟩ := r
    split at e
    · rename_i kp ps h1 h2
      cases e
      obtain ⟨u, hu⟩ := t.some
      exact dic_dz (by rw [s _ _ hu, ← hu]; exact t) h1 (Reps.dzW s hf q h2)
    · cases e
  | .ref i, v, p, r, e => by simp only [pdzW] at e; exact hf i p v r e
  | .ins _ _ _, v, p, r, e => by simp [pdzW] at e
  | .fn _, v, p, r, e => by simp [pdzW] at e
  | .ty _, v, p, r, e => by simp [pdzW] at e
  | .cl _, v, p, r, e => by simp [pdzW] at e
  | .lam _ _ _ _ _, v, p, r, e => by simp [pdzW] at e
theorem Reps.dzW (s : Sub m H) (hf : ∀ i p v, Rep B m (.ref i) v → f i = some p → Dz B.K H v p) : ∀ {ds : List D} {vs : List V} {ps : List PyData}, Reps B m ds vs → pdzsW f ds = some ps → DzA B.K H vs ps
  | [], vs, ps, r, e => by simp only [Reps] at r; simp only [pdzsW] at e; cases e; subst r; exact .nil
  | d :: ds, vs, ps, r, e => by
    simp only [Reps] at r
    obtain ⟨v, t, rfl, a, b⟩ := r
    simp only [pdzsW] at e
    split at e
    · rename_i p q h1 h2
      cases e
      exact .cons (Rep.dzW s hf a h1) (Reps.dzW s hf b h2)
    · cases e
end
theorem refs_dz (s : Sub m H) (c : Cor B m S) : ∀ (n i : Nat) (p : PyData) (v : V), Rep B m (.ref i) v → pdzR S n i = some p → Dz B.K H v p
  | 0, _, _, _, _, e => by cases e
  | n + 1, i, p, v, r, e => by
    simp only [pdzR] at e
    split at e
    · rename_i ds hd
      obtain ⟨a, vs, rfl, t, q⟩ := repL (S := S) (ds := ds) s c r (by simp only [seqL, hd])
      obtain ⟨ps, h, rfl⟩ := Option.map_eq_some_iff.mp e
      exact .lst t (Reps.dzW s (fun i p v => refs_dz s c n i p v) q h)
    · cases e
theorem Rep.dz (s : Sub m H) (c : Cor B m S) {d : D} {v : V} {p : PyData} (r : Rep B m d v) (e : pdz S d = some p) : Dz B.K H v p := Rep.dzW s (fun i p v => refs_dz s c 6 i p v) r e
end
def isRf : D → Bool
  | .tup _ => true
  | .ktp _ => true
  | .lst _ => true
  | .scr _ => true
  | .dic _ _ => true
  | .ref _ => true
  | _ => false
theorem Rep.isRf {B : Bas} {m : Mp} {d : D} {v : V} (r : Rep B m d v) (h : isRf d = true) : ∃ a, v = .ref a := by
  cases d <;> simp only [G.isRf, reduceCtorEq] at h <;> simp only [Rep] at r
  · obtain ⟨a, _, e, _⟩ := r; exact ⟨a, e⟩
  · obtain ⟨a, _, e, _⟩ := r; exact ⟨a, e⟩
  · obtain ⟨a, _, e, _⟩ := r; exact ⟨a, e⟩
  · exact ⟨_, r.2⟩
  · obtain ⟨a, _, e, _⟩ := r; exact ⟨a, e⟩
  · obtain ⟨a, _, e, _⟩ := r; exact ⟨a, e⟩
def reprZ1 (S : Sto) (x : D) : Option D := match pdz S x with
  | some p => if isRf x = true ∧ showOk p then some (.str p.shown) else none
  | none => none
def dReprZ (S : Sto) (ds : List D) : Option D := match dRepr S ds with
  | some d => some d
  | none => match ds with
    | [x] => reprZ1 S x
    | _ => none
theorem opn_reprZ {B : Bas} : OpN B (rReprZ B.K) dReprZ := fun m S H xs ds d s c r e Q q => by
  unfold dReprZ at e
  split at e
  · rename_i z hz
    cases e
    exact .inl (opn_repr m S H xs ds _ s c r hz Q q)
  · split at e
    · rename_i x _
      obtain ⟨v, rfl, rv⟩ := r.one
      unfold reprZ1 at e
      split at e
      · rename_i p hp
        split at e
        · rename_i ok
          cases e
          obtain ⟨a, rfl⟩ := rv.isRf ok.1
          exact .inr ⟨a, p, rfl, rv.dz s c hp, ok.2, q_val s c q (rp_str m)⟩
        · cases e
      · cases e
    · cases e
theorem dReprZ_of {S : Sto} {ds : List D} {d : D} (h : dRepr S ds = some d) : dReprZ S ds = some d := by
  unfold dReprZ
  rw [h]
end G
end
section
namespace G
open PySem L2
section
variable {P : Program} {w : World} {K : PySem.W.Frag} {mg : Str → Option Value} {base : Heap} {CX : CXT} {B : Bas} {f : Addr} {fd : FuncData} {ps : List Str} {k : Nat} {F : Fn}
theorem FnG.imp {sp sp' : Sp} (h : FnG P w K mg base CX k f fd ps sp) (g : ∀ vs H Q E, sp' vs H Q E → sp vs H Q E) : FnG P w K mg base CX k f fd ps sp' :=
  ⟨fun vs H Q E q => h.len vs H Q E (g _ _ _ _ q), fun A outer s H args us vs Q E hg hr e0 hb r q => h.run A outer s H args us vs Q E hg hr e0 hb r (g _ _ _ _ q)⟩
theorem FnG.mono {sp : Sp} {j : Nat} (h : FnG P w K mg base CX k f fd ps sp) (hk : k ≤ j) : FnG P w K mg base CX j f fd ps sp :=
  ⟨h.len, fun A outer s H args us vs Q E hg hr => h.run A outer s H args us vs Q E hg (hr.mono hk)⟩
end
section
variable {X : Cx} {B : Bas} {W : WX} {e : Expr} {es : List Expr} {pos p : Pos} {mr : MA} {x : Str}
end
end G
end
section
namespace G
open PySem PySem.Spec PyProof.Rows L2
abbrev leBase : List Value := [.type "LookupError", .type "Exception", .type "BaseException", .type "object"]
structure OexL (K : PySem.W.Frag) (C : Addr) : Prop where
  ini : PySem.W.excInitIn K C leBase "LookupError.__new__" = true
  over : PySem.W.excOver K C leBase = true
  dict : PySem.W.hasDictIn K C = true
  sa : PySem.W.findIn K (.ref C) "__setattr__" = some (some (.builtin "object.__setattr__"))
  exC : PySem.W.subIn K (.ref C) (.type "BaseException") = some true
  tyC : PySem.W.typeIn K (.ref C) = some (.type "type")
  kC : PySem.W.keepIn K (.ref C) = true
section
variable {X : Cx} {pins : List (Addr × Obj)} {σ : L2.St} {H : Hp} {s : Shared} {a C : Addr} {f : Str} {y : V} {u : Value} {Q : Unit → Shared → Prop} {E : Value → Shared → Prop} {A : Around}
theorem inv_dict {h' : Heap} {t' : Nat} {dx : Addr} {mA : Str → Option Value} {oa ob : Obj} {fs : List (Str × V)} (I : Inv X pins σ H s) (e : H a = some (exo a C none)) (hs : s.heap.get? a = some oa) (hdx : s.heap.get? dx = none) (hn : H dx = none) (ne : dx ≠ a)
    (k : ∀ b o, b ≠ a → s.heap.get? b = some o → h'.get? b = some o) (hx : h'.get? a = some ob) (ok : ObjOk X.prog X.w (upd (upd H dx (exd dx fs)) a (exo a C (some dx))) h' a (exo a C (some dx))) (hd : h'.Ns1 dx mA) (r : ∀ g, RelO (fs.lookup g) (mA g)) (nf : oa.isFreed = false) :
    Inv X pins σ (upd (upd H dx (exd dx fs)) a (exo a C (some dx))) { s with heap := h', toks := t' } := by
  have at_a : (h'.update a fun _ => oa).get? a = some oa := Heap.get?_update_self _ hx nf
  have at_b : ∀ b, b ≠ a → (h'.update a fun _ => oa).get? b = h'.get? b := fun b hb => Heap.get?_update_ne _ _ _ _ hb
  have J : Inv X pins σ (upd H dx (exd dx fs)) { s with heap := h'.update a fun _ => oa, toks := t' } := by
    refine I.laidN (fun b o q => ?_) hdx hn (exd_ok (hd.at fun o q => (at_b dx ne).trans q) r)
    by_cases hb : b = a
    · subst hb
      rw [hs] at q
      cases q
      exact at_a
    · exact (at_b b hb).trans (k b o hb q)
  have ea : upd H dx (exd dx fs) a = some (exo a C none) := (upd_ne (Ne.symm ne)).trans e
  exact J.write (t' := t') (x := a) (e := a) (o := exo a C (some dx)) (h' := h') (by rw [ea]; exact True.intro) (.inl rfl) (fun b o hb q => (at_b b hb).symm.trans q) ⟨ob, hx⟩ ok
theorem ost_newL (T : OexL X.K C) (I : Inv X pins σ H s) (e : H a = some (exo a C none)) (hno : PySem.W.takerIn X.K C f = some none) (ry : RelV y u)
    (h : ∀ dx s', H dx = none → dx ≠ a → Inv X pins σ (upd (upd H dx (exd dx [(f, y)])) a (exo a C (some dx))) s' → Q () s') : wpAny (model X.prog X.w) A (setAttr (.ref a) f u) Q E s := by
  obtain ⟨t1, ho⟩ := exo_at I.hok e
  have lt := Heap.lt_size ho
  refine PySem.W.set_plain I.kIn (od := none) ⟨ho, rfl, rfl, trivial⟩ T.sa (PySem.W.osa_openX (od := none) PySem.F.store_LookupError I.kIn ⟨ho, rfl, rfl, trivial⟩ T.over hno fun b => ?_)
  obtain ⟨cd, hc, hd⟩ := PySem.W.any_some T.dict
  refine wpAny_bind (wpAny_pure (wpAny_bind (PySem.W.instanceDict_exc (c2 := .none) ho (PySem.W.looks_clsIn I.kIn hc) hd ?_)))
  refine PySem.HandSPX.store_in_new (dx := s.heap.objs.size) ?_ fun h' tk' hn hb => ?_
  · exact ⟨_, #[], 0, (Heap.get?_update_ne _ _ _ _ (Nat.ne_of_gt lt)).trans (Heap.get?_push_size _ rfl), rfl, fun _ z => absurd z (by simp), fun _ => rfl⟩
  · have ne : s.heap.objs.size ≠ a := Nat.ne_of_gt lt
    have hx : h'.get? a = some _ := (hb.2 a (Ne.symm ne)).trans (Heap.get?_update_self _ (Heap.get?_push_of_some _ ho) rfl)
    refine h s.heap.objs.size _ (I.hok.fresh (Nat.le_refl _)) ne (inv_dict (t' := tk') (I.tok _) e ho (Heap.get?_none_of_le (Nat.le_refl _)) (I.hok.fresh (Nat.le_refl _)) ne (fun b o hba q => ?_) hx (exo_ok hx) hn (fun g => ?_) rfl)
    · exact (hb.2 b (Nat.ne_of_lt (Heap.lt_size q))).trans ((Heap.get?_update_ne _ _ _ _ hba).trans (Heap.get?_push_of_some _ q))
    · exact relO_put (fs := []) (mA := fun _ => none) ry (fun _ => True.intro) g
end
def tOsL (K : PySem.W.Frag) (f : Str) (to te : TE) : TS := fun D σ H => te σ H fun y H1 => to σ H1 fun x H2 => ∃ (a C : Addr), x = .ref a ∧ OexL K C ∧ PySem.W.takerIn K C f = some none ∧ H2 a = some (exo a C none) ∧ ∀ dx, H2 dx = none → dx ≠ a → D.nx σ (upd (upd H2 dx (exd dx [(f, y)])) a (exo a C (some dx)))
theorem ps_osL {X : Cx} {o e : Expr} {to te : TE} {f : Str} {p' pos : Pos} (ho : PE X o to) (he : PE X e te) (hs : swapsWith e (some (.Attribute o f p')) pos.line X.env = pure false := by rfl) : PS X (.Assign [.Attribute o f p'] e pos) (tOsL X.K f to te) := ⟨fun pins s σ H D I h => by
  refine plainObj_wpAny_Assign_Attribute (thn (he.run pins s σ H _ I h) fun v s1 h1 => ?_) hs
  obtain ⟨y, H1, I1, r1, q1⟩ := h1
  refine thn (ho.run pins s1 σ H1 _ I1 q1) fun u s2 h2 => ?_
  obtain ⟨x, H2, I2, r2, a, C, rfl, T, hno, ea, q⟩ := h2
  obtain rfl : u = Value.ref a := r2
  exact ost_newL T I2 ea hno r1 fun dx s' n ne J => ⟨σ, _, J, q dx n ne⟩⟩
section
variable {P : Program} {w : World} {K : PySem.W.Frag} {mg : Str → Option Value} {base : Heap} {x qual : Str} {st : Stmt} {fI : Addr} {fd : FuncData} {C : Addr} {f : Str} {N ps : List Str} {k : Nat}
theorem initL_ok (F : Fun K x qual st fI fd) (S : FnScope N ps (defScope st)) (hp : ps.length = 2) (T : OexL K C) (hno : PySem.W.takerIn K C f = some none) (hN : 2 ≤ N.length)
    (hb : ∀ (cdv : Value) (A : Around) (outer : List Env) (s : Shared) (H : Hp) (E : XK), PSs (cxOf (L2.CX P w) P w K mg base N qual (defScope st) fI cdv A outer s H E) (defBody st) (tOsL K f (tVar 0) (tVar 1))) :
    FnOk P w K mg base (L2.CX P w) (k + 1) fI fd ps (spI1 C f) := by
  refine F.okX S (fun vs H Q E h => ?_) fun cdv A outer s H vs Q E hr h => ⟨_, hb cdv A outer s H E, ?_⟩
  · obtain ⟨a, y, rfl, _⟩ := h
    rw [hp]; rfl
  · obtain ⟨a, y, rfl, ha, q⟩ := h
    match N, hN with
    | n1 :: n2 :: N', _ => exact ⟨y, rfl, .ref a, rfl, a, C, rfl, T, hno, ha, fun dx h1 h2 => q dx h1 h2⟩
end
def CalL1 (P : Program) (w : World) (K : PySem.W.Frag) (mg : Str → Option Value) (base : Heap) (B : Bas) (x : Str) (c k : Nat) (f : Str) : Prop :=
  ∃ (fI : Addr) (fd : FuncData) (ps : List Str), FnOk P w K mg base (L2.CX P w) k fI fd ps (spI1 (B.cls c) f) ∧ OexL K (B.cls c) ∧ PySem.W.findIn K (.ref (B.cls c)) "__init__" = some (some (.ref fI)) ∧ PySem.W.typeIn K (.ref fI) = some (.type "function") ∧ Binds K fd ps [] ∧ mg x = some (.ref (B.cls c))
section
variable {X : Cx} {B : Bas} {W : WX} {e : Expr} {x f : Str} {p pos rpos : Pos} {mr : MA} {c k j : Nat}
end
def oexLB (K : PySem.W.Frag) (C : Addr) : Bool := PySem.W.excInitIn K C leBase "LookupError.__new__" && (PySem.W.excOver K C leBase && (PySem.W.hasDictIn K C && (He.eqO (PySem.W.findIn K (.ref C) "__setattr__") (some (some (.builtin "object.__setattr__"))) &&
  (decide (PySem.W.subIn K (.ref C) (.type "BaseException") = some true) && (decide (PySem.W.typeIn K (.ref C) = some (.type "type")) && PySem.W.keepIn K (.ref C))))))
theorem oexLB_ok {K : PySem.W.Frag} {C : Addr} (h : oexLB K C = true) : OexL K C := by
  obtain ⟨h1, h⟩ := He.ba h
  obtain ⟨h2, h⟩ := He.ba h
  obtain ⟨h3, h⟩ := He.ba h
  obtain ⟨h4, h⟩ := He.ba h
  obtain ⟨h5, h⟩ := He.ba h
  obtain ⟨h6, h7⟩ := He.ba h
  exact ⟨h1, h2, h3, He.eqO_ok h4, of_decide_eq_true h5, of_decide_eq_true h6, h7⟩
def iniLB (K : PySem.W.Frag) (x f : Str) : Bool := oexLB K (He.ga K x) && (He.eqO (PySem.W.findIn K (.ref (He.ga K x)) "__init__") (some (some (.ref (He.ma K (He.ga K x) "__init__")))) && (decide (PySem.W.typeIn K (.ref (He.ma K (He.ga K x) "__init__")) = some (.type "function")) &&
  decide (PySem.W.takerIn K (He.ga K x) f = some none)))
theorem iniLB_ok {K : PySem.W.Frag} {x f : Str} (h : iniLB K x f = true) : OexL K (He.ga K x) ∧ PySem.W.findIn K (.ref (He.ga K x)) "__init__" = some (some (.ref (He.ma K (He.ga K x) "__init__"))) ∧ PySem.W.typeIn K (.ref (He.ma K (He.ga K x) "__init__")) = some (.type "function") ∧ PySem.W.takerIn K (He.ga K x) f = some none := by
  obtain ⟨h1, h⟩ := He.ba h
  obtain ⟨h2, h⟩ := He.ba h
  obtain ⟨h3, h4⟩ := He.ba h
  exact ⟨oexLB_ok h1, He.eqO_ok h2, of_decide_eq_true h3, of_decide_eq_true h4⟩
end G
end
section
namespace G
open PySem PySem.Spec PyProof.Rows L2
structure Lnd (X : Cx) (pins : List (Addr × Obj)) (σ : L2.St) (H : Hp) (a : Addr) (cls : Value) (d : Option Addr) (T : Heap) (sI s : Shared) : Prop where
  inv : Inv X pins σ H sI
  nb : ∀ b o, sI.heap.get? b = some o → b ∉ frs X.stack → T.get? b = some o
  up : sI.heap.UpToSlots s.heap
  fly : HandSPX.FlyingZ T (X.env :: X.outer) a (Zc cls d) s.heap
  na : H a = none
  os : s.os = sI.os
  ag : AllBare s.gens
section
variable {X : Cx} {pins : List (Addr × Obj)} {σ : L2.St} {H : Hp} {a : Addr} {cls : Value} {d : Option Addr} {T : Heap} {sI s : Shared}
theorem Lnd.here (L : Lnd X pins σ H a cls d T sI s) : Inv X pins σ H s := L.inv.landed L.nb L.fly.1 L.up L.os L.ag
theorem Lnd.on (L : Lnd X pins σ H a cls d T sI s) {h : Heap} (fl : HandSPX.FlyingZ T (X.env :: X.outer) a (Zc cls d) h) (k : s.heap.UpToSlots h) : Lnd X pins σ H a cls d T sI { s with heap := h } := ⟨L.inv, L.nb, L.up.trans k, fl, L.na, L.os, L.ag⟩
theorem Lnd.obj (L : Lnd X pins σ H a cls d T sI s) : ∃ oe vs, s.heap.get? a = some oe ∧ Zc cls d oe ∧ oe.data = .fields vs := L.fly.there
theorem Lnd.noFr (L : Lnd X pins σ H a cls d T sI s) : a ∉ frs (X.env :: X.outer) := fun hm => by
  obtain ⟨oe, vs, e, _, dd⟩ := L.obj
  obtain ⟨_, o', e', hd⟩ := L.fly.2.2.1.mem hm
  rw [e] at e'
  cases e'
  exact hd _ dd
theorem Lnd.noL (L : Lnd X pins σ H a cls d T sI s) (hf : X.env.frame = some X.env.locals) : a ≠ X.env.locals := fun z => L.noFr (List.mem_filterMap.mpr ⟨X.env, List.mem_cons_self, z ▸ hf⟩)
theorem Lnd.noF (L : Lnd X pins σ H a cls d T sI s) : a ∉ X.fs := fun hm => by
  obtain ⟨e, he, q⟩ := List.mem_filterMap.mp hm
  exact L.noFr (List.mem_filterMap.mpr ⟨e, List.mem_cons_of_mem _ he, q⟩)
theorem Lnd.suite (L : Lnd X pins σ H a cls d T sI s) (hf : X.env.frame = some X.env.locals) {oe : Obj} {vs : Array Value} (e : s.heap.get? a = some oe) (hd : oe.data = .fields vs) : Inv (X.suite a ((a, oe) :: (X.pn ++ pins))) [] σ H s :=
  L.here.suite e hd L.na (L.noL hf) L.noF
theorem Lnd.test (L : Lnd X pins σ H a cls d T sI s) (hf : X.env.frame = some X.env.locals) {x : Str} {c : Value} {np : Pos} {b : Bool} {Q : Bool → Shared → Prop} {E : Value → Shared → Prop} (hc : Names X x c) (hb : PySem.W.exmOne X.K cls c = some b) (q : Q b s) :
    wpAny (model X.prog X.w) (X.A.mark (some (.ref a))) (eval (.Name x np) X.env) (fun v s1 => wpAny (model X.prog X.w) (X.A.mark (some (.ref a))) (excMatches (.ref a) v) Q E s1) E s := by
  obtain ⟨oe, vs, e, z, dd⟩ := L.obj
  have S := L.suite hf e dd
  have ty : PySem.W.Looks (model X.prog X.w) s.heap (typeOf (.ref a)) cls := fun A Q E s k q => wpAny_typeOf_ref (k _ _ e) (by rw [z.1]; exact q)
  have fin := (PySem.W.exm_one (M := model X.prog X.w) L.here.kIn ty hb).here (A := X.A.mark (some (.ref a))) (E := E) (s := s) q
  obtain ⟨hg, hdb, hm | ⟨hm, hv, hn⟩⟩ := hc
  · exact ld_glob (X := X.suite a ((a, oe) :: (X.pn ++ pins))) S hg hm fin hdb
  · exact ld_blt (X := X.suite a ((a, oe) :: (X.pn ++ pins))) S hg hm hv fin hn hdb
end
abbrev Clz := Value × Option Nat × (Addr → Value → Option Addr → TS)
def unE (i : Nat) (D : Ends) : Ends := { nx := fun σ H => D.nx (σ.set i none) H, rt := D.rt, bk := fun σ H => D.bk (σ.set i none) H, ct := fun σ H => D.ct (σ.set i none) H }
def runC : Clz → Addr → Value → Option Addr → TS
  | (_, some i, ts), a, cls, d => fun D σ H => ts a cls d (unE i D) (σ.set i (some (.ref a))) H
  | (_, none, ts), a, cls, d => ts a cls d
def NmOk (X : Cx) : Option Str → Option Nat → Prop
  | some n, some i => X.N[i]? = some n ∧ X.env.kindOf n = some .local
  | none, none => True
  | _, _ => False
inductive HdG (X : Cx) : List ExceptHandler → List Clz → Prop
  | nil : HdG X [] []
  | cons {x : Str} {n : Option Str} {c : Clz} {b₀ : Stmt} {suite : List Stmt} {np pos' : Pos} {hds : List ExceptHandler} {l : List Clz} (hc : Names X x c.1) (hn : NmOk X n c.2.1)
      (hsu : ∀ (a : Addr) (oe : Obj) (cls : Value) (d : Option Addr) (pn : List (Addr × Obj)), Zc cls d oe → (∃ vs, oe.data = .fields vs) → PSs (X.suite a ((a, oe) :: pn)) (b₀ :: suite) (c.2.2 a cls d)) (r : HdG X hds l) :
      HdG X (.ExceptHandler (some (.Name x np)) n (b₀ :: suite) pos' :: hds) (c :: l)
section
variable {X : Cx} {pins : List (Addr × Obj)} {σ : L2.St} {H : Hp} {a : Addr} {cls : Value} {d : Option Addr} {T : Heap} {sI s : Shared} {D : Ends} {W : WX}
end
inductive Hd where
  | as (d i : Nat) (f : XS)
  | on (d : Nat) (b : MS)
def Hd.cl : Hd → Nat
  | .as d _ _ => d
  | .on d _ => d
def hdV (B : Bas) (cs : List Nat) : Hd → Clz
  | .as d i f => (.ref (B.cls d), some i, fun a cls dd => tXS B cs i a cls dd f)
  | .on d b => (.ref (B.cls d), none, fun _ _ _ => tS B W0 b)
def Hd.run : Hd → Nat → List Str → List D → En → Sto → Res Fl
  | .as _ i f, c, ns, vs, en, S => if i < en.length then catchR i f c ns vs en S else .bad
  | .on _ b, _, _, _, en, S => (b en S).noex
def catchG : List Hd → Nat → List Str → List D → En → Sto → Res Fl
  | [], c, ns, vs, _, S => .ex c ns vs S
  | h :: r, c, ns, vs, en, S => if isSub c h.cl = true then h.run c ns vs en S else catchG r c ns vs en S
def tryGK (cs : List Nat) (hs : List Hd) (en : En) : Res Fl → Res Fl
  | .ok g S1 => .ok g S1
  | .ex c ns vs S1 => if c ∈ cs then catchG hs c ns vs en S1 else .bad
  | .bad => .bad
def sTryG (cs : List Nat) (hs : List Hd) (b : MS) : MS := fun en S => tryGK cs hs en (b en S)
section
variable {X : Cx} {B : Bas} {W : WX} {cs : List Nat}
inductive HdD (X : Cx) (B : Bas) (cs : List Nat) : List ExceptHandler → List Hd → Prop
  | nil : HdD X B cs [] []
  | as {x n : Str} {d i : Nat} {f : XS} {b₀ : Stmt} {suite : List Stmt} {np pos' : Pos} {hds : List ExceptHandler} {l : List Hd} (hc : Names X x (.ref (B.cls d))) (hi : X.N[i]? = some n) (hl : X.env.kindOf n = some .local)
      (hex : ∀ c ∈ cs, PySem.W.exmOne X.K (.ref (B.cls c)) (.ref (B.cls d)) = some (isSub c d))
      (hsu : ∀ (a : Addr) (oe : Obj) (cls : Value) (dd : Option Addr) (pn : List (Addr × Obj)), Zc cls dd oe → (∃ vs, oe.data = .fields vs) → PSs (X.suite a ((a, oe) :: pn)) (b₀ :: suite) (tXS B (cs.filter fun c => isSub c d) i a cls dd f)) (r : HdD X B cs hds l) :
      HdD X B cs (.ExceptHandler (some (.Name x np)) (some n) (b₀ :: suite) pos' :: hds) (.as d i f :: l)
  | on {x : Str} {d : Nat} {mb : MS} {b₀ : Stmt} {suite : List Stmt} {np pos' : Pos} {hds : List ExceptHandler} {l : List Hd} (hc : Names X x (.ref (B.cls d)))
      (hex : ∀ c ∈ cs, PySem.W.exmOne X.K (.ref (B.cls c)) (.ref (B.cls d)) = some (isSub c d))
      (hsu : ∀ (a : Addr) (oe : Obj) (pn : List (Addr × Obj)), PSs (X.suite a ((a, oe) :: pn)) (b₀ :: suite) (tS B W0 mb)) (r : HdD X B cs hds l) :
      HdD X B cs (.ExceptHandler (some (.Name x np)) none (b₀ :: suite) pos' :: hds) (.on d mb :: l)
def hdW (B : Bas) (cs : List Nat) (h : Hd) : Clz := hdV B (cs.filter fun c => isSub c h.cl) h
theorem HdD.g {hds : List ExceptHandler} {l : List Hd} (h : HdD X B cs hds l) : HdG X hds (l.map (hdW B cs)) := by
  induction h with
  | nil => exact .nil
  | as hc hi hl hex hsu r ih => exact .cons (c := hdW B cs (.as _ _ _)) hc ⟨hi, hl⟩ hsu ih
  | on hc hex hsu r ih => exact .cons (c := hdW B cs (.on _ _)) hc True.intro (fun a oe cls d pn _ _ => hsu a oe pn) ih
end
end G
end
section
namespace G
open PySem PySem.Spec PyProof.Rows L2
def popL (i : Nat) (S : Sto) (ds : List D) : Res D := match ds.getLast? with
  | some d => .ok d (S.set i (.lst ds.dropLast))
  | none => .bad
def popO (i : Nat) (S : Sto) : Option Ob → Res D
  | some (.lst ds) => popL i S ds
  | _ => .bad
def popK : D → Sto → Res D
  | .ref i, S => popO i S S[i]?
  | _, _ => .bad
def mPop (o : ME) : ME := fun en S => (o en S).bind popK
theorem mPop_ap (o : ME) (en : En) (S : Sto) : mPop o en S = (o en S).bind popK := rfl
theorem popK_ref (i : Nat) (S : Sto) : popK (.ref i) S = popO i S S[i]? := rfl
theorem sTryG_ap (cs : List Nat) (hs : List Hd) (b : MS) (en : En) (S : Sto) : sTryG cs hs b en S = tryGK cs hs en (b en S) := rfl
theorem tryGK_ok (cs : List Nat) (hs : List Hd) (en : En) (g : Fl) (S : Sto) : tryGK cs hs en (.ok g S) = .ok g S := rfl
end G
end
section
namespace G
open PySem L2 PySem.Spec PyProof.Rows
def goK2 (c : Nat) (F : Fn) (x y : D) (S : Sto) : Res D := match insOf S x with
  | some (c', _, _) => if c' = c ∧ F.n = 2 then F.run [x, y] S else .bad
  | none => .bad
def goK1 (c : Nat) (F : Fn) (b : ME) (en : En) (x : D) (S : Sto) : Res D := (b en S).bind (goK2 c F x)
def mGetO (c : Nat) (F : Fn) (a b : ME) : ME := fun en S => (a en S).bind (goK1 c F b en)
section
variable {X : Cx} {B : Bas} {W : WX} {a b : Expr} {pos : Pos} {ma mb : ME} {c k j : Nat} {F : Fn}
end
theorem mGetO_ap (c : Nat) (F : Fn) (a b : ME) (en : En) (S : Sto) : mGetO c F a b en S = (a en S).bind (goK1 c F b en) := rfl
theorem goK1_ap (c : Nat) (F : Fn) (b : ME) (en : En) (x : D) (S : Sto) : goK1 c F b en x S = (b en S).bind (goK2 c F x) := rfl
section
variable {X : Cx}
end
def strK2 (z : D) (S : Sto) : Res D := match z with
  | .str x => .ok (.str x) S
  | _ => .bad
def strK (c : Nat) (F : Fn) (d : D) (S : Sto) : Res D := match insOf S d with
  | some (c', _, _) => if c' = c ∧ F.n = 1 then ((F.run [d] S).noex).bind strK2 else .bad
  | none => .bad
def mStrO (c : Nat) (F : Fn) (e : ME) : ME := fun en S => (e en S).bind (strK c F)
theorem mStrO_ap (c : Nat) (F : Fn) (e : ME) (en : En) (S : Sto) : mStrO c F e en S = (e en S).bind (strK c F) := rfl
section
variable {X : Cx}
end
def kindA (cs : List Nat) (S : Sto) (y : D) : Bool := match insOf S y with
  | some (c', _, _) => decide (c' ∈ cs)
  | none => match tyN S y with
    | some n => decide (n ∈ tyNames)
    | none => false
noncomputable def cmpAK2 (c : Nat) (cs : List Nat) (F : Fn) (x y : D) (S : Sto) : Res D := match insOf S x with
  | some (c1, _, _) => if c1 = c ∧ F.n = 2 ∧ kindA cs S y = true then ((F.run [x, y] S).noex).bind cmpOK3 else .bad
  | none => .bad
noncomputable def cmpAK1 (c : Nat) (cs : List Nat) (F : Fn) (b : ME) (en : En) (x : D) (S : Sto) : Res D := (b en S).bind (cmpAK2 c cs F x)
noncomputable def mCmpA (c : Nat) (cs : List Nat) (F : Fn) (a b : ME) : ME := fun en S => (a en S).bind (cmpAK1 c cs F b en)
section
variable {X : Cx} {B : Bas} {W : WX} {a b : Expr} {pos : Pos} {ma mb : ME} {c k j : Nat} {cs : List Nat} {F : Fn}
end
theorem mCmpA_ap (c : Nat) (cs : List Nat) (F : Fn) (a b : ME) (en : En) (S : Sto) : mCmpA c cs F a b en S = (a en S).bind (cmpAK1 c cs F b en) := rfl
theorem cmpAK1_ap (c : Nat) (cs : List Nat) (F : Fn) (b : ME) (en : En) (x : D) (S : Sto) : cmpAK1 c cs F b en x S = (b en S).bind (cmpAK2 c cs F x) := rfl
end G
end
section
namespace G
open PySem PySem.Spec PyProof.Rows L2 He
def fnWs (K : PySem.W.Frag) : List DefD → List FnW
  | [] => []
  | d :: r => fnW K d.at_ :: fnWs K r
def valWs : List DefD → List FnW
  | [] => []
  | d :: r => d.val :: valWs r
def gtWs (K : PySem.W.Frag) : List GetD → List FnW
  | [] => []
  | d :: r => fnWA K (pAd K d.c d.x) :: gtWs K r
def gtVs : List GetD → List FnW
  | [] => []
  | d :: r => d.d.val :: gtVs r
def faAll (K : PySem.W.Frag) : List Fa → Bool
  | [] => true
  | f :: r => f.ok K && faAll K r
def fnAll (K : PySem.W.Frag) : List DefD → Bool
  | [] => true
  | d :: r => d.ok K && fnAll K r
def gtAll (K : PySem.W.Frag) : List GetD → Bool
  | [] => true
  | d :: r => d.ok K && gtAll K r
def exAll (K : PySem.W.Frag) : List (PySem.W.Frag → Bool) → Bool
  | [] => true
  | f :: r => f K && exAll K r
theorem fnWs_eq {K : PySem.W.Frag} : ∀ l : List DefD, fnWs K l = l.map fun d => fnW K d.at_
  | [] => rfl
  | d :: r => congrArg (fnW K d.at_ :: ·) (fnWs_eq r)
theorem valWs_eq : ∀ l : List DefD, valWs l = l.map DefD.val
  | [] => rfl
  | d :: r => congrArg (d.val :: ·) (valWs_eq r)
theorem gtWs_eq {K : PySem.W.Frag} : ∀ l : List GetD, gtWs K l = l.map fun d => fnWA K (pAd K d.c d.x)
  | [] => rfl
  | d :: r => congrArg (fnWA K (pAd K d.c d.x) :: ·) (gtWs_eq r)
theorem gtVs_eq : ∀ l : List GetD, gtVs l = l.map fun d => d.d.val
  | [] => rfl
  | d :: r => congrArg (d.d.val :: ·) (gtVs_eq r)
theorem faAll_eq {K : PySem.W.Frag} : ∀ l : List Fa, faAll K l = l.all fun f => f.ok K
  | [] => rfl
  | f :: r => congrArg (f.ok K && ·) (faAll_eq r)
theorem fnAll_eq {K : PySem.W.Frag} : ∀ l : List DefD, fnAll K l = l.all fun f => f.ok K
  | [] => rfl
  | f :: r => congrArg (f.ok K && ·) (fnAll_eq r)
theorem gtAll_mem {K : PySem.W.Frag} : ∀ {l : List GetD}, gtAll K l = true → ∀ g ∈ l, g.ok K = true
  | [], _, g, h => by cases h
  | d :: r, e, g, h => by
    obtain ⟨h1, h2⟩ := ba (show (d.ok K && gtAll K r) = true from e)
    rcases List.mem_cons.mp h with rfl | h
    · exact h1
    · exact gtAll_mem h2 g h
theorem exAt {K : PySem.W.Frag} : ∀ {l : List (PySem.W.Frag → Bool)}, exAll K l = true → ∀ (i : Nat) {f : PySem.W.Frag → Bool}, l[i]? = some f → f K = true
  | [], _, i, f, e => by simp at e
  | g :: r, h, 0, f, e => by
    simp only [List.getElem?_cons_zero, Option.some.injEq] at e
    subst e
    exact (ba (show (g K && exAll K r) = true from h)).1
  | g :: r, h, i + 1, f, e => exAt (ba (show (g K && exAll K r) = true from h)).2 i (by simpa using e)
section
variable (as : List Addr) (fa : List Fa) (fn : List DefD) (gs : List GetD) (ex : List (PySem.W.Frag → Bool)) (g : Addr → Option Obj)
def obL1 : Bool := (fun K => faAll K fa && (fnAll K fn && (gtAll K gs && exAll K ex))) (frT g as)
def obL2 : List FnW := fnWs (frT g as) fn
def obL3 : List FnW := gtWs (frT g as) gs
abbrev AlL : Type := Bool × List FnW × List FnW
theorem saysL_of (e : (obL1 as fa fn gs ex g, obL2 as fn g, obL3 as gs g) = (true, valWs fn, gtVs gs)) : SaysP fa fn gs (fun K => exAll K ex) (frT g as) := by
  have e1 : (faAll (frT g as) fa && (fnAll (frT g as) fn && (gtAll (frT g as) gs && exAll (frT g as) ex))) = true := congrArg (fun z : AlL => z.1) e
  have e2 : fnWs (frT g as) fn = valWs fn := congrArg (fun z : AlL => z.2.1) e
  have e3 : gtWs (frT g as) gs = gtVs gs := congrArg (fun z : AlL => z.2.2) e
  obtain ⟨h1, h⟩ := ba e1
  obtain ⟨h2, h⟩ := ba h
  obtain ⟨h3, h4⟩ := ba h
  refine ⟨?_, h4, gtAll_mem h3, by rw [← gtWs_eq, ← gtVs_eq, e3]⟩
  unfold SaysD obsD valD
  rw [← faAll_eq, ← fnAll_eq, ← fnWs_eq, ← valWs_eq, h1, h2, e2]
  rfl
end
def hookL (as : List Addr) (fa : List Fa) (fn : List DefD) (gs : List GetD) (ex : List (PySem.W.Frag → Bool)) : PySem.W.Hook where
  α := AlL
  obs := fun s => (obL1 as fa fn gs ex s.heap.get?, obL2 as fn s.heap.get?, obL3 as gs s.heap.get?)
  val := fun _ => (true, valWs fn, gtVs gs)
  says := fun _ h => ∃ K : PySem.W.Frag, K.In h ∧ SaysP fa fn gs (fun K => exAll K ex) K
  of := fun _ s e => ⟨frT s.heap.get? as, frT_in, saysL_of as fa fn gs ex s.heap.get? e⟩
  keeps := fun _ _ _ ⟨K, hK, c⟩ k => ⟨K, PySem.W.Frag.In.keeps hK k, c⟩
def obL (as : List Addr) (fa : List Fa) (fn : List DefD) (gs : List GetD) (ex : List (PySem.W.Frag → Bool)) (s : PySem.W.SharedT) : AlL := (obL1 as fa fn gs ex (HandSHeadRun.getT s), obL2 as fn (HandSHeadRun.getT s), obL3 as gs (HandSHeadRun.getT s))
theorem obL_eq {as : List Addr} {fa : List Fa} {fn : List DefD} {gs : List GetD} {ex : List (PySem.W.Frag → Bool)} (s : PySem.W.SharedT) : obL as fa fn gs ex s = (hookL as fa fn gs ex).obs s.abs := by
  have e : HandSHeadRun.getT s = s.abs.heap.get? := funext (HandSHeadRun.getT_eq s)
  unfold obL
  rw [e]
  rfl
theorem map3 {α β γ δ : Type} {o : Option α} {f : α → β} {g : α → γ} {k : α → δ} {x : β} {y : γ} {z : δ} (h1 : o.map f = some x) (h2 : o.map g = some y) (h3 : o.map k = some z) : o.map (fun s => (f s, g s, k s)) = some (x, y, z) := by
  cases o with
  | none => cases h1
  | some a =>
    cases h1
    cases h2
    cases h3
    rfl
end G
end
section
namespace G
open PySem PySem.Spec PyProof.Rows L2
def downD (i : Int) (n : Nat) : List D := (List.range n).map fun k => .int (i + (k : Nat) * -1)
open Classical in
noncomputable def rg3K (ds : List D) (S : Sto) : Res Its := match ds with
  | [.int i, .int j, .int c] => if rgOk i ∧ rgOk j ∧ c = -1 then .ok ⟨downD i (i - j).toNat, fun _ => True⟩ S else .bad
  | _ => .bad
noncomputable def iRg3 (r : MA) : MI := fun en S => (r en S).bind rg3K
theorem iRg3_ap (r : MA) (en : En) (S : Sto) : iRg3 r en S = (r en S).bind rg3K := rfl
end G
end
section
namespace G
open PySem PySem.Spec PySem.SeqAt MeetsSeq MeetsSeq2 MeetsSeq3 SeqRoads2
open AutoSeq1 (wpAny_loadPart')
section
variable {prog : Program} {w : World}
def EqRun (prog : Program) (w : World) (A : Around) (R : Result → Shared → Prop) : List (Value × Value) → Shared → Prop
  | [], s => R (.ok (.ret (.bool true))) s
  | (p, q) :: r, s => wpAny (model prog w) A (eqBool p q) (fun b s1 => (b = false → R (.ok (.ret (.bool false))) s1) ∧ (b = true → EqRun prog w A R r s1)) (fun e s' => R (.error e) s') s
theorem EqRun.mono {A : Around} {R R' : Result → Shared → Prop} (h1 : ∀ k s, R (.ok (.ret (.bool k))) s → R' (.ok (.ret (.bool k))) s) (h2 : ∀ e s, R (.error e) s → R' (.error e) s) : ∀ (l : List (Value × Value)) (s : Shared), EqRun prog w A R l s → EqRun prog w A R' l s
  | [], s, h => h1 _ _ h
  | (p, q) :: r, s, h => wpAny_mono h (fun b s1 z => ⟨fun e => h1 _ _ (z.1 e), fun e => EqRun.mono h1 h2 r s1 (z.2 e)⟩) (fun e s' x => h2 e s' x)
end
end G
end
section
namespace G
open PySem L2 PySem.Spec PyProof.Rows PySem.SeqAt
def eqAll : List PyData → List PyData → Bool
  | p :: ps, q :: qs => PyData.eqv p q && eqAll ps qs
  | _, _ => true
section
variable {X : Cx} {pins : List (Addr × Obj)} {σ : L2.St} {H : Hp} {s : Shared}
end
section
variable {X : Cx}
end
end G
end
section
namespace G
open PySem L2 PySem.Spec PyProof.Rows PySem.SeqAt
mutual
def plainD : D → Bool
  | .int _ => true
  | .str _ => true
  | .tup ds => plainDs ds
  | _ => false
def plainDs : List D → Bool
  | [] => true
  | d :: r => plainD d && plainDs r
end
section
variable {B : Bas} {m : Mp}
mutual
theorem Rep.injP : ∀ {d e : D} {v : V}, plainD d = true → plainD e = true → Rep B m d v → Rep B m e v → d = e
  | .int i, e, v, _, he, r1, r2 => by
    simp only [Rep] at r1
    subst r1
    cases e <;> simp only [plainD, Bool.false_eq_true] at he <;> simp only [Rep, reduceCtorEq] at r2
    · cases r2; rfl
    · obtain ⟨a, vs, h, _⟩ := r2; cases h
  | .str i, e, v, _, he, r1, r2 => by
    simp only [Rep] at r1
    subst r1
    cases e <;> simp only [plainD, Bool.false_eq_true] at he <;> simp only [Rep, reduceCtorEq] at r2
    · cases r2; rfl
    · obtain ⟨a, vs, h, _⟩ := r2; cases h
  | .tup ds, e, v, hd, he, r1, r2 => by
    simp only [Rep] at r1
    obtain ⟨a, vs, rfl, t1, q1⟩ := r1
    cases e <;> simp only [plainD, Bool.false_eq_true] at he <;> simp only [Rep, reduceCtorEq] at r2
    rename_i es
    obtain ⟨b, us, h, t2, q2⟩ := r2
    cases h
    have e1 := t1.1.symm.trans t2.1
    cases e1
    simp only [plainD] at hd
    rw [Reps.injP hd he q1 q2]
theorem Reps.injP : ∀ {ds es : List D} {vs : List V}, plainDs ds = true → plainDs es = true → Reps B m ds vs → Reps B m es vs → ds = es
  | [], es, vs, _, _, r1, r2 => by
    simp only [Reps] at r1
    subst r1
    cases es with
    | nil => rfl
    | cons e r =>
      simp only [Reps] at r2
      obtain ⟨_, _, h, _⟩ := r2
      cases h
  | d :: ds, es, vs, hd, he, r1, r2 => by
    simp only [Reps] at r1
    obtain ⟨v, r, rfl, a1, a2⟩ := r1
    cases es with
    | nil =>
      simp only [Reps] at r2
      cases r2
    | cons e es =>
      simp only [Reps] at r2
      obtain ⟨v2, r2', h, b1, b2⟩ := r2
      cases h
      simp only [plainDs, Bool.and_eq_true] at hd he
      rw [Rep.injP hd.1 he.1 a1 b1, Reps.injP hd.2 he.2 a2 b2]
end
def isO (c : Nat) : D → Bool
  | .ins c' _ ds => decide (c' = c) && plainDs ds
  | _ => false
end
def shAll (ps : List PyData) : Bool := ps.all shaped
def tupOk (c : Nat) (F : Fn) (p q : D) (xs ys : List D) (ps qs : List PyData) (S : Sto) (k : Bool) : Prop :=
  isO c p = true ∧ isO c q = true ∧ F.n = 2 ∧ xs.length = ys.length ∧ shAll ps = true ∧ shAll qs = true ∧ F.run [p, q] S = .ok (.bl k) S ∧ (p = q → k = true)
open Classical in
noncomputable def tupOK3 (c : Nat) (F : Fn) (p q : D) (xs ys : List D) (ps qs : List PyData) (S : Sto) : Res D :=
  if h : ∃ k, tupOk c F p q xs ys ps qs S k then .ok (.bl (h.choose && eqAll ps qs)) S else .bad
noncomputable def tupOK2 (c : Nat) (F : Fn) (x y : D) (S : Sto) : Res D := match x, y with
  | .tup (p :: xs), .tup (q :: ys) => match pds xs, pds ys with
    | some ps, some qs => tupOK3 c F p q xs ys ps qs S
    | _, _ => .bad
  | _, _ => .bad
noncomputable def tupOK1 (c : Nat) (F : Fn) (b : ME) (en : En) (x : D) (S : Sto) : Res D := (b en S).bind (tupOK2 c F x)
noncomputable def mTupO (c : Nat) (F : Fn) (a b : ME) : ME := fun en S => (a en S).bind (tupOK1 c F b en)
section
variable {X : Cx} {B : Bas} {W : WX} {a b : Expr} {pos : Pos} {ma mb : ME} {c k j : Nat} {F : Fn}
end
theorem mTupO_ap (c : Nat) (F : Fn) (a b : ME) (en : En) (S : Sto) : mTupO c F a b en S = (a en S).bind (tupOK1 c F b en) := rfl
theorem tupOK1_ap (c : Nat) (F : Fn) (b : ME) (en : En) (x : D) (S : Sto) : tupOK1 c F b en x S = (b en S).bind (tupOK2 c F x) := rfl
end G
end
section
namespace G
open PySem L2 PySem.Spec
open PyProof.Rows hiding St
section
variable {X : Cx} {B : Bas} {W : WX} {k j n c : Nat} {f C : Addr} {fd : FuncData} {ps ks : List Str} {sp : Sp} {F : Fn} {x : Str} {p pos apos kpos : Pos} {o e : Expr} {kws : List Keyword} {me : ME} {mr : MA} {q : List Nat} {nm : Option Str}
end
def dAddK (S : Sto) (a b : D) : Option D := match a, b with
  | .ktp x, .tup y => if x = [] ∧ y.length ≤ sizeLine then some (.tup y) else none
  | a, b => dAdd S a b
theorem dAddK_int (S : Sto) (i j : Int) : dAddK S (.int i) (.int j) = some (.int (i + j)) := rfl
theorem dAddK_tup (S : Sto) (a : List D) (b : D) : dAddK S (.tup a) b = dAdd S (.tup a) b := rfl
end G
end
section
namespace G
open PySem L2 PySem.Spec
open PyProof.Rows hiding St
abbrev lamN : Str := "<lambda>"
def LamAt (h : Heap) (f : Addr) (q : Str) (params : Arguments) (body : Expr) (scope : Scope) (cl : List (Str × Addr)) (c : Addr) : Prop :=
  ∃ pm ctv : Value, h.get? f = some (PySem.W.kla_obj lamN q params body scope cl pm c ctv)
def lamNF (q : Str) (params : Arguments) (scope : Scope) (cl : List (Str × Addr)) (c : Addr) : NdefX.NF := ⟨lamN, q, params, [], scope, cl, c⟩
section
variable {P : Program} {w : World} {K : PySem.W.Frag} {mg : Str → Option Value} {base : Heap} {N ps fr : List Str} {q : Str} {params : Arguments} {body : Expr} {scope : Scope} {cl : List (Str × Addr)} {c f : Addr} {k : Nat}
end
end G
end
section
namespace G
open PySem L2 PySem.Spec
open PyProof.Rows hiding St
section
variable {B : Bas} {m : Mp} {H H1 : Hp} {S : Sto} {j i : Nat} {q : Str}
end
def lamEn (n : Nat) (as cs : List D) : En := as.map some ++ (cs.map some ++ List.replicate (n - as.length - cs.length) none)
section
variable {B : Bas} {m : Mp}
theorem EnR.app {e1 e2 : En} {s1 s2 : St} (h1 : EnR B m e1 s1) (h2 : EnR B m e2 s2) : EnR B m (e1 ++ e2) (s1 ++ s2) := by
  refine ⟨by rw [List.length_append, List.length_append, h1.1, h2.1], fun i d e => ?_⟩
  by_cases hi : i < e1.length
  · rw [List.getElem?_append_left hi] at e
    obtain ⟨v, a, b⟩ := h1.2 i d e
    exact ⟨v, by rw [List.getElem?_append_left (by rw [← h1.1]; exact hi)]; exact a, b⟩
  · have hi' : e1.length ≤ i := Nat.le_of_not_lt hi
    rw [List.getElem?_append_right hi'] at e
    obtain ⟨v, a, b⟩ := h2.2 _ d e
    exact ⟨v, by rw [List.getElem?_append_right (by rw [← h1.1]; exact hi'), ← h1.1]; exact a, b⟩
end
theorem LamAt.fn {h : Heap} {f : Addr} {q : Str} {params : Arguments} {body : Expr} {scope : Scope} {cl : List (Str × Addr)} {c : Addr} (l : LamAt h f q params body scope cl c) : PySem.W.FnAt f h := by
  obtain ⟨pm, ctv, g⟩ := l
  exact ⟨_, _, _, _, g⟩
section
variable {X : Cx} {B : Bas} {W : WX} {f c : Addr} {q : Str} {us : List V} {ds : List D} {k np n i : Nat} {be : ME} {x : Str} {p pos : Pos} {e : Expr} {es : List Expr} {mr : MA}
end
end G
end
section
namespace G
open PySem L2 PySem.Spec
open PyProof.Rows hiding St
def capD (en : En) : List Nat → Option (List D)
  | [] => some []
  | j :: r => match en[j]?, capD en r with
    | some (some d), some ds => some (d :: ds)
    | _, _ => none
open Classical in
noncomputable def lamM (np n : Nat) (be : ME) (js : List Nat) (j i : Nat) (q : Str) (en : En) (S : Sto) (k : (List D → Sto → Res D) → Res D) : Res D :=
  if S[j]? = some (.tbl i q) then match capD en js with
    | some cs => k fun as S1 => if as.length = np then be (lamEn n as cs) S1 else .bad
    | none => .bad
  else .bad
noncomputable def mTold (R : (List D → Sto → Res D) → List D → Sto → Res D) (np n : Nat) (be : ME) (js : List Nat) (j i : Nat) (q : Str) : ME := fun en S => lamM np n be js j i q en S fun b => R b [] S
structure LamT (X : Cx) (B : Bas) (k np n : Nat) (be : ME) (js : List Nat) (params : Arguments) (body : Expr) (scope : Scope) (N ps fr : List Str) : Prop where
  S : NdefX.NScope N ps fr scope
  hn : N.length = n
  hp : ps.length = np
  hd : defaultsOf params X.env = ([], [])
  hfree : ∀ y ∈ scope.names, y.2 = .free → X.env.scope.names.lookup y.1 = some .cell ∨ X.env.scope.names.lookup y.1 = some .free
  hfr : ∀ y ∈ fr, (y, NameKind.free) ∈ scope.names
  hjs : js.map (fun j => X.N[j]?) = fr.map some
  hb : ∀ (q : Str) (cl : List (Str × Addr)) (pm cv ctv : Value) (us : List Value), us.length = ps.length → bindArgs (PySem.W.kla_fn lamN q params body scope cl pm cv ctv) ⟨us, []⟩ = pure (ps.zip us)
  hbody : ∀ (q : Str) (cl : List (Str × Addr)) (f c : Addr) (A : Around) (outer : List Env) (s : Shared) (H : Hp) (E : XK), Room k (A.deeper (NdefX.envF (lamNF q params scope cl c) f s.heap.objs.size)) →
    PE (NdefX.ncx (L2.CX X.prog X.w) X.prog X.w X.K X.mg X.base N (lamNF q params scope cl c) f A outer s H E) body (tE B (WE0 E) be)
section
variable {X : Cx} {B : Bas} {W : WX} {k kl j i np n jt it : Nat} {F : (MA → ME) → Fn} {R : (List D → Sto → Res D) → List D → Sto → Res D} {x : Str} {be : ME} {js : List Nat} {params : Arguments} {body o : Expr} {scope : Scope} {N ps fr : List Str} {q : Str} {p lpos pos apos : Pos} {me : ME} {c : Nat}
end
end G
end
section
namespace G
open PySem L2 PySem.Spec
open PyProof.Rows hiding St
end G
end
section
namespace G
open PySem L2 PySem.Spec
open PyProof.Rows hiding St
noncomputable def runL (F : (MA → ME) → Fn) (b : List D → Sto → Res D) (pre : List D) (S : Sto) : Res D := (F fun r en S => (r en S).bind b).run (pre ++ [.non]) S
end G
end
section
namespace G
open PySem L2 PyProof.Rows
abbrev KPs := List (List Key × PyData)
def lookP (pl : KPs) (k : List Key) : Option PyData := match pl with
  | [] => none
  | q :: r => if q.1 = k then some q.2 else lookP r k
def eqP (pl pk : KPs) : Bool := pk.all fun r => match lookP pl r.1 with
  | some q => PyData.eqv r.2 q
  | none => false
section
variable {X : Cx} {pins : List (Addr × Obj)} {σ : L2.St} {H : Hp} {s : Shared}
end
def pdvs (S : Sto) : List D → Option (List PyData)
  | [] => some []
  | d :: r => match pdv S d, pdvs S r with
    | some p, some ps => if SeqAt.shaped p = true then some (p :: ps) else none
    | _, _ => none
def dEqTVB (S : Sto) (x y : D) : Option Bool := match dicOf S x, dicOf S y with
  | some (ks, ds), some (ls, es) => match tkeysD ks, tkeysD ls, pdvs S ds, pdvs S es with
    | some qs, some rs, some ps, some us => some ((qs.zip ps).length == (rs.zip us).length && eqP (rs.zip us) (qs.zip ps))
    | _, _, _, _ => none
  | _, _ => none
def dEqTV (S : Sto) (x y : D) : Option D := (dEqTVB S x y).map .bl
end G
end
section
namespace G
open PySem L2
section
variable {X : Cx} {B : Bas} {W : WX} {e : Expr} {f₀ : Stmt} {fs : List Stmt} {rp pos : Pos} {me : ME} {mf : MS}
end
end G
end
section
namespace G
open PySem L2
section
variable {X : Cx} {B : Bas} {W : WX}
end
end G
end
section
namespace G
open PySem PySem.Spec PyProof.Rows L2
section
variable {X : Cx} {B : Bas} {W : WX}
end
section
variable {B : Bas} {m : Mp}
end
section
variable {X : Cx} {o e : Expr} {apos cpos : Pos} {td ty : TE}
end
section
variable {X : Cx} {B : Bas} {W : WX}
end
end G
end
section
namespace G
open PySem PySem.Spec PyProof.Rows L2
def PEB (X : Cx) (e : Expr) (t : TE) : Prop := ∀ (pins : List (Addr × Obj)) (s : Shared) (σ : L2.St) (H : Hp) (Q : VK), Inv X pins σ H s → t σ H Q → wpAny (model X.prog X.w) X.A (eval e X.env) (fun v s1 => 1 ≤ s1.toks ∧ EP X pins σ Q v s1) X.xe s
def PAB (X : Cx) (es : List Expr) (t : TA) : Prop := ∀ (pos : Pos) (pins : List (Addr × Obj)) (s : Shared) (σ : L2.St) (H : Hp) (Q : List V → Hp → Prop), Inv X pins σ H s → t σ H Q →
  wpAny (model X.prog X.w) X.A (spliced (backTo pos (starEach es X.env))) (fun us s1 => 1 ≤ s1.toks ∧ AP X pins σ Q us s1) X.xe s
def PSB (X : Cx) (st : Stmt) (t : TS) : Prop := ∀ (pins : List (Addr × Obj)) (s : Shared) (σ : L2.St) (H : Hp) (D : Ends), Inv X pins σ H s → t D σ H → wpAny (model X.prog X.w) X.A (exec st X.env) (fun f s1 => 1 ≤ s1.toks ∧ SP X pins D f s1) X.xe s
section
variable {X : Cx} {e a b : Expr} {es : List Expr} {st : Stmt} {sts : List Stmt} {te te' ta' tb' : TE} {ta ta2 : TA} {ts ts' tu : TS} {pos : Pos}
theorem PEB.cut (h : PEB X e te) (i : ∀ σ H Q, te' σ H Q → te σ H Q) : PEB X e te' := fun pins s σ H Q I q => h pins s σ H Q I (i σ H Q q)
theorem PAB.cut (h : PAB X es ta) (i : ∀ σ H Q, ta2 σ H Q → ta σ H Q) : PAB X es ta2 := fun pos pins s σ H Q I q => h pos pins s σ H Q I (i σ H Q q)
theorem PSB.cut (h : PSB X st ts) (i : ∀ D σ H, ts' D σ H → ts D σ H) : PSB X st ts' := fun pins s σ H D I q => h pins s σ H D I (i D σ H q)
theorem PET.cut (h : PET X e te) (i : ∀ σ H Q, te' σ H Q → te σ H Q) : PET X e te' := fun pins s σ H Q h0 I q => h pins s σ H Q h0 I (i σ H Q q)
theorem PAT.cut (h : PAT X es ta) (i : ∀ σ H Q, ta2 σ H Q → ta σ H Q) : PAT X es ta2 := fun pos pins s σ H Q h0 I q => h pos pins s σ H Q h0 I (i σ H Q q)
theorem PST.cut (h : PST X st ts) (i : ∀ D σ H, ts' D σ H → ts D σ H) : PST X st ts' := fun pins s σ H D h0 I q => h pins s σ H D h0 I (i D σ H q)
theorem PSsT.cut (h : PSsT X sts ts) (i : ∀ D σ H, ts' D σ H → ts D σ H) : PSsT X sts ts' := fun pins s σ H D h0 I q => h pins s σ H D h0 I (i D σ H q)
end
section
variable {X : Cx} {e : Expr} {es : List Expr} {t : TA} {CX : CXT} {k : Nat} {f : Addr} {fd : FuncData} {ps : List Str} {sp : Sp} {dvs : List V} {ds : List Value} {E : L2.St → XK} {x : Str} {p pos : Pos}
end
section
variable {X : Cx} {B : Bas} {W : WX} {e a b o : Expr} {es : List Expr} {st : Stmt} {sts : List Stmt} {pos p : Pos} {me ma mb mo : ME} {mr : MA} {ms mss : MS} {x : Str}
section
variable {y z : Str} {j k : Nat} {c0 c1 apos : Pos}
end
end
end G
end
section
namespace G
open PySem PySem.Spec PyProof.Rows L2 RZ
structure EsAt (x : Str) (t : Tok) (e it : Addr) (i : Nat) (h : Heap) : Prop where
  le : i ≤ x.cps.size
  apart : e ≠ it
  inner : h.IsStrIter it (strIterType x) x t i
  outer : ∃ old, IsEnum h e it ((i : Nat) : Int) old
theorem EsAt.objs {x : Str} {t : Tok} {e it : Addr} {i : Nat} {h : Heap} (st : EsAt x t e it i h) {c : Addr} (hc : c ∈ [e, it]) : ∃ o, h.get? c = some o ∧ ∀ v, o.data ≠ .cell v := by
  obtain ⟨old, e1⟩ := st.outer
  obtain ⟨o2, e2, _, d2⟩ := st.inner
  simp only [List.mem_cons, List.not_mem_nil, or_false] at hc
  rcases hc with rfl | rfl
  · exact ⟨_, e1, by intro v z; cases z⟩
  · exact ⟨o2, e2, by intro v z; rw [d2] at z; cases z⟩
theorem EsAt.lt {x : Str} {t : Tok} {e it : Addr} {i : Nat} {h : Heap} (st : EsAt x t e it i h) {c : Addr} (hc : c ∈ [e, it]) : c < h.objs.size := by
  obtain ⟨_, z, _⟩ := st.objs hc
  exact Heap.lt_size z
end G
end
section
namespace G
open PySem L2
end G
end
section
namespace G
open PySem PySem.Spec PyProof.Rows L2
end G
end
section
namespace G
open PySem L2 PySem.Spec
open PyProof.Rows hiding St
section
variable {X : Cx} {B : Bas} {W : WX} {k j n c q : Nat} {F : Fn} {x : Str} {p pos : Pos} {e : Expr} {es : List Expr} {kws : List Keyword} {mr mk : MA} {ks : List Str} {g : List D → List D → List D}
end
end G
end
section
namespace G
open PySem L2 PyProof.Rows
end G
end
section
namespace G
open PySem PySem.Spec PyProof.Rows L2
def tMkV (C : Addr) (sp : Sp) (ta : TA) : TE := fun σ H Q => ta σ H fun vs H1 => vs.length ≤ 1000 ∧ ∀ a, H1 a = none → sp (.ref a :: vs) (upd H1 a (exo a C none)) (fun v H2 => v = .non ∧ Q (.ref a) H2) (fun _ _ _ => False)
def tMk0 (C : Addr) : TE := fun σ H Q => ∀ a, H a = none → Q (.ref a) (upd H a (exo a C none))
section
variable {X : Cx} {e : Expr} {es : List Expr} {ta : TA} {x : Str} {C fI : Addr} {k : Nat} {fd : FuncData} {ps : List Str} {sp : Sp} {p pos : Pos}
theorem kept_end {pins : List (Addr × Obj)} {σ : L2.St} {H1 H2 : Hp} {s1 s2 : Shared} {a : Addr} {Q : VK} (I : Inv X pins σ H1 s1) (un : Un (frs X.stack) [] H1 H2 s1.heap s2.heap) (hok : HOk X.prog X.w H2 s2.heap) (ho : s2.os = s1.os) (hb : AllBare s2.gens) (q : Q (.ref a) H2) :
    ∃ v H', Inv X pins σ H' s2 ∧ RelV v (Value.ref a) ∧ Q v H' := by
  obtain ⟨h1, g1, d1, t1, os1⟩ := s1
  obtain ⟨h2, g2, d2, t2, os2⟩ := s2
  exact ⟨.ref a, H2, I.call' (ch := []) ho un hok hb (fun b z => absurd z (by simp)), rfl, q⟩
theorem pe_oexV (T : OexC X.K C) (iC : PySem.W.findIn X.K (.ref C) "__init__" = some (some (.ref fI))) (tI : PySem.W.typeIn X.K (.ref fI) = some (.type "function"))
    (FO : FnOk X.prog X.w X.K X.mg X.base (L2.CX X.prog X.w) k fI fd ps sp) (hr : Room (k + 1) X.A) (bd : Binds X.K fd ps []) (hg : Gl X x) (hm : X.mg x = some (.ref C)) (ha : PA X (e :: es) ta)
    (hdb : (x == ("__debug__" : Str)) = false := by decide) (he : starEach (e :: es) X.env = (false, eval e X.env) :: starEach es X.env := by rfl) (hpl : (backTo pos (starEach es X.env)).any (·.1) = false := by rfl) :
    PE X (.Call (.Name x p) (e :: es) [] pos) (tMkV C sp ta) := ⟨fun pins s σ H Q I h => by
  obtain ⟨nm, q, N, bs, bm, sn, sub, ab, col, dd, k0, k1, k2, k3, k5, hC, hbm⟩ := T.cls
  refine wpAny_Call_Name_kw (ld_glob I hg hm ?_ hdb)
  refine PySem.W.callWith_K (h₀ := X.base) I.mod.kin T.kC (thn (ha.run pos pins s σ H _ I h) fun us s1 z => ?_) he hpl
  obtain ⟨vs, H1, I1, r1, hz, q1⟩ := z
  refine ⟨I1.kIn, ?_⟩
  show wpAny _ _ (call (.ref C) us) _ _ _
  have hq := q1 _ (I1.hok.fresh (Nat.le_succ s1.heap.objs.size))
  have up : ∀ b o, s1.heap.get? b = some o → ((s1.heap.push (PySem.W.kdv_tup us)).push (PySem.HandSPX.excO C s1.heap.objs.size)).get? b = some o := fun b o z => Heap.get?_push_of_some _ (Heap.get?_push_of_some _ z)
  have at_e : ((s1.heap.push (PySem.W.kdv_tup us)).push (PySem.HandSPX.excO C s1.heap.objs.size)).get? (s1.heap.objs.size + 1) = some (PySem.HandSPX.excO C s1.heap.objs.size) := by heap_get
  have I2 := I1.laid (t' := s1.toks) (o := exo (s1.heap.objs.size + 1) C none) up (Nat.le_succ _) (exo_ok at_e)
  have r2 : Vals (V.ref (s1.heap.objs.size + 1) :: vs) (Value.ref (s1.heap.objs.size + 1) :: us) := .cons rfl r1
  have len := r2.length.symm.trans (FO.len _ _ _ _ hq)
  have bb := bd _ (Value.ref (s1.heap.objs.size + 1) :: us) I2.kIn (by rw [List.append_nil]; exact len)
  rw [List.append_nil] at bb
  have small : us.length ≤ sizeLine := by rw [← r1.length, sizeLine_eq]; omega
  refine wpAny_call (PySem.HandSPX.call_own PySem.F.excBase_ValueError (fun Y => PySem.HandSPX.refsVE_contains Y bm hbm) (I1.kIn _ _ hC) (PySem.W.looks_findIn I1.kIn iC) (fun self => PySem.W.bind_fn I1.kIn self tI) small
    (codeAny_mono (FO.run _ X.stack _ _ ⟨_, []⟩ _ _ _ (fun _ _ _ => False) (hr.make C us []) (I2.env0.make C us []) bb r2 hq) fun r s' z => ?_))
  match r, z with
  | .error er, z => exact (passNoX (X := X) pins σ _ _ er s' I2 z)
  | .ok (.ret v), z =>
    obtain ⟨v', H2, os2, bare2, un2, hok2, rv, rfl, q2⟩ := z
    exact ⟨rv, kept_end I2 un2 hok2 os2 bare2 q2⟩
  | .ok .next, z => exact False.elim z
  | .ok .brk, z => exact False.elim z
  | .ok .cont, z => exact False.elim z⟩
theorem pe_oexLV (T : OexL X.K C) (iC : PySem.W.findIn X.K (.ref C) "__init__" = some (some (.ref fI))) (tI : PySem.W.typeIn X.K (.ref fI) = some (.type "function"))
    (FO : FnOk X.prog X.w X.K X.mg X.base (L2.CX X.prog X.w) k fI fd ps sp) (hr : Room (k + 1) X.A) (bd : Binds X.K fd ps []) (hg : Gl X x) (hm : X.mg x = some (.ref C)) (ha : PA X [e] ta) (hdb : (x == ("__debug__" : Str)) = false := by decide)
    (he : starEach [e] X.env = [(false, eval e X.env)] := by rfl) : PE X (.Call (.Name x p) [e] [] pos) (tMkV C sp ta) := ⟨fun pins s σ H Q I h => by
  refine wpAny_Call_Name_kw (ld_glob I hg hm ?_ hdb)
  refine PySem.W.callWith_K (h₀ := X.base) I.mod.kin T.kC (thn (ha.run pos pins s σ H _ I h) fun us s1 z => ?_) he (by rfl)
  obtain ⟨vs, H1, I1, r1, hz, q1⟩ := z
  refine ⟨I1.kIn, ?_⟩
  show wpAny _ _ (call (.ref C) us) _ _ _
  obtain ⟨nm, N, qn, bs, bm, hdct, sn, sub, ab, col, dd, k0, k1, k2, k3, k5, hC, hT⟩ := PySem.W.excInit_of I1.kIn T.ini
  have hq := q1 _ (I1.hok.fresh (Nat.le_succ s1.heap.objs.size))
  have up : ∀ b o, s1.heap.get? b = some o → ((s1.heap.push (PySem.W.kdv_tup us)).push (PySem.HandSPX.excO C s1.heap.objs.size)).get? b = some o := fun b o z => Heap.get?_push_of_some _ (Heap.get?_push_of_some _ z)
  have at_e : ((s1.heap.push (PySem.W.kdv_tup us)).push (PySem.HandSPX.excO C s1.heap.objs.size)).get? (s1.heap.objs.size + 1) = some (PySem.HandSPX.excO C s1.heap.objs.size) := by heap_get
  have I2 := I1.laid (t' := s1.toks) (o := exo (s1.heap.objs.size + 1) C none) up (Nat.le_succ _) (exo_ok at_e)
  have r2 : Vals (V.ref (s1.heap.objs.size + 1) :: vs) (Value.ref (s1.heap.objs.size + 1) :: us) := .cons rfl r1
  have len := r2.length.symm.trans (FO.len _ _ _ _ hq)
  have bb := bd _ (Value.ref (s1.heap.objs.size + 1) :: us) I2.kIn (by rw [List.append_nil]; exact len)
  rw [List.append_nil] at bb
  have small : us.length ≤ sizeLine := by rw [← r1.length, sizeLine_eq]; omega
  refine wpAny_call (PySem.HandSPX.call_own PySem.F.excBase_LookupError hT hC (PySem.W.looks_findIn I1.kIn iC) (fun self => PySem.W.bind_fn I1.kIn self tI) small
    (codeAny_mono (FO.run _ X.stack _ _ ⟨_, []⟩ _ _ _ (fun _ _ _ => False) (hr.make C us []) (I2.env0.make C us []) bb r2 hq) fun r s' z => ?_))
  match r, z with
  | .error er, z => exact (passNoX (X := X) pins σ _ _ er s' I2 z)
  | .ok (.ret v), z =>
    obtain ⟨v', H2, os2, bare2, un2, hok2, rv, rfl, q2⟩ := z
    exact ⟨rv, kept_end I2 un2 hok2 os2 bare2 q2⟩
  | .ok .next, z => exact False.elim z
  | .ok .brk, z => exact False.elim z
  | .ok .cont, z => exact False.elim z⟩
theorem pe_own0V {bmB : List Value} {B newId initId : String} (F : ExcBaseFacts B newId initId bmB) (q : PySem.W.excIn X.K C bmB newId = true) (gC : X.mg x = some (.ref C)) (kC : PySem.W.keepIn X.K (.ref C) = true) (hg : Gl X x) (hdb : (x == ("__debug__" : Str)) = false := by decide) :
    PE X (.Call (.Name x p) [] [] pos) (tMk0 C) := ⟨fun pins s σ H Q I h => by
  refine wpAny_Call_Name_kw (ld_glob I hg gC ?_ hdb)
  refine PySem.W.callWith_K0 I.kIn kC ?_
  show wpAny _ _ (call (.ref C) []) _ _ _
  obtain ⟨bm, N, nm, qn, bs, hdct, sn, sub, ab, col, dd, k0, k1, k2, k3, k5, mN, hC, hN, hni, T⟩ := exc_obj I.kIn q
  refine wpAny_call_exc_subT F T hC hN hni (fun h' a hm => ?_) (by show 0 ≤ sizeLine; exact Nat.zero_le _)
  have hn : H a = none := I.hok.gone hm.new
  obtain ⟨t, ht, _, _⟩ := hm.there
  exact ⟨.ref a, upd H a (exo a C none), I.laidN hm.keeps hm.new hn (exo_ok ht), rfl, h a hn⟩⟩
end
def excK (c : Nat) (ns : List Str) (ds : List D) (S : Sto) : Res D := if ds.length = ns.length then .ok (.ref S.length) (S ++ [.exc c ns ds.reverse]) else .bad
def mExcV (c : Nat) (ns : List Str) (r : MA) : ME := fun en S => (r en S).bind (excK c ns)
theorem mExcV_ap (c : Nat) (ns : List Str) (r : MA) (en : En) (S : Sto) : mExcV c ns r en S = (r en S).bind (excK c ns) := rfl
theorem excK_ok {c : Nat} {ns : List Str} {ds : List D} {S : Sto} (h : ds.length = ns.length) : excK c ns ds S = .ok (.ref S.length) (S ++ [.exc c ns ds.reverse]) := if_pos h
theorem exc_put {B : Bas} {m : Mp} {S : Sto} {H : Hp} {a dx : Addr} {c : Nat} {ns : List Str} {ds : List D} {vs : List V} (cc : Cor B m S) (s : Sub m H) (hl : ns.length = vs.length) (r : Reps B m ds vs) (ha : H a = none) (hd : H dx = none) (ne : dx ≠ a) :
    ∃ m', Le m H m' (upd (upd H dx (exd dx (ns.zip vs))) a (exo a (B.cls c) (some dx))) ∧ Cor B m' (S ++ [.exc c ns ds]) ∧ Rep B m' (.ref S.length) (.ref a) := by
  have l1 := Le.new (o := exd dx (ns.zip vs)) cc s hd
  have c1 := Cor.new (o := exd dx (ns.zip vs)) cc s hd
  have ha' : upd H dx (exd dx (ns.zip vs)) a = none := by rw [upd_ne ne.symm]; exact ha
  have l2 := Le.add (o := exo a (B.cls c) (some dx)) c1 l1.sub ha'
  obtain ⟨z, o⟩ := l2.keep dx _ upd_same (cc.out_of (s.none hd))
  exact ⟨_, l1.trans l2, Cor.add c1 l1.sub ha' ⟨vs, hl, r.mono (l1.trans l2), .inr ⟨dx, upd_same, z, o⟩⟩, rp_ref c1⟩
theorem exc_put0 {B : Bas} {m : Mp} {S : Sto} {H : Hp} {a : Addr} {c : Nat} (cc : Cor B m S) (s : Sub m H) (ha : H a = none) :
    ∃ m', Le m H m' (upd H a (exo a (B.cls c) none)) ∧ Cor B m' (S ++ [.exc c [] []]) ∧ Rep B m' (.ref S.length) (.ref a) := by
  have l2 := Le.add (o := exo a (B.cls c) none) cc s ha
  exact ⟨_, l2, Cor.add cc s ha ⟨[], rfl, Reps.nil, .inl ⟨rfl, upd_same⟩⟩, rp_ref cc⟩
theorem exv_fin1 {H : Hp} {a dx : Addr} {u1 u2 u3 : HO} (ne : dx ≠ a) : upd (upd (upd H a u1) dx u2) a u3 = upd (upd H dx u2) a u3 := by
  funext b
  by_cases h : b = a
  · subst h; rw [upd_same, upd_same]
  · rw [upd_ne h, upd_ne h]
    by_cases h2 : b = dx
    · subst h2; rw [upd_same, upd_same]
    · rw [upd_ne h2, upd_ne h2, upd_ne h]
theorem exv_fin2 {H : Hp} {a dx : Addr} {u1 u2 u3 u4 : HO} (ne : dx ≠ a) : upd (upd (upd (upd H a u1) dx u2) a u3) dx u4 = upd (upd H dx u4) a u3 := by
  funext b
  by_cases h : b = dx
  · subst h; rw [upd_same, upd_ne ne, upd_same]
  · rw [upd_ne h]
    by_cases h2 : b = a
    · subst h2; rw [upd_same, upd_same]
    · rw [upd_ne h2, upd_ne h, upd_ne h2, upd_ne h2, upd_ne h]
section
variable {X : Cx} {B : Bas} {W : WX} {e e2 : Expr} {x f g : Str} {p pos : Pos} {mr : MA} {c k j : Nat}
theorem de_excV1 (ce : CalE1 X.prog X.w X.K X.mg X.base B x c k f) (hr : Room j X.A) (hk : k + 1 ≤ j) (ha : PA X [e] (tA B W mr)) (hg : Gl X x := by rfl) (hdb : (x == ("__debug__" : Str)) = false := by decide)
    (he : starEach [e] X.env = [(false, eval e X.env)] := by rfl) : PE X (.Call (.Name x p) [e] [] pos) (tE B W (mExcV c [f] mr)) := by
  obtain ⟨fI, fd, ps, FO, T, iC, tI, bd, hm⟩ := ce
  refine PE.cut (pe_oexV T iC tI FO (hr.mono hk) bd hg hm ha hdb he (by rfl)) fun σ H Q ⟨m, S, en, s, cc, er, q⟩ => ?_
  refine ⟨m, S, en, s, cc, er, (Post.bind q).imp ?_⟩
  rintro vs H1 ⟨ds, S1, m1, _, l1, c1, r1, p1⟩
  match ds, p1, r1 with
  | [], p1, _ => exact p1.elim
  | _ :: _ :: _, p1, _ => exact p1.elim
  | [d], p1, r1 =>
    obtain ⟨v, rfl, rv⟩ := r1.one
    refine ⟨by simp, fun a hn => ⟨a, v, rfl, upd_same, fun dx h1 h2 => ⟨rfl, ?_⟩⟩⟩
    rw [upd_ne h2] at h1
    obtain ⟨m', l, c', r'⟩ := exc_put (c := c) (ns := [f]) c1 l1.sub rfl r1 hn h1 h2
    rw [exv_fin1 h2]
    exact p1 m' _ _ l c' r'
theorem de_excV2 (ce : CalE2 X.prog X.w X.K X.mg X.base B x c k f g) (hr : Room j X.A) (hk : k + 1 ≤ j) (ha : PA X [e, e2] (tA B W mr)) (hg : Gl X x := by rfl) (hdb : (x == ("__debug__" : Str)) = false := by decide)
    (he : starEach [e, e2] X.env = (false, eval e X.env) :: starEach [e2] X.env := by rfl) (hpl : (backTo pos (starEach [e2] X.env)).any (·.1) = false := by rfl) : PE X (.Call (.Name x p) [e, e2] [] pos) (tE B W (mExcV c [g, f] mr)) := by
  obtain ⟨fI, fd, ps, FO, T, iC, tI, bd, hm⟩ := ce
  refine PE.cut (pe_oexV T iC tI FO (hr.mono hk) bd hg hm ha hdb he hpl) fun σ H Q ⟨m, S, en, s, cc, er, q⟩ => ?_
  refine ⟨m, S, en, s, cc, er, (Post.bind q).imp ?_⟩
  rintro vs H1 ⟨ds, S1, m1, _, l1, c1, r1, p1⟩
  match ds, p1, r1 with
  | [], p1, _ => exact p1.elim
  | [_], p1, _ => exact p1.elim
  | _ :: _ :: _ :: _, p1, _ => exact p1.elim
  | [d, d2], p1, r1 =>
    simp only [Reps] at r1
    obtain ⟨v, r, rfl, rv, v2, r', rfl, rv2, rfl⟩ := r1
    refine ⟨by simp, fun a hn => ⟨a, v, v2, rfl, upd_same, fun dx h1 h2 => ⟨rfl, ?_⟩⟩⟩
    rw [upd_ne h2] at h1
    obtain ⟨m', l, c', r'⟩ := exc_put (c := c) (ns := [g, f]) (ds := [d2, d]) (vs := [v2, v]) c1 l1.sub rfl (Reps.cons rv2 (Reps.cons rv Reps.nil)) hn h1 h2
    rw [exv_fin2 h2]
    exact p1 m' _ _ l c' r'
theorem de_excVL (ce : CalL1 X.prog X.w X.K X.mg X.base B x c k f) (hr : Room j X.A) (hk : k + 1 ≤ j) (ha : PA X [e] (tA B W mr)) (hg : Gl X x := by rfl) (hdb : (x == ("__debug__" : Str)) = false := by decide)
    (he : starEach [e] X.env = [(false, eval e X.env)] := by rfl) : PE X (.Call (.Name x p) [e] [] pos) (tE B W (mExcV c [f] mr)) := by
  obtain ⟨fI, fd, ps, FO, T, iC, tI, bd, hm⟩ := ce
  refine PE.cut (pe_oexLV T iC tI FO (hr.mono hk) bd hg hm ha hdb he) fun σ H Q ⟨m, S, en, s, cc, er, q⟩ => ?_
  refine ⟨m, S, en, s, cc, er, (Post.bind q).imp ?_⟩
  rintro vs H1 ⟨ds, S1, m1, _, l1, c1, r1, p1⟩
  match ds, p1, r1 with
  | [], p1, _ => exact p1.elim
  | _ :: _ :: _, p1, _ => exact p1.elim
  | [d], p1, r1 =>
    obtain ⟨v, rfl, rv⟩ := r1.one
    refine ⟨by simp, fun a hn => ⟨a, v, rfl, upd_same, fun dx h1 h2 => ⟨rfl, ?_⟩⟩⟩
    rw [upd_ne h2] at h1
    obtain ⟨m', l, c', r'⟩ := exc_put (c := c) (ns := [f]) c1 l1.sub rfl r1 hn h1 h2
    rw [exv_fin1 h2]
    exact p1 m' _ _ l c' r'
theorem de_excV0 (ce : CalE0 X.K X.mg B x c) (hg : Gl X x := by rfl) (hdb : (x == ("__debug__" : Str)) = false := by decide) : PE X (.Call (.Name x p) [] [] pos) (tE B W (mExcV c [] aNil)) := by
  obtain ⟨h1, h2, h3, h4, h5⟩ := ce
  refine PE.cut (pe_own0V PySem.F.excBase_ValueError h1 h5 h2 hg hdb) fun σ H Q ⟨m, S, en, s, cc, er, q⟩ => fun a hn => ?_
  obtain ⟨m', l, c', r'⟩ := exc_put0 (c := c) cc s hn
  exact q m' _ _ l c' r'
end
def excOf (S : Sto) : D → Option (Nat × List Str × List D)
  | .ref i => match S[i]? with
    | some (.exc c ns ds) => some (c, ns, ds)
    | _ => none
  | _ => none
theorem repX {B : Bas} {m : Mp} {H : Hp} {S : Sto} {d : D} {c' : Nat} {ns : List Str} {ds : List D} {v : V} (s : Sub m H) (c : Cor B m S) (r : Rep B m d v) (e : excOf S d = some (c', ns, ds)) :
    ∃ a vs, v = .ref a ∧ ns.length = vs.length ∧ Reps B m ds vs ∧ ((ns = [] ∧ H a = some (exo a (B.cls c') none)) ∨ ∃ dx, H a = some (exo a (B.cls c') (some dx)) ∧ H dx = some (exd dx (ns.zip vs))) := by
  cases d <;> simp only [excOf] at e <;> try (cases e)
  simp only [Rep] at r
  obtain ⟨hi, rfl⟩ := r
  split at e
  · rename_i i x y ys zs hx
    cases e
    obtain ⟨vs, n, q, z⟩ := c.ob _ _ hx
    refine ⟨_, vs, rfl, n, q, ?_⟩
    rcases z with ⟨z1, z2⟩ | ⟨dx, z1, z2, _⟩
    · exact .inl ⟨z1, s _ _ z2⟩
    · exact .inr ⟨dx, s _ _ z1, s _ _ z2⟩
  · cases e
def tFldX (K : PySem.W.Frag) (f : Str) (te : TE) : TE := fun σ H Q => te σ H fun x H1 => ∃ (a C dx : Addr) (fs : List (Str × V)) (v : V), x = .ref a ∧ H1 a = some (exo a C (some dx)) ∧ H1 dx = some (exd dx fs) ∧ XfC K C ∧ PySem.W.findIn K (.ref C) f = some none ∧ fs.lookup f = some v ∧ Q v H1
theorem pe_fldX {X : Cx} {e : Expr} {te : TE} {pos : Pos} {n : Str} (he : PE X e te) (hb : attributeBase e n X.env (eval e X.env) = eval e X.env := by rfl) : PE X (.Attribute e n pos) (tFldX X.K n te) := ⟨fun pins s σ H Q I h => by
  refine attr_of hb (thn (he.run pins s σ H _ I h) fun u s1 hh => ?_)
  obtain ⟨x, H1, I1, rx, a, C, dx, fs, v, rfl, ea, ed, T, hno, l, q⟩ := hh
  obtain rfl : u = Value.ref a := rx
  obtain ⟨t0, ha⟩ := exo_at I1.hok ea
  obtain ⟨mA, hns, hr⟩ := exd_at I1.hok ed
  obtain ⟨od, ho, hl⟩ := lookIn_ns hns
  obtain ⟨u, hu, ru⟩ := RelO.some_of (v := v) (o := mA n) (by rw [← l]; exact hr n)
  have J : PySem.W.InstAt s1.heap a _ C (some od) := ⟨ha, rfl, rfl, ho⟩
  exact HandSPX.exc_get I1.kIn J T.ga T.gg T.exC (PySem.W.findObj_own T.hdC hno rfl (by rw [hl, hu])) (handed_of ru) ⟨v, H1, I1.tok _, ru, q⟩⟩
def xfldK (cs : List Nat) (f : Str) (d : D) (S : Sto) : Res D := match excOf S d with
  | some (c, ns, ds) => if c ∈ cs then fldO f ns ds S else .bad
  | none => .bad
def mFldX (cs : List Nat) (f : Str) (e : ME) : ME := fun en S => (e en S).bind (xfldK cs f)
theorem mFldX_ap (cs : List Nat) (f : Str) (e : ME) (en : En) (S : Sto) : mFldX cs f e en S = (e en S).bind (xfldK cs f) := rfl
theorem xfldK_ok {cs : List Nat} {f : Str} {i c : Nat} {ns : List Str} {ds : List D} {S : Sto} (h : S[i]? = some (.exc c ns ds)) (hc : c ∈ cs) : xfldK cs f (.ref i) S = fldO f ns ds S := by
  unfold xfldK
  simp only [excOf, h]
  exact if_pos hc
def XvOk (K : PySem.W.Frag) (B : Bas) (cs : List Nat) (f : Str) : Prop := ∀ c ∈ cs, Xc K (B.cls c) ∧ PySem.W.findIn K (.ref (B.cls c)) f = some none
theorem de_fldX {X : Cx} {B : Bas} {W : WX} {e : Expr} {f : Str} {pos : Pos} {me : ME} {cs : List Nat} (hc : XvOk X.K B cs f) (he : PE X e (tE B W me)) (hb : attributeBase e f X.env (eval e X.env) = eval e X.env := by rfl) :
    PE X (.Attribute e f pos) (tE B W (mFldX cs f me)) := PE.cut (pe_fldX he hb) fun σ H Q ⟨m, S, en, s, c, er, p⟩ => ⟨m, S, en, s, c, er, (Post.bind p).imp (by
  rintro v H1 ⟨d, S1, m1, _, l1, c1, r1, p1⟩
  unfold xfldK at p1
  cases h : excOf S1 d with
  | none => rw [h] at p1; exact p1.elim
  | some q =>
    obtain ⟨c', ns, ds⟩ := q
    simp only [h] at p1
    split at p1
    · rename_i hm
      unfold fldO at p1
      cases h2 : lookF f ns ds with
      | none => rw [h2] at p1; exact p1.elim
      | some x =>
        simp only [h2] at p1
        obtain ⟨a, vs, rfl, hl, rs, z⟩ := repX l1.sub c1 r1 h
        obtain ⟨v, e1, e2⟩ := lookF_of rs h2
        rcases z with ⟨rfl, _⟩ | ⟨dx, z1, z2⟩
        · cases e1
        · exact ⟨a, _, dx, _, v, rfl, z1, z2, (hc c' hm).1.f, (hc c' hm).2, e1, p1 m1 H1 v (Le.refl l1.sub) c1 e2⟩
    · exact p1.elim)⟩
def rIsV (K : PySem.W.Frag) : List V → Hp → VK → Prop := fun xs H Q => ∃ (a C : Addr) (dd : Option Addr) (c : V) (cv : Value) (b : Bool), xs = [.ref a, c] ∧ H a = some (exo a C dd) ∧ (∀ d, dd = some d → ∃ fs, H d = some (exd d fs)) ∧ Xc K C ∧ (∀ u, RelV c u → u = cv) ∧ PySem.W.kitOne K (.ref C) cv = some b ∧ Q (.bl b) H
theorem call_isV {X : Cx} : CallR X (.builtin "isinstance") (rIsV X.K) := by
  intro pins s σ H xs us Q I r h
  obtain ⟨a, C, dd, c, cv, b, rfl, ea, hd, T, hcv, e, q⟩ := h
  obtain ⟨u1, us1, rfl, r1, r2⟩ : ∃ u1 us1, us = u1 :: us1 ∧ RelV (.ref a) u1 ∧ Vals [c] us1 := by
    cases r with
    | cons x y => exact ⟨_, _, rfl, x, y⟩
  obtain ⟨u2, rfl, ru⟩ := vals1 r2
  obtain rfl := hcv _ ru
  cases r1
  obtain ⟨t0, ha⟩ := exo_at I.hok ea
  have J : ∃ od, PySem.W.InstAt s.heap a ({ cls := .ref C, dict := dd, data := .fields #[.ref t0, .none, .none, .none, .bool false, .none] } : Obj) C od := by
    cases hdd : dd with
    | none => subst hdd; exact ⟨none, ha, rfl, rfl, trivial⟩
    | some d =>
      subst hdd
      obtain ⟨fs, hx⟩ := hd d rfl
      obtain ⟨mA, hns, _⟩ := exd_at I.hok hx
      obtain ⟨od, ho, _⟩ := lookIn_ns hns
      exact ⟨some od, ha, rfl, rfl, ho⟩
  obtain ⟨od, J⟩ := J
  exact PySem.W.kia_one (PySem.W.kitx_exc T.cl T.f.ga T.f.gg T.f.exC T.ha T.hn T.ht T.hm) I.kIn J e (fun z => nomatch z) fun tk => ⟨.bl b, H, I.kept (t' := tk) fun _ _ z => z, rfl, q⟩
def isXK (cs : List Nat) (g : Nat → Bool) (d : D) (S : Sto) : Res D := match excOf S d with
  | some (c, _, _) => if c ∈ cs then .ok (.bl (g c)) S else .bad
  | none => .bad
def mIsX (cs : List Nat) (g : Nat → Bool) (e : ME) : ME := fun en S => (e en S).bind (isXK cs g)
theorem mIsX_ap (cs : List Nat) (g : Nat → Bool) (e : ME) (en : En) (S : Sto) : mIsX cs g e en S = (e en S).bind (isXK cs g) := rfl
theorem isXK_ok {cs : List Nat} {g : Nat → Bool} {i c : Nat} {ns : List Str} {ds : List D} {S : Sto} (h : S[i]? = some (.exc c ns ds)) (hc : c ∈ cs) : isXK cs g (.ref i) S = .ok (.bl (g c)) S := by
  unfold isXK
  simp only [excOf, h]
  exact if_pos hc
def IsXOk (K : PySem.W.Frag) (B : Bas) (cs : List Nat) (cv : Value) (g : Nat → Bool) : Prop := ∀ c ∈ cs, Xc K (B.cls c) ∧ PySem.W.kitOne K (.ref (B.cls c)) cv = some (g c)
theorem de_isX {X : Cx} {B : Bas} {W : WX} {e f : Expr} {pos p0 : Pos} {me : ME} {cs : List Nat} {v : V} {cv : Value} {g : Nat → Bool} (T : IsXOk X.K B cs cv g) (hm : X.mg "isinstance" = none)
    (he : PE X e (tE B W me)) (hc : PE X f (tC v)) (hv : ∀ u, RelV v u → u = cv) (hg : Gl X "isinstance" := by rfl)
    (h1 : starEach [e, f] X.env = (false, eval e X.env) :: starEach [f] X.env := by rfl) (h2 : starEach [f] X.env = (false, eval f X.env) :: starEach [] X.env := by rfl) (hpl : (backTo pos (starEach [f] X.env)).any (·.1) = false := by rfl) :
    PE X (.Call (.Name "isinstance" p0) [e, f] [] pos) (tE B W (mIsX cs g me)) :=
  PE.cut (pe_callB call_isV hg hm (by decide +kernel) (pa_cons he (pa_cons hc pa_nil h2) h1) (by decide) (by decide) h1 hpl) fun σ H Q ⟨m, S, en, s, cc, er, q⟩ => ⟨m, S, en, s, cc, er, (Post.bind q).imp (by
    rintro x H1 ⟨d, S1, m1, _, l1, c1, r1, p1⟩
    unfold isXK at p1
    cases h : excOf S1 d with
    | none => rw [h] at p1; exact p1.elim
    | some q =>
      obtain ⟨c', ns, ds⟩ := q
      simp only [h] at p1
      split at p1
      · rename_i hcs
        obtain ⟨a, vs, rfl, hl, rs, z⟩ := repX l1.sub c1 r1 h
        obtain ⟨t1, t2⟩ := T c' hcs
        rcases z with ⟨_, z1⟩ | ⟨dx, z1, z2⟩
        · exact ⟨a, _, none, v, cv, _, rfl, z1, (fun d ed => nomatch ed), t1, hv, t2, p1 m1 H1 _ (Le.refl l1.sub) c1 (rp_bl m1)⟩
        · exact ⟨a, _, some dx, v, cv, _, rfl, z1, (fun d ed => by cases ed; exact ⟨_, z2⟩), t1, hv, t2, p1 m1 H1 _ (Le.refl l1.sub) c1 (rp_bl m1)⟩
      · exact p1.elim)⟩
end G
end
section
set_option maxHeartbeats 0
namespace T56
open PySem L2 G
def topS (i : Nat) : Stmt := PySem.Challenge.pw_grantsgrow_k56_errors_and_bounds.main.body.getD i (.Pass ⟨0, 0, 0, 0⟩)
abbrev s_BadGrant_init : Stmt := (inClass (topS 2) 0)
abbrev s_BadMarks_init : Stmt := (inClass (topS 3) 0)
abbrev s_BadPolicy_init : Stmt := (inClass (topS 4) 0)
abbrev s_BadRole_init : Stmt := (inClass (topS 5) 0)
abbrev s_BadText_init : Stmt := (inClass (topS 6) 0)
abbrev s_Barred_init : Stmt := (inClass (topS 7) 0)
abbrev s_TooMany_init : Stmt := (inClass (topS 12) 0)
abbrev s_NoGrant_init : Stmt := (inClass (topS 14) 0)
abbrev s_law_deck_v2 : Stmt := (topS 25)
abbrev s_law_take_v2 : Stmt := (topS 26)
abbrev s_law_pick : Stmt := (topS 27)
abbrev s_law_oddX : Stmt := (topS 28)
abbrev s_law_flags : Stmt := (topS 29)
abbrev s_law_k56 : Stmt := (topS 30)
def d_law_deck_v2 : He.DefD := ⟨("_law_deck", none), "_law_deck", "_law_deck", defArgs s_law_deck_v2, defBody s_law_deck_v2, defScope s_law_deck_v2, [], []⟩
def d_law_take_v2 : He.DefD := ⟨("_law_take", none), "_law_take", "_law_take", defArgs s_law_take_v2, defBody s_law_take_v2, defScope s_law_take_v2, [], []⟩
def d_law_pick : He.DefD := ⟨("_law_pick", none), "_law_pick", "_law_pick", defArgs s_law_pick, defBody s_law_pick, defScope s_law_pick, [], []⟩
def d_law_oddX : He.DefD := ⟨("_law_odd", none), "_law_odd", "_law_odd", defArgs s_law_oddX, defBody s_law_oddX, defScope s_law_oddX, [], []⟩
def d_law_flags : He.DefD := ⟨("_law_flags", none), "_law_flags", "_law_flags", defArgs s_law_flags, defBody s_law_flags, defScope s_law_flags, [], []⟩
def d_law_k56 : He.DefD := ⟨("law", none), "law", "law", defArgs s_law_k56, defBody s_law_k56, defScope s_law_k56, [], []⟩
def d_BadGrant_init : He.DefD := ⟨("BadGrant", some "__init__"), "__init__", "BadGrant.__init__", defArgs s_BadGrant_init, defBody s_BadGrant_init, defScope s_BadGrant_init, [], []⟩
def d_BadMarks_init : He.DefD := ⟨("BadMarks", some "__init__"), "__init__", "BadMarks.__init__", defArgs s_BadMarks_init, defBody s_BadMarks_init, defScope s_BadMarks_init, [], []⟩
def d_BadPolicy_init : He.DefD := ⟨("BadPolicy", some "__init__"), "__init__", "BadPolicy.__init__", defArgs s_BadPolicy_init, defBody s_BadPolicy_init, defScope s_BadPolicy_init, [], []⟩
def d_BadRole_init : He.DefD := ⟨("BadRole", some "__init__"), "__init__", "BadRole.__init__", defArgs s_BadRole_init, defBody s_BadRole_init, defScope s_BadRole_init, [], []⟩
def d_BadText_init : He.DefD := ⟨("BadText", some "__init__"), "__init__", "BadText.__init__", defArgs s_BadText_init, defBody s_BadText_init, defScope s_BadText_init, [], []⟩
def d_Barred_init : He.DefD := ⟨("Barred", some "__init__"), "__init__", "Barred.__init__", defArgs s_Barred_init, defBody s_Barred_init, defScope s_Barred_init, [], []⟩
def d_TooMany_init : He.DefD := ⟨("TooMany", some "__init__"), "__init__", "TooMany.__init__", defArgs s_TooMany_init, defBody s_TooMany_init, defScope s_TooMany_init, [], []⟩
def d_NoGrant_init : He.DefD := ⟨("NoGrant", some "__init__"), "__init__", "NoGrant.__init__", defArgs s_NoGrant_init, defBody s_NoGrant_init, defScope s_NoGrant_init, [], []⟩
def clA (K : PySem.W.Frag) : Nat → Addr
  | 11 => He.ga K "BadGrant"
  | 12 => He.ga K "BadMarks"
  | 13 => He.ga K "BadPolicy"
  | 14 => He.ga K "BadRole"
  | 15 => He.ga K "BadText"
  | 16 => He.ga K "Barred"
  | 17 => He.ga K "Full"
  | 10 => He.ga K "GrantError"
  | 23 => He.ga K "NoGrant"
  | 18 => He.ga K "NotHeld"
  | 20 => He.ga K "NotPlain"
  | 19 => He.ga K "NothingToUndo"
  | 21 => He.ga K "TooMany"
  | 22 => He.ga K "Unlike"
  | _ => 0
def fnl : List He.DefD := ([d_law_deck_v2, d_law_take_v2, d_law_pick, d_law_oddX, d_law_flags, d_law_k56, d_BadGrant_init, d_BadMarks_init, d_BadPolicy_init, d_BadRole_init, d_BadText_init, d_Barred_init, d_TooMany_init, d_NoGrant_init] : List _)
def gel : List GetD := []
def fal : List He.Fa := ([.glo "_law_deck", .glo "_law_take", .glo "_law_pick", .glo "_law_odd", .glo "_law_flags", .glo "law", .free "LookupError", .free "ValueError", .free "abs", .free "enumerate", .free "int", .free "isinstance", .free "len", .free "list", .free "range", .free "repr", .glo "BadGrant", .noat "BadGrant" "value", .glo "BadMarks", .noat "BadMarks" "word", .glo "BadPolicy", .noat "BadPolicy" "number", .noat "BadPolicy" "word", .glo "BadRole", .noat "BadRole" "mark"] : List _) ++ ([.glo "BadText", .noat "BadText" "line", .noat "BadText" "number", .glo "Barred", .noat "Barred" "role", .glo "Full", .exc "Full", .glo "NoGrant", .noat "NoGrant" "number", .glo "NotHeld", .exc "NotHeld", .glo "NotPlain", .exc "NotPlain", .glo "NothingToUndo", .exc "NothingToUndo", .glo "TooMany", .noat "TooMany" "limit", .glo "Unlike", .exc "Unlike", .int "MAX_ASKED" 6, .int "MAX_CUT" 9, .int "MAX_EDITS" 24, .int "MAX_FREED" 10, .int "MAX_GRANTS" 240, .int "MAX_LABELS" 4] : List _) ++ ([.int "MAX_OWNERS" 7, .int "MAX_PLAIN" 10, .int "MAX_SETTLED" 24, .glo "GrantError"] : List _)
def exl : List (PySem.W.Frag → Bool) := ([(fun K => iniB K "BadGrant"), (fun K => iniB K "BadMarks"), (fun K => iniB K "BadPolicy"), (fun K => iniB K "BadRole"), (fun K => iniB K "BadText"), (fun K => iniB K "Barred"), (fun K => iniLB K "NoGrant" "number"), (fun K => iniB K "TooMany"), (fun K => smB K), (fun K => xcB K (He.ga K "BadGrant")), (fun K => decide (PySem.W.kitOne K (.ref (He.ga K "BadGrant")) (.type "LookupError") = some false)), (fun K => xcB K (He.ga K "BadMarks")), (fun K => decide (PySem.W.kitOne K (.ref (He.ga K "BadMarks")) (.type "LookupError") = some false)), (fun K => xcB K (He.ga K "BadPolicy")), (fun K => decide (PySem.W.kitOne K (.ref (He.ga K "BadPolicy")) (.type "LookupError") = some false)), (fun K => xcB K (He.ga K "BadRole")), (fun K => decide (PySem.W.kitOne K (.ref (He.ga K "BadRole")) (.type "LookupError") = some false)), (fun K => xcB K (He.ga K "BadText")), (fun K => decide (PySem.W.kitOne K (.ref (He.ga K "BadText")) (.type "LookupError") = some false)), (fun K => xcB K (He.ga K "Barred")), (fun K => decide (PySem.W.kitOne K (.ref (He.ga K "Barred")) (.type "LookupError") = some false)), (fun K => xcB K (He.ga K "Full")), (fun K => decide (PySem.W.kitOne K (.ref (He.ga K "Full")) (.type "LookupError") = some false)), (fun K => xcB K (He.ga K "NotHeld")), (fun K => decide (PySem.W.kitOne K (.ref (He.ga K "NotHeld")) (.type "LookupError") = some false))] : List _) ++ ([(fun K => xcB K (He.ga K "NothingToUndo")), (fun K => decide (PySem.W.kitOne K (.ref (He.ga K "NothingToUndo")) (.type "LookupError") = some false)), (fun K => xcB K (He.ga K "NotPlain")), (fun K => decide (PySem.W.kitOne K (.ref (He.ga K "NotPlain")) (.type "LookupError") = some false)), (fun K => xcB K (He.ga K "TooMany")), (fun K => decide (PySem.W.kitOne K (.ref (He.ga K "TooMany")) (.type "LookupError") = some false)), (fun K => xcB K (He.ga K "Unlike")), (fun K => decide (PySem.W.kitOne K (.ref (He.ga K "Unlike")) (.type "LookupError") = some false)), (fun K => xcB K (He.ga K "NoGrant")), (fun K => decide (PySem.W.kitOne K (.ref (He.ga K "NoGrant")) (.type "LookupError") = some true)), (fun K => decide (PySem.W.kitOne K (.ref (He.ga K "BadGrant")) (.type "ValueError") = some true)), (fun K => decide (PySem.W.kitOne K (.ref (He.ga K "BadMarks")) (.type "ValueError") = some true)), (fun K => decide (PySem.W.kitOne K (.ref (He.ga K "BadPolicy")) (.type "ValueError") = some true)), (fun K => decide (PySem.W.kitOne K (.ref (He.ga K "BadRole")) (.type "ValueError") = some true)), (fun K => decide (PySem.W.kitOne K (.ref (He.ga K "BadText")) (.type "ValueError") = some true)), (fun K => decide (PySem.W.kitOne K (.ref (He.ga K "Barred")) (.type "ValueError") = some true)), (fun K => decide (PySem.W.kitOne K (.ref (He.ga K "Full")) (.type "ValueError") = some true)), (fun K => decide (PySem.W.kitOne K (.ref (He.ga K "NotHeld")) (.type "ValueError") = some true)), (fun K => decide (PySem.W.kitOne K (.ref (He.ga K "NothingToUndo")) (.type "ValueError") = some true)), (fun K => decide (PySem.W.kitOne K (.ref (He.ga K "NotPlain")) (.type "ValueError") = some true)), (fun K => decide (PySem.W.kitOne K (.ref (He.ga K "TooMany")) (.type "ValueError") = some true)), (fun K => decide (PySem.W.kitOne K (.ref (He.ga K "Unlike")) (.type "ValueError") = some true)), (fun K => decide (PySem.W.kitOne K (.ref (He.ga K "NoGrant")) (.type "ValueError") = some false)), (fun K => decide (PySem.W.findIn K (.ref (He.ga K "TooMany")) "limit" = some none)), (fun K => decide (PySem.W.findIn K (.ref (He.ga K "BadText")) "line" = some none))] : List _) ++ ([(fun K => decide (PySem.W.findIn K (.ref (He.ga K "BadRole")) "mark" = some none)), (fun K => decide (PySem.W.findIn K (.ref (He.ga K "BadPolicy")) "number" = some none)), (fun K => decide (PySem.W.findIn K (.ref (He.ga K "BadText")) "number" = some none)), (fun K => decide (PySem.W.findIn K (.ref (He.ga K "NoGrant")) "number" = some none)), (fun K => decide (PySem.W.findIn K (.ref (He.ga K "Barred")) "role" = some none)), (fun K => decide (PySem.W.findIn K (.ref (He.ga K "BadGrant")) "value" = some none)), (fun K => decide (PySem.W.findIn K (.ref (He.ga K "BadMarks")) "word" = some none)), (fun K => decide (PySem.W.findIn K (.ref (He.ga K "BadPolicy")) "word" = some none)), (fun K => decide (PySem.W.kitOne K (.ref (He.ga K "BadGrant")) (.ref (He.ga K "GrantError")) = some true)), (fun K => decide (PySem.W.kitOne K (.ref (He.ga K "BadMarks")) (.ref (He.ga K "GrantError")) = some true)), (fun K => decide (PySem.W.kitOne K (.ref (He.ga K "BadPolicy")) (.ref (He.ga K "GrantError")) = some true)), (fun K => decide (PySem.W.kitOne K (.ref (He.ga K "BadRole")) (.ref (He.ga K "GrantError")) = some true)), (fun K => decide (PySem.W.kitOne K (.ref (He.ga K "BadText")) (.ref (He.ga K "GrantError")) = some true)), (fun K => decide (PySem.W.kitOne K (.ref (He.ga K "Barred")) (.ref (He.ga K "GrantError")) = some true)), (fun K => decide (PySem.W.kitOne K (.ref (He.ga K "Full")) (.ref (He.ga K "GrantError")) = some true)), (fun K => decide (PySem.W.kitOne K (.ref (He.ga K "NotHeld")) (.ref (He.ga K "GrantError")) = some true)), (fun K => decide (PySem.W.kitOne K (.ref (He.ga K "NothingToUndo")) (.ref (He.ga K "GrantError")) = some true)), (fun K => decide (PySem.W.kitOne K (.ref (He.ga K "NotPlain")) (.ref (He.ga K "GrantError")) = some true)), (fun K => decide (PySem.W.kitOne K (.ref (He.ga K "TooMany")) (.ref (He.ga K "GrantError")) = some true)), (fun K => decide (PySem.W.kitOne K (.ref (He.ga K "Unlike")) (.ref (He.ga K "GrantError")) = some true)), (fun K => decide (PySem.W.kitOne K (.ref (He.ga K "NoGrant")) (.ref (He.ga K "GrantError")) = some false)), (fun K => decide (PySem.W.kitOne K (.ref (He.ga K "BadGrant")) (.ref (He.ga K "BadGrant")) = some true)), (fun K => decide (PySem.W.kitOne K (.ref (He.ga K "BadMarks")) (.ref (He.ga K "BadGrant")) = some false)), (fun K => decide (PySem.W.kitOne K (.ref (He.ga K "BadPolicy")) (.ref (He.ga K "BadGrant")) = some false)), (fun K => decide (PySem.W.kitOne K (.ref (He.ga K "BadRole")) (.ref (He.ga K "BadGrant")) = some false))] : List _) ++ ([(fun K => decide (PySem.W.kitOne K (.ref (He.ga K "BadText")) (.ref (He.ga K "BadGrant")) = some false)), (fun K => decide (PySem.W.kitOne K (.ref (He.ga K "Barred")) (.ref (He.ga K "BadGrant")) = some false)), (fun K => decide (PySem.W.kitOne K (.ref (He.ga K "Full")) (.ref (He.ga K "BadGrant")) = some false)), (fun K => decide (PySem.W.kitOne K (.ref (He.ga K "NotHeld")) (.ref (He.ga K "BadGrant")) = some false)), (fun K => decide (PySem.W.kitOne K (.ref (He.ga K "NothingToUndo")) (.ref (He.ga K "BadGrant")) = some false)), (fun K => decide (PySem.W.kitOne K (.ref (He.ga K "NotPlain")) (.ref (He.ga K "BadGrant")) = some false)), (fun K => decide (PySem.W.kitOne K (.ref (He.ga K "TooMany")) (.ref (He.ga K "BadGrant")) = some false)), (fun K => decide (PySem.W.kitOne K (.ref (He.ga K "Unlike")) (.ref (He.ga K "BadGrant")) = some false)), (fun K => decide (PySem.W.kitOne K (.ref (He.ga K "NoGrant")) (.ref (He.ga K "BadGrant")) = some false)), (fun K => decide (PySem.W.kitOne K (.ref (He.ga K "BadGrant")) (.ref (He.ga K "BadMarks")) = some false)), (fun K => decide (PySem.W.kitOne K (.ref (He.ga K "BadMarks")) (.ref (He.ga K "BadMarks")) = some true)), (fun K => decide (PySem.W.kitOne K (.ref (He.ga K "BadPolicy")) (.ref (He.ga K "BadMarks")) = some false)), (fun K => decide (PySem.W.kitOne K (.ref (He.ga K "BadRole")) (.ref (He.ga K "BadMarks")) = some false)), (fun K => decide (PySem.W.kitOne K (.ref (He.ga K "BadText")) (.ref (He.ga K "BadMarks")) = some false)), (fun K => decide (PySem.W.kitOne K (.ref (He.ga K "Barred")) (.ref (He.ga K "BadMarks")) = some false)), (fun K => decide (PySem.W.kitOne K (.ref (He.ga K "Full")) (.ref (He.ga K "BadMarks")) = some false)), (fun K => decide (PySem.W.kitOne K (.ref (He.ga K "NotHeld")) (.ref (He.ga K "BadMarks")) = some false)), (fun K => decide (PySem.W.kitOne K (.ref (He.ga K "NothingToUndo")) (.ref (He.ga K "BadMarks")) = some false)), (fun K => decide (PySem.W.kitOne K (.ref (He.ga K "NotPlain")) (.ref (He.ga K "BadMarks")) = some false)), (fun K => decide (PySem.W.kitOne K (.ref (He.ga K "TooMany")) (.ref (He.ga K "BadMarks")) = some false)), (fun K => decide (PySem.W.kitOne K (.ref (He.ga K "Unlike")) (.ref (He.ga K "BadMarks")) = some false)), (fun K => decide (PySem.W.kitOne K (.ref (He.ga K "NoGrant")) (.ref (He.ga K "BadMarks")) = some false)), (fun K => decide (PySem.W.kitOne K (.ref (He.ga K "BadGrant")) (.ref (He.ga K "BadPolicy")) = some false)), (fun K => decide (PySem.W.kitOne K (.ref (He.ga K "BadMarks")) (.ref (He.ga K "BadPolicy")) = some false)), (fun K => decide (PySem.W.kitOne K (.ref (He.ga K "BadPolicy")) (.ref (He.ga K "BadPolicy")) = some true))] : List _) ++ ([(fun K => decide (PySem.W.kitOne K (.ref (He.ga K "BadRole")) (.ref (He.ga K "BadPolicy")) = some false)), (fun K => decide (PySem.W.kitOne K (.ref (He.ga K "BadText")) (.ref (He.ga K "BadPolicy")) = some false)), (fun K => decide (PySem.W.kitOne K (.ref (He.ga K "Barred")) (.ref (He.ga K "BadPolicy")) = some false)), (fun K => decide (PySem.W.kitOne K (.ref (He.ga K "Full")) (.ref (He.ga K "BadPolicy")) = some false)), (fun K => decide (PySem.W.kitOne K (.ref (He.ga K "NotHeld")) (.ref (He.ga K "BadPolicy")) = some false)), (fun K => decide (PySem.W.kitOne K (.ref (He.ga K "NothingToUndo")) (.ref (He.ga K "BadPolicy")) = some false)), (fun K => decide (PySem.W.kitOne K (.ref (He.ga K "NotPlain")) (.ref (He.ga K "BadPolicy")) = some false)), (fun K => decide (PySem.W.kitOne K (.ref (He.ga K "TooMany")) (.ref (He.ga K "BadPolicy")) = some false)), (fun K => decide (PySem.W.kitOne K (.ref (He.ga K "Unlike")) (.ref (He.ga K "BadPolicy")) = some false)), (fun K => decide (PySem.W.kitOne K (.ref (He.ga K "NoGrant")) (.ref (He.ga K "BadPolicy")) = some false)), (fun K => decide (PySem.W.kitOne K (.ref (He.ga K "BadGrant")) (.ref (He.ga K "BadRole")) = some false)), (fun K => decide (PySem.W.kitOne K (.ref (He.ga K "BadMarks")) (.ref (He.ga K "BadRole")) = some false)), (fun K => decide (PySem.W.kitOne K (.ref (He.ga K "BadPolicy")) (.ref (He.ga K "BadRole")) = some false)), (fun K => decide (PySem.W.kitOne K (.ref (He.ga K "BadRole")) (.ref (He.ga K "BadRole")) = some true)), (fun K => decide (PySem.W.kitOne K (.ref (He.ga K "BadText")) (.ref (He.ga K "BadRole")) = some false)), (fun K => decide (PySem.W.kitOne K (.ref (He.ga K "Barred")) (.ref (He.ga K "BadRole")) = some false)), (fun K => decide (PySem.W.kitOne K (.ref (He.ga K "Full")) (.ref (He.ga K "BadRole")) = some false)), (fun K => decide (PySem.W.kitOne K (.ref (He.ga K "NotHeld")) (.ref (He.ga K "BadRole")) = some false)), (fun K => decide (PySem.W.kitOne K (.ref (He.ga K "NothingToUndo")) (.ref (He.ga K "BadRole")) = some false)), (fun K => decide (PySem.W.kitOne K (.ref (He.ga K "NotPlain")) (.ref (He.ga K "BadRole")) = some false)), (fun K => decide (PySem.W.kitOne K (.ref (He.ga K "TooMany")) (.ref (He.ga K "BadRole")) = some false)), (fun K => decide (PySem.W.kitOne K (.ref (He.ga K "Unlike")) (.ref (He.ga K "BadRole")) = some false)), (fun K => decide (PySem.W.kitOne K (.ref (He.ga K "NoGrant")) (.ref (He.ga K "BadRole")) = some false)), (fun K => decide (PySem.W.kitOne K (.ref (He.ga K "BadGrant")) (.ref (He.ga K "BadText")) = some false)), (fun K => decide (PySem.W.kitOne K (.ref (He.ga K "BadMarks")) (.ref (He.ga K "BadText")) = some false))] : List _) ++ ([(fun K => decide (PySem.W.kitOne K (.ref (He.ga K "BadPolicy")) (.ref (He.ga K "BadText")) = some false)), (fun K => decide (PySem.W.kitOne K (.ref (He.ga K "BadRole")) (.ref (He.ga K "BadText")) = some false)), (fun K => decide (PySem.W.kitOne K (.ref (He.ga K "BadText")) (.ref (He.ga K "BadText")) = some true)), (fun K => decide (PySem.W.kitOne K (.ref (He.ga K "Barred")) (.ref (He.ga K "BadText")) = some false)), (fun K => decide (PySem.W.kitOne K (.ref (He.ga K "Full")) (.ref (He.ga K "BadText")) = some false)), (fun K => decide (PySem.W.kitOne K (.ref (He.ga K "NotHeld")) (.ref (He.ga K "BadText")) = some false)), (fun K => decide (PySem.W.kitOne K (.ref (He.ga K "NothingToUndo")) (.ref (He.ga K "BadText")) = some false)), (fun K => decide (PySem.W.kitOne K (.ref (He.ga K "NotPlain")) (.ref (He.ga K "BadText")) = some false)), (fun K => decide (PySem.W.kitOne K (.ref (He.ga K "TooMany")) (.ref (He.ga K "BadText")) = some false)), (fun K => decide (PySem.W.kitOne K (.ref (He.ga K "Unlike")) (.ref (He.ga K "BadText")) = some false)), (fun K => decide (PySem.W.kitOne K (.ref (He.ga K "NoGrant")) (.ref (He.ga K "BadText")) = some false)), (fun K => decide (PySem.W.kitOne K (.ref (He.ga K "BadGrant")) (.ref (He.ga K "Barred")) = some false)), (fun K => decide (PySem.W.kitOne K (.ref (He.ga K "BadMarks")) (.ref (He.ga K "Barred")) = some false)), (fun K => decide (PySem.W.kitOne K (.ref (He.ga K "BadPolicy")) (.ref (He.ga K "Barred")) = some false)), (fun K => decide (PySem.W.kitOne K (.ref (He.ga K "BadRole")) (.ref (He.ga K "Barred")) = some false)), (fun K => decide (PySem.W.kitOne K (.ref (He.ga K "BadText")) (.ref (He.ga K "Barred")) = some false)), (fun K => decide (PySem.W.kitOne K (.ref (He.ga K "Barred")) (.ref (He.ga K "Barred")) = some true)), (fun K => decide (PySem.W.kitOne K (.ref (He.ga K "Full")) (.ref (He.ga K "Barred")) = some false)), (fun K => decide (PySem.W.kitOne K (.ref (He.ga K "NotHeld")) (.ref (He.ga K "Barred")) = some false)), (fun K => decide (PySem.W.kitOne K (.ref (He.ga K "NothingToUndo")) (.ref (He.ga K "Barred")) = some false)), (fun K => decide (PySem.W.kitOne K (.ref (He.ga K "NotPlain")) (.ref (He.ga K "Barred")) = some false)), (fun K => decide (PySem.W.kitOne K (.ref (He.ga K "TooMany")) (.ref (He.ga K "Barred")) = some false)), (fun K => decide (PySem.W.kitOne K (.ref (He.ga K "Unlike")) (.ref (He.ga K "Barred")) = some false)), (fun K => decide (PySem.W.kitOne K (.ref (He.ga K "NoGrant")) (.ref (He.ga K "Barred")) = some false)), (fun K => decide (PySem.W.kitOne K (.ref (He.ga K "BadGrant")) (.ref (He.ga K "Full")) = some false))] : List _) ++ ([(fun K => decide (PySem.W.kitOne K (.ref (He.ga K "BadMarks")) (.ref (He.ga K "Full")) = some false)), (fun K => decide (PySem.W.kitOne K (.ref (He.ga K "BadPolicy")) (.ref (He.ga K "Full")) = some false)), (fun K => decide (PySem.W.kitOne K (.ref (He.ga K "BadRole")) (.ref (He.ga K "Full")) = some false)), (fun K => decide (PySem.W.kitOne K (.ref (He.ga K "BadText")) (.ref (He.ga K "Full")) = some false)), (fun K => decide (PySem.W.kitOne K (.ref (He.ga K "Barred")) (.ref (He.ga K "Full")) = some false)), (fun K => decide (PySem.W.kitOne K (.ref (He.ga K "Full")) (.ref (He.ga K "Full")) = some true)), (fun K => decide (PySem.W.kitOne K (.ref (He.ga K "NotHeld")) (.ref (He.ga K "Full")) = some false)), (fun K => decide (PySem.W.kitOne K (.ref (He.ga K "NothingToUndo")) (.ref (He.ga K "Full")) = some false)), (fun K => decide (PySem.W.kitOne K (.ref (He.ga K "NotPlain")) (.ref (He.ga K "Full")) = some false)), (fun K => decide (PySem.W.kitOne K (.ref (He.ga K "TooMany")) (.ref (He.ga K "Full")) = some false)), (fun K => decide (PySem.W.kitOne K (.ref (He.ga K "Unlike")) (.ref (He.ga K "Full")) = some false)), (fun K => decide (PySem.W.kitOne K (.ref (He.ga K "NoGrant")) (.ref (He.ga K "Full")) = some false)), (fun K => decide (PySem.W.kitOne K (.ref (He.ga K "BadGrant")) (.ref (He.ga K "NotHeld")) = some false)), (fun K => decide (PySem.W.kitOne K (.ref (He.ga K "BadMarks")) (.ref (He.ga K "NotHeld")) = some false)), (fun K => decide (PySem.W.kitOne K (.ref (He.ga K "BadPolicy")) (.ref (He.ga K "NotHeld")) = some false)), (fun K => decide (PySem.W.kitOne K (.ref (He.ga K "BadRole")) (.ref (He.ga K "NotHeld")) = some false)), (fun K => decide (PySem.W.kitOne K (.ref (He.ga K "BadText")) (.ref (He.ga K "NotHeld")) = some false)), (fun K => decide (PySem.W.kitOne K (.ref (He.ga K "Barred")) (.ref (He.ga K "NotHeld")) = some false)), (fun K => decide (PySem.W.kitOne K (.ref (He.ga K "Full")) (.ref (He.ga K "NotHeld")) = some false)), (fun K => decide (PySem.W.kitOne K (.ref (He.ga K "NotHeld")) (.ref (He.ga K "NotHeld")) = some true)), (fun K => decide (PySem.W.kitOne K (.ref (He.ga K "NothingToUndo")) (.ref (He.ga K "NotHeld")) = some false)), (fun K => decide (PySem.W.kitOne K (.ref (He.ga K "NotPlain")) (.ref (He.ga K "NotHeld")) = some false)), (fun K => decide (PySem.W.kitOne K (.ref (He.ga K "TooMany")) (.ref (He.ga K "NotHeld")) = some false)), (fun K => decide (PySem.W.kitOne K (.ref (He.ga K "Unlike")) (.ref (He.ga K "NotHeld")) = some false)), (fun K => decide (PySem.W.kitOne K (.ref (He.ga K "NoGrant")) (.ref (He.ga K "NotHeld")) = some false))] : List _) ++ ([(fun K => decide (PySem.W.kitOne K (.ref (He.ga K "BadGrant")) (.ref (He.ga K "NothingToUndo")) = some false)), (fun K => decide (PySem.W.kitOne K (.ref (He.ga K "BadMarks")) (.ref (He.ga K "NothingToUndo")) = some false)), (fun K => decide (PySem.W.kitOne K (.ref (He.ga K "BadPolicy")) (.ref (He.ga K "NothingToUndo")) = some false)), (fun K => decide (PySem.W.kitOne K (.ref (He.ga K "BadRole")) (.ref (He.ga K "NothingToUndo")) = some false)), (fun K => decide (PySem.W.kitOne K (.ref (He.ga K "BadText")) (.ref (He.ga K "NothingToUndo")) = some false)), (fun K => decide (PySem.W.kitOne K (.ref (He.ga K "Barred")) (.ref (He.ga K "NothingToUndo")) = some false)), (fun K => decide (PySem.W.kitOne K (.ref (He.ga K "Full")) (.ref (He.ga K "NothingToUndo")) = some false)), (fun K => decide (PySem.W.kitOne K (.ref (He.ga K "NotHeld")) (.ref (He.ga K "NothingToUndo")) = some false)), (fun K => decide (PySem.W.kitOne K (.ref (He.ga K "NothingToUndo")) (.ref (He.ga K "NothingToUndo")) = some true)), (fun K => decide (PySem.W.kitOne K (.ref (He.ga K "NotPlain")) (.ref (He.ga K "NothingToUndo")) = some false)), (fun K => decide (PySem.W.kitOne K (.ref (He.ga K "TooMany")) (.ref (He.ga K "NothingToUndo")) = some false)), (fun K => decide (PySem.W.kitOne K (.ref (He.ga K "Unlike")) (.ref (He.ga K "NothingToUndo")) = some false)), (fun K => decide (PySem.W.kitOne K (.ref (He.ga K "NoGrant")) (.ref (He.ga K "NothingToUndo")) = some false)), (fun K => decide (PySem.W.kitOne K (.ref (He.ga K "BadGrant")) (.ref (He.ga K "NotPlain")) = some false)), (fun K => decide (PySem.W.kitOne K (.ref (He.ga K "BadMarks")) (.ref (He.ga K "NotPlain")) = some false)), (fun K => decide (PySem.W.kitOne K (.ref (He.ga K "BadPolicy")) (.ref (He.ga K "NotPlain")) = some false)), (fun K => decide (PySem.W.kitOne K (.ref (He.ga K "BadRole")) (.ref (He.ga K "NotPlain")) = some false)), (fun K => decide (PySem.W.kitOne K (.ref (He.ga K "BadText")) (.ref (He.ga K "NotPlain")) = some false)), (fun K => decide (PySem.W.kitOne K (.ref (He.ga K "Barred")) (.ref (He.ga K "NotPlain")) = some false)), (fun K => decide (PySem.W.kitOne K (.ref (He.ga K "Full")) (.ref (He.ga K "NotPlain")) = some false)), (fun K => decide (PySem.W.kitOne K (.ref (He.ga K "NotHeld")) (.ref (He.ga K "NotPlain")) = some false)), (fun K => decide (PySem.W.kitOne K (.ref (He.ga K "NothingToUndo")) (.ref (He.ga K "NotPlain")) = some false)), (fun K => decide (PySem.W.kitOne K (.ref (He.ga K "NotPlain")) (.ref (He.ga K "NotPlain")) = some true)), (fun K => decide (PySem.W.kitOne K (.ref (He.ga K "TooMany")) (.ref (He.ga K "NotPlain")) = some false)), (fun K => decide (PySem.W.kitOne K (.ref (He.ga K "Unlike")) (.ref (He.ga K "NotPlain")) = some false))] : List _) ++ ([(fun K => decide (PySem.W.kitOne K (.ref (He.ga K "NoGrant")) (.ref (He.ga K "NotPlain")) = some false)), (fun K => decide (PySem.W.kitOne K (.ref (He.ga K "BadGrant")) (.ref (He.ga K "TooMany")) = some false)), (fun K => decide (PySem.W.kitOne K (.ref (He.ga K "BadMarks")) (.ref (He.ga K "TooMany")) = some false)), (fun K => decide (PySem.W.kitOne K (.ref (He.ga K "BadPolicy")) (.ref (He.ga K "TooMany")) = some false)), (fun K => decide (PySem.W.kitOne K (.ref (He.ga K "BadRole")) (.ref (He.ga K "TooMany")) = some false)), (fun K => decide (PySem.W.kitOne K (.ref (He.ga K "BadText")) (.ref (He.ga K "TooMany")) = some false)), (fun K => decide (PySem.W.kitOne K (.ref (He.ga K "Barred")) (.ref (He.ga K "TooMany")) = some false)), (fun K => decide (PySem.W.kitOne K (.ref (He.ga K "Full")) (.ref (He.ga K "TooMany")) = some false)), (fun K => decide (PySem.W.kitOne K (.ref (He.ga K "NotHeld")) (.ref (He.ga K "TooMany")) = some false)), (fun K => decide (PySem.W.kitOne K (.ref (He.ga K "NothingToUndo")) (.ref (He.ga K "TooMany")) = some false)), (fun K => decide (PySem.W.kitOne K (.ref (He.ga K "NotPlain")) (.ref (He.ga K "TooMany")) = some false)), (fun K => decide (PySem.W.kitOne K (.ref (He.ga K "TooMany")) (.ref (He.ga K "TooMany")) = some true)), (fun K => decide (PySem.W.kitOne K (.ref (He.ga K "Unlike")) (.ref (He.ga K "TooMany")) = some false)), (fun K => decide (PySem.W.kitOne K (.ref (He.ga K "NoGrant")) (.ref (He.ga K "TooMany")) = some false)), (fun K => decide (PySem.W.kitOne K (.ref (He.ga K "BadGrant")) (.ref (He.ga K "Unlike")) = some false)), (fun K => decide (PySem.W.kitOne K (.ref (He.ga K "BadMarks")) (.ref (He.ga K "Unlike")) = some false)), (fun K => decide (PySem.W.kitOne K (.ref (He.ga K "BadPolicy")) (.ref (He.ga K "Unlike")) = some false)), (fun K => decide (PySem.W.kitOne K (.ref (He.ga K "BadRole")) (.ref (He.ga K "Unlike")) = some false)), (fun K => decide (PySem.W.kitOne K (.ref (He.ga K "BadText")) (.ref (He.ga K "Unlike")) = some false)), (fun K => decide (PySem.W.kitOne K (.ref (He.ga K "Barred")) (.ref (He.ga K "Unlike")) = some false)), (fun K => decide (PySem.W.kitOne K (.ref (He.ga K "Full")) (.ref (He.ga K "Unlike")) = some false)), (fun K => decide (PySem.W.kitOne K (.ref (He.ga K "NotHeld")) (.ref (He.ga K "Unlike")) = some false)), (fun K => decide (PySem.W.kitOne K (.ref (He.ga K "NothingToUndo")) (.ref (He.ga K "Unlike")) = some false)), (fun K => decide (PySem.W.kitOne K (.ref (He.ga K "NotPlain")) (.ref (He.ga K "Unlike")) = some false)), (fun K => decide (PySem.W.kitOne K (.ref (He.ga K "TooMany")) (.ref (He.ga K "Unlike")) = some false))] : List _) ++ ([(fun K => decide (PySem.W.kitOne K (.ref (He.ga K "Unlike")) (.ref (He.ga K "Unlike")) = some true)), (fun K => decide (PySem.W.kitOne K (.ref (He.ga K "NoGrant")) (.ref (He.ga K "Unlike")) = some false)), (fun K => decide (PySem.W.kitOne K (.ref (He.ga K "BadGrant")) (.ref (He.ga K "NoGrant")) = some false)), (fun K => decide (PySem.W.kitOne K (.ref (He.ga K "BadMarks")) (.ref (He.ga K "NoGrant")) = some false)), (fun K => decide (PySem.W.kitOne K (.ref (He.ga K "BadPolicy")) (.ref (He.ga K "NoGrant")) = some false)), (fun K => decide (PySem.W.kitOne K (.ref (He.ga K "BadRole")) (.ref (He.ga K "NoGrant")) = some false)), (fun K => decide (PySem.W.kitOne K (.ref (He.ga K "BadText")) (.ref (He.ga K "NoGrant")) = some false)), (fun K => decide (PySem.W.kitOne K (.ref (He.ga K "Barred")) (.ref (He.ga K "NoGrant")) = some false)), (fun K => decide (PySem.W.kitOne K (.ref (He.ga K "Full")) (.ref (He.ga K "NoGrant")) = some false)), (fun K => decide (PySem.W.kitOne K (.ref (He.ga K "NotHeld")) (.ref (He.ga K "NoGrant")) = some false)), (fun K => decide (PySem.W.kitOne K (.ref (He.ga K "NothingToUndo")) (.ref (He.ga K "NoGrant")) = some false)), (fun K => decide (PySem.W.kitOne K (.ref (He.ga K "NotPlain")) (.ref (He.ga K "NoGrant")) = some false)), (fun K => decide (PySem.W.kitOne K (.ref (He.ga K "TooMany")) (.ref (He.ga K "NoGrant")) = some false)), (fun K => decide (PySem.W.kitOne K (.ref (He.ga K "Unlike")) (.ref (He.ga K "NoGrant")) = some false)), (fun K => decide (PySem.W.kitOne K (.ref (He.ga K "NoGrant")) (.ref (He.ga K "NoGrant")) = some true))] : List _)
theorem ex_0 {K : PySem.W.Frag} (h : exAll K exl = true) : (iniB K "BadGrant") = true := exAt h 0 (f := fun K => iniB K "BadGrant") rfl
theorem ex_1 {K : PySem.W.Frag} (h : exAll K exl = true) : (iniB K "BadMarks") = true := exAt h 1 (f := fun K => iniB K "BadMarks") rfl
theorem ex_2 {K : PySem.W.Frag} (h : exAll K exl = true) : (iniB K "BadPolicy") = true := exAt h 2 (f := fun K => iniB K "BadPolicy") rfl
theorem ex_3 {K : PySem.W.Frag} (h : exAll K exl = true) : (iniB K "BadRole") = true := exAt h 3 (f := fun K => iniB K "BadRole") rfl
theorem ex_4 {K : PySem.W.Frag} (h : exAll K exl = true) : (iniB K "BadText") = true := exAt h 4 (f := fun K => iniB K "BadText") rfl
theorem ex_5 {K : PySem.W.Frag} (h : exAll K exl = true) : (iniB K "Barred") = true := exAt h 5 (f := fun K => iniB K "Barred") rfl
theorem ex_6 {K : PySem.W.Frag} (h : exAll K exl = true) : (iniLB K "NoGrant" "number") = true := exAt h 6 (f := fun K => iniLB K "NoGrant" "number") rfl
theorem ex_7 {K : PySem.W.Frag} (h : exAll K exl = true) : (iniB K "TooMany") = true := exAt h 7 (f := fun K => iniB K "TooMany") rfl
theorem ex_8 {K : PySem.W.Frag} (h : exAll K exl = true) : (smB K) = true := exAt h 8 (f := fun K => smB K) rfl
theorem ex_9 {K : PySem.W.Frag} (h : exAll K exl = true) : (xcB K (He.ga K "BadGrant")) = true := exAt h 9 (f := fun K => xcB K (He.ga K "BadGrant")) rfl
theorem ex_10 {K : PySem.W.Frag} (h : exAll K exl = true) : (decide (PySem.W.kitOne K (.ref (He.ga K "BadGrant")) (.type "LookupError") = some false)) = true := exAt h 10 (f := fun K => decide (PySem.W.kitOne K (.ref (He.ga K "BadGrant")) (.type "LookupError") = some false)) rfl
theorem ex_11 {K : PySem.W.Frag} (h : exAll K exl = true) : (xcB K (He.ga K "BadMarks")) = true := exAt h 11 (f := fun K => xcB K (He.ga K "BadMarks")) rfl
theorem ex_12 {K : PySem.W.Frag} (h : exAll K exl = true) : (decide (PySem.W.kitOne K (.ref (He.ga K "BadMarks")) (.type "LookupError") = some false)) = true := exAt h 12 (f := fun K => decide (PySem.W.kitOne K (.ref (He.ga K "BadMarks")) (.type "LookupError") = some false)) rfl
theorem ex_13 {K : PySem.W.Frag} (h : exAll K exl = true) : (xcB K (He.ga K "BadPolicy")) = true := exAt h 13 (f := fun K => xcB K (He.ga K "BadPolicy")) rfl
theorem ex_14 {K : PySem.W.Frag} (h : exAll K exl = true) : (decide (PySem.W.kitOne K (.ref (He.ga K "BadPolicy")) (.type "LookupError") = some false)) = true := exAt h 14 (f := fun K => decide (PySem.W.kitOne K (.ref (He.ga K "BadPolicy")) (.type "LookupError") = some false)) rfl
theorem ex_15 {K : PySem.W.Frag} (h : exAll K exl = true) : (xcB K (He.ga K "BadRole")) = true := exAt h 15 (f := fun K => xcB K (He.ga K "BadRole")) rfl
theorem ex_16 {K : PySem.W.Frag} (h : exAll K exl = true) : (decide (PySem.W.kitOne K (.ref (He.ga K "BadRole")) (.type "LookupError") = some false)) = true := exAt h 16 (f := fun K => decide (PySem.W.kitOne K (.ref (He.ga K "BadRole")) (.type "LookupError") = some false)) rfl
theorem ex_17 {K : PySem.W.Frag} (h : exAll K exl = true) : (xcB K (He.ga K "BadText")) = true := exAt h 17 (f := fun K => xcB K (He.ga K "BadText")) rfl
theorem ex_18 {K : PySem.W.Frag} (h : exAll K exl = true) : (decide (PySem.W.kitOne K (.ref (He.ga K "BadText")) (.type "LookupError") = some false)) = true := exAt h 18 (f := fun K => decide (PySem.W.kitOne K (.ref (He.ga K "BadText")) (.type "LookupError") = some false)) rfl
theorem ex_19 {K : PySem.W.Frag} (h : exAll K exl = true) : (xcB K (He.ga K "Barred")) = true := exAt h 19 (f := fun K => xcB K (He.ga K "Barred")) rfl
theorem ex_20 {K : PySem.W.Frag} (h : exAll K exl = true) : (decide (PySem.W.kitOne K (.ref (He.ga K "Barred")) (.type "LookupError") = some false)) = true := exAt h 20 (f := fun K => decide (PySem.W.kitOne K (.ref (He.ga K "Barred")) (.type "LookupError") = some false)) rfl
theorem ex_21 {K : PySem.W.Frag} (h : exAll K exl = true) : (xcB K (He.ga K "Full")) = true := exAt h 21 (f := fun K => xcB K (He.ga K "Full")) rfl
theorem ex_22 {K : PySem.W.Frag} (h : exAll K exl = true) : (decide (PySem.W.kitOne K (.ref (He.ga K "Full")) (.type "LookupError") = some false)) = true := exAt h 22 (f := fun K => decide (PySem.W.kitOne K (.ref (He.ga K "Full")) (.type "LookupError") = some false)) rfl
theorem ex_23 {K : PySem.W.Frag} (h : exAll K exl = true) : (xcB K (He.ga K "NotHeld")) = true := exAt h 23 (f := fun K => xcB K (He.ga K "NotHeld")) rfl
theorem ex_24 {K : PySem.W.Frag} (h : exAll K exl = true) : (decide (PySem.W.kitOne K (.ref (He.ga K "NotHeld")) (.type "LookupError") = some false)) = true := exAt h 24 (f := fun K => decide (PySem.W.kitOne K (.ref (He.ga K "NotHeld")) (.type "LookupError") = some false)) rfl
theorem ex_25 {K : PySem.W.Frag} (h : exAll K exl = true) : (xcB K (He.ga K "NothingToUndo")) = true := exAt h 25 (f := fun K => xcB K (He.ga K "NothingToUndo")) rfl
theorem ex_26 {K : PySem.W.Frag} (h : exAll K exl = true) : (decide (PySem.W.kitOne K (.ref (He.ga K "NothingToUndo")) (.type "LookupError") = some false)) = true := exAt h 26 (f := fun K => decide (PySem.W.kitOne K (.ref (He.ga K "NothingToUndo")) (.type "LookupError") = some false)) rfl
theorem ex_27 {K : PySem.W.Frag} (h : exAll K exl = true) : (xcB K (He.ga K "NotPlain")) = true := exAt h 27 (f := fun K => xcB K (He.ga K "NotPlain")) rfl
theorem ex_28 {K : PySem.W.Frag} (h : exAll K exl = true) : (decide (PySem.W.kitOne K (.ref (He.ga K "NotPlain")) (.type "LookupError") = some false)) = true := exAt h 28 (f := fun K => decide (PySem.W.kitOne K (.ref (He.ga K "NotPlain")) (.type "LookupError") = some false)) rfl
theorem ex_29 {K : PySem.W.Frag} (h : exAll K exl = true) : (xcB K (He.ga K "TooMany")) = true := exAt h 29 (f := fun K => xcB K (He.ga K "TooMany")) rfl
theorem ex_30 {K : PySem.W.Frag} (h : exAll K exl = true) : (decide (PySem.W.kitOne K (.ref (He.ga K "TooMany")) (.type "LookupError") = some false)) = true := exAt h 30 (f := fun K => decide (PySem.W.kitOne K (.ref (He.ga K "TooMany")) (.type "LookupError") = some false)) rfl
theorem ex_31 {K : PySem.W.Frag} (h : exAll K exl = true) : (xcB K (He.ga K "Unlike")) = true := exAt h 31 (f := fun K => xcB K (He.ga K "Unlike")) rfl
theorem ex_32 {K : PySem.W.Frag} (h : exAll K exl = true) : (decide (PySem.W.kitOne K (.ref (He.ga K "Unlike")) (.type "LookupError") = some false)) = true := exAt h 32 (f := fun K => decide (PySem.W.kitOne K (.ref (He.ga K "Unlike")) (.type "LookupError") = some false)) rfl
theorem ex_33 {K : PySem.W.Frag} (h : exAll K exl = true) : (xcB K (He.ga K "NoGrant")) = true := exAt h 33 (f := fun K => xcB K (He.ga K "NoGrant")) rfl
theorem ex_34 {K : PySem.W.Frag} (h : exAll K exl = true) : (decide (PySem.W.kitOne K (.ref (He.ga K "NoGrant")) (.type "LookupError") = some true)) = true := exAt h 34 (f := fun K => decide (PySem.W.kitOne K (.ref (He.ga K "NoGrant")) (.type "LookupError") = some true)) rfl
theorem ex_35 {K : PySem.W.Frag} (h : exAll K exl = true) : (decide (PySem.W.kitOne K (.ref (He.ga K "BadGrant")) (.type "ValueError") = some true)) = true := exAt h 35 (f := fun K => decide (PySem.W.kitOne K (.ref (He.ga K "BadGrant")) (.type "ValueError") = some true)) rfl
theorem ex_36 {K : PySem.W.Frag} (h : exAll K exl = true) : (decide (PySem.W.kitOne K (.ref (He.ga K "BadMarks")) (.type "ValueError") = some true)) = true := exAt h 36 (f := fun K => decide (PySem.W.kitOne K (.ref (He.ga K "BadMarks")) (.type "ValueError") = some true)) rfl
theorem ex_37 {K : PySem.W.Frag} (h : exAll K exl = true) : (decide (PySem.W.kitOne K (.ref (He.ga K "BadPolicy")) (.type "ValueError") = some true)) = true := exAt h 37 (f := fun K => decide (PySem.W.kitOne K (.ref (He.ga K "BadPolicy")) (.type "ValueError") = some true)) rfl
theorem ex_38 {K : PySem.W.Frag} (h : exAll K exl = true) : (decide (PySem.W.kitOne K (.ref (He.ga K "BadRole")) (.type "ValueError") = some true)) = true := exAt h 38 (f := fun K => decide (PySem.W.kitOne K (.ref (He.ga K "BadRole")) (.type "ValueError") = some true)) rfl
theorem ex_39 {K : PySem.W.Frag} (h : exAll K exl = true) : (decide (PySem.W.kitOne K (.ref (He.ga K "BadText")) (.type "ValueError") = some true)) = true := exAt h 39 (f := fun K => decide (PySem.W.kitOne K (.ref (He.ga K "BadText")) (.type "ValueError") = some true)) rfl
theorem ex_40 {K : PySem.W.Frag} (h : exAll K exl = true) : (decide (PySem.W.kitOne K (.ref (He.ga K "Barred")) (.type "ValueError") = some true)) = true := exAt h 40 (f := fun K => decide (PySem.W.kitOne K (.ref (He.ga K "Barred")) (.type "ValueError") = some true)) rfl
theorem ex_41 {K : PySem.W.Frag} (h : exAll K exl = true) : (decide (PySem.W.kitOne K (.ref (He.ga K "Full")) (.type "ValueError") = some true)) = true := exAt h 41 (f := fun K => decide (PySem.W.kitOne K (.ref (He.ga K "Full")) (.type "ValueError") = some true)) rfl
theorem ex_42 {K : PySem.W.Frag} (h : exAll K exl = true) : (decide (PySem.W.kitOne K (.ref (He.ga K "NotHeld")) (.type "ValueError") = some true)) = true := exAt h 42 (f := fun K => decide (PySem.W.kitOne K (.ref (He.ga K "NotHeld")) (.type "ValueError") = some true)) rfl
theorem ex_43 {K : PySem.W.Frag} (h : exAll K exl = true) : (decide (PySem.W.kitOne K (.ref (He.ga K "NothingToUndo")) (.type "ValueError") = some true)) = true := exAt h 43 (f := fun K => decide (PySem.W.kitOne K (.ref (He.ga K "NothingToUndo")) (.type "ValueError") = some true)) rfl
theorem ex_44 {K : PySem.W.Frag} (h : exAll K exl = true) : (decide (PySem.W.kitOne K (.ref (He.ga K "NotPlain")) (.type "ValueError") = some true)) = true := exAt h 44 (f := fun K => decide (PySem.W.kitOne K (.ref (He.ga K "NotPlain")) (.type "ValueError") = some true)) rfl
theorem ex_45 {K : PySem.W.Frag} (h : exAll K exl = true) : (decide (PySem.W.kitOne K (.ref (He.ga K "TooMany")) (.type "ValueError") = some true)) = true := exAt h 45 (f := fun K => decide (PySem.W.kitOne K (.ref (He.ga K "TooMany")) (.type "ValueError") = some true)) rfl
theorem ex_46 {K : PySem.W.Frag} (h : exAll K exl = true) : (decide (PySem.W.kitOne K (.ref (He.ga K "Unlike")) (.type "ValueError") = some true)) = true := exAt h 46 (f := fun K => decide (PySem.W.kitOne K (.ref (He.ga K "Unlike")) (.type "ValueError") = some true)) rfl
theorem ex_47 {K : PySem.W.Frag} (h : exAll K exl = true) : (decide (PySem.W.kitOne K (.ref (He.ga K "NoGrant")) (.type "ValueError") = some false)) = true := exAt h 47 (f := fun K => decide (PySem.W.kitOne K (.ref (He.ga K "NoGrant")) (.type "ValueError") = some false)) rfl
theorem ex_48 {K : PySem.W.Frag} (h : exAll K exl = true) : (decide (PySem.W.findIn K (.ref (He.ga K "TooMany")) "limit" = some none)) = true := exAt h 48 (f := fun K => decide (PySem.W.findIn K (.ref (He.ga K "TooMany")) "limit" = some none)) rfl
theorem ex_49 {K : PySem.W.Frag} (h : exAll K exl = true) : (decide (PySem.W.findIn K (.ref (He.ga K "BadText")) "line" = some none)) = true := exAt h 49 (f := fun K => decide (PySem.W.findIn K (.ref (He.ga K "BadText")) "line" = some none)) rfl
theorem ex_50 {K : PySem.W.Frag} (h : exAll K exl = true) : (decide (PySem.W.findIn K (.ref (He.ga K "BadRole")) "mark" = some none)) = true := exAt h 50 (f := fun K => decide (PySem.W.findIn K (.ref (He.ga K "BadRole")) "mark" = some none)) rfl
theorem ex_51 {K : PySem.W.Frag} (h : exAll K exl = true) : (decide (PySem.W.findIn K (.ref (He.ga K "BadPolicy")) "number" = some none)) = true := exAt h 51 (f := fun K => decide (PySem.W.findIn K (.ref (He.ga K "BadPolicy")) "number" = some none)) rfl
theorem ex_52 {K : PySem.W.Frag} (h : exAll K exl = true) : (decide (PySem.W.findIn K (.ref (He.ga K "BadText")) "number" = some none)) = true := exAt h 52 (f := fun K => decide (PySem.W.findIn K (.ref (He.ga K "BadText")) "number" = some none)) rfl
theorem ex_53 {K : PySem.W.Frag} (h : exAll K exl = true) : (decide (PySem.W.findIn K (.ref (He.ga K "NoGrant")) "number" = some none)) = true := exAt h 53 (f := fun K => decide (PySem.W.findIn K (.ref (He.ga K "NoGrant")) "number" = some none)) rfl
theorem ex_54 {K : PySem.W.Frag} (h : exAll K exl = true) : (decide (PySem.W.findIn K (.ref (He.ga K "Barred")) "role" = some none)) = true := exAt h 54 (f := fun K => decide (PySem.W.findIn K (.ref (He.ga K "Barred")) "role" = some none)) rfl
theorem ex_55 {K : PySem.W.Frag} (h : exAll K exl = true) : (decide (PySem.W.findIn K (.ref (He.ga K "BadGrant")) "value" = some none)) = true := exAt h 55 (f := fun K => decide (PySem.W.findIn K (.ref (He.ga K "BadGrant")) "value" = some none)) rfl
theorem ex_56 {K : PySem.W.Frag} (h : exAll K exl = true) : (decide (PySem.W.findIn K (.ref (He.ga K "BadMarks")) "word" = some none)) = true := exAt h 56 (f := fun K => decide (PySem.W.findIn K (.ref (He.ga K "BadMarks")) "word" = some none)) rfl
theorem ex_57 {K : PySem.W.Frag} (h : exAll K exl = true) : (decide (PySem.W.findIn K (.ref (He.ga K "BadPolicy")) "word" = some none)) = true := exAt h 57 (f := fun K => decide (PySem.W.findIn K (.ref (He.ga K "BadPolicy")) "word" = some none)) rfl
theorem ex_58 {K : PySem.W.Frag} (h : exAll K exl = true) : (decide (PySem.W.kitOne K (.ref (He.ga K "BadGrant")) (.ref (He.ga K "GrantError")) = some true)) = true := exAt h 58 (f := fun K => decide (PySem.W.kitOne K (.ref (He.ga K "BadGrant")) (.ref (He.ga K "GrantError")) = some true)) rfl
theorem ex_59 {K : PySem.W.Frag} (h : exAll K exl = true) : (decide (PySem.W.kitOne K (.ref (He.ga K "BadMarks")) (.ref (He.ga K "GrantError")) = some true)) = true := exAt h 59 (f := fun K => decide (PySem.W.kitOne K (.ref (He.ga K "BadMarks")) (.ref (He.ga K "GrantError")) = some true)) rfl
theorem ex_60 {K : PySem.W.Frag} (h : exAll K exl = true) : (decide (PySem.W.kitOne K (.ref (He.ga K "BadPolicy")) (.ref (He.ga K "GrantError")) = some true)) = true := exAt h 60 (f := fun K => decide (PySem.W.kitOne K (.ref (He.ga K "BadPolicy")) (.ref (He.ga K "GrantError")) = some true)) rfl
theorem ex_61 {K : PySem.W.Frag} (h : exAll K exl = true) : (decide (PySem.W.kitOne K (.ref (He.ga K "BadRole")) (.ref (He.ga K "GrantError")) = some true)) = true := exAt h 61 (f := fun K => decide (PySem.W.kitOne K (.ref (He.ga K "BadRole")) (.ref (He.ga K "GrantError")) = some true)) rfl
theorem ex_62 {K : PySem.W.Frag} (h : exAll K exl = true) : (decide (PySem.W.kitOne K (.ref (He.ga K "BadText")) (.ref (He.ga K "GrantError")) = some true)) = true := exAt h 62 (f := fun K => decide (PySem.W.kitOne K (.ref (He.ga K "BadText")) (.ref (He.ga K "GrantError")) = some true)) rfl
theorem ex_63 {K : PySem.W.Frag} (h : exAll K exl = true) : (decide (PySem.W.kitOne K (.ref (He.ga K "Barred")) (.ref (He.ga K "GrantError")) = some true)) = true := exAt h 63 (f := fun K => decide (PySem.W.kitOne K (.ref (He.ga K "Barred")) (.ref (He.ga K "GrantError")) = some true)) rfl
theorem ex_64 {K : PySem.W.Frag} (h : exAll K exl = true) : (decide (PySem.W.kitOne K (.ref (He.ga K "Full")) (.ref (He.ga K "GrantError")) = some true)) = true := exAt h 64 (f := fun K => decide (PySem.W.kitOne K (.ref (He.ga K "Full")) (.ref (He.ga K "GrantError")) = some true)) rfl
theorem ex_65 {K : PySem.W.Frag} (h : exAll K exl = true) : (decide (PySem.W.kitOne K (.ref (He.ga K "NotHeld")) (.ref (He.ga K "GrantError")) = some true)) = true := exAt h 65 (f := fun K => decide (PySem.W.kitOne K (.ref (He.ga K "NotHeld")) (.ref (He.ga K "GrantError")) = some true)) rfl
theorem ex_66 {K : PySem.W.Frag} (h : exAll K exl = true) : (decide (PySem.W.kitOne K (.ref (He.ga K "NothingToUndo")) (.ref (He.ga K "GrantError")) = some true)) = true := exAt h 66 (f := fun K => decide (PySem.W.kitOne K (.ref (He.ga K "NothingToUndo")) (.ref (He.ga K "GrantError")) = some true)) rfl
theorem ex_67 {K : PySem.W.Frag} (h : exAll K exl = true) : (decide (PySem.W.kitOne K (.ref (He.ga K "NotPlain")) (.ref (He.ga K "GrantError")) = some true)) = true := exAt h 67 (f := fun K => decide (PySem.W.kitOne K (.ref (He.ga K "NotPlain")) (.ref (He.ga K "GrantError")) = some true)) rfl
theorem ex_68 {K : PySem.W.Frag} (h : exAll K exl = true) : (decide (PySem.W.kitOne K (.ref (He.ga K "TooMany")) (.ref (He.ga K "GrantError")) = some true)) = true := exAt h 68 (f := fun K => decide (PySem.W.kitOne K (.ref (He.ga K "TooMany")) (.ref (He.ga K "GrantError")) = some true)) rfl
theorem ex_69 {K : PySem.W.Frag} (h : exAll K exl = true) : (decide (PySem.W.kitOne K (.ref (He.ga K "Unlike")) (.ref (He.ga K "GrantError")) = some true)) = true := exAt h 69 (f := fun K => decide (PySem.W.kitOne K (.ref (He.ga K "Unlike")) (.ref (He.ga K "GrantError")) = some true)) rfl
theorem ex_70 {K : PySem.W.Frag} (h : exAll K exl = true) : (decide (PySem.W.kitOne K (.ref (He.ga K "NoGrant")) (.ref (He.ga K "GrantError")) = some false)) = true := exAt h 70 (f := fun K => decide (PySem.W.kitOne K (.ref (He.ga K "NoGrant")) (.ref (He.ga K "GrantError")) = some false)) rfl
theorem ex_71 {K : PySem.W.Frag} (h : exAll K exl = true) : (decide (PySem.W.kitOne K (.ref (He.ga K "BadGrant")) (.ref (He.ga K "BadGrant")) = some true)) = true := exAt h 71 (f := fun K => decide (PySem.W.kitOne K (.ref (He.ga K "BadGrant")) (.ref (He.ga K "BadGrant")) = some true)) rfl
theorem ex_72 {K : PySem.W.Frag} (h : exAll K exl = true) : (decide (PySem.W.kitOne K (.ref (He.ga K "BadMarks")) (.ref (He.ga K "BadGrant")) = some false)) = true := exAt h 72 (f := fun K => decide (PySem.W.kitOne K (.ref (He.ga K "BadMarks")) (.ref (He.ga K "BadGrant")) = some false)) rfl
theorem ex_73 {K : PySem.W.Frag} (h : exAll K exl = true) : (decide (PySem.W.kitOne K (.ref (He.ga K "BadPolicy")) (.ref (He.ga K "BadGrant")) = some false)) = true := exAt h 73 (f := fun K => decide (PySem.W.kitOne K (.ref (He.ga K "BadPolicy")) (.ref (He.ga K "BadGrant")) = some false)) rfl
theorem ex_74 {K : PySem.W.Frag} (h : exAll K exl = true) : (decide (PySem.W.kitOne K (.ref (He.ga K "BadRole")) (.ref (He.ga K "BadGrant")) = some false)) = true := exAt h 74 (f := fun K => decide (PySem.W.kitOne K (.ref (He.ga K "BadRole")) (.ref (He.ga K "BadGrant")) = some false)) rfl
theorem ex_75 {K : PySem.W.Frag} (h : exAll K exl = true) : (decide (PySem.W.kitOne K (.ref (He.ga K "BadText")) (.ref (He.ga K "BadGrant")) = some false)) = true := exAt h 75 (f := fun K => decide (PySem.W.kitOne K (.ref (He.ga K "BadText")) (.ref (He.ga K "BadGrant")) = some false)) rfl
theorem ex_76 {K : PySem.W.Frag} (h : exAll K exl = true) : (decide (PySem.W.kitOne K (.ref (He.ga K "Barred")) (.ref (He.ga K "BadGrant")) = some false)) = true := exAt h 76 (f := fun K => decide (PySem.W.kitOne K (.ref (He.ga K "Barred")) (.ref (He.ga K "BadGrant")) = some false)) rfl
theorem ex_77 {K : PySem.W.Frag} (h : exAll K exl = true) : (decide (PySem.W.kitOne K (.ref (He.ga K "Full")) (.ref (He.ga K "BadGrant")) = some false)) = true := exAt h 77 (f := fun K => decide (PySem.W.kitOne K (.ref (He.ga K "Full")) (.ref (He.ga K "BadGrant")) = some false)) rfl
theorem ex_78 {K : PySem.W.Frag} (h : exAll K exl = true) : (decide (PySem.W.kitOne K (.ref (He.ga K "NotHeld")) (.ref (He.ga K "BadGrant")) = some false)) = true := exAt h 78 (f := fun K => decide (PySem.W.kitOne K (.ref (He.ga K "NotHeld")) (.ref (He.ga K "BadGrant")) = some false)) rfl
theorem ex_79 {K : PySem.W.Frag} (h : exAll K exl = true) : (decide (PySem.W.kitOne K (.ref (He.ga K "NothingToUndo")) (.ref (He.ga K "BadGrant")) = some false)) = true := exAt h 79 (f := fun K => decide (PySem.W.kitOne K (.ref (He.ga K "NothingToUndo")) (.ref (He.ga K "BadGrant")) = some false)) rfl
theorem ex_80 {K : PySem.W.Frag} (h : exAll K exl = true) : (decide (PySem.W.kitOne K (.ref (He.ga K "NotPlain")) (.ref (He.ga K "BadGrant")) = some false)) = true := exAt h 80 (f := fun K => decide (PySem.W.kitOne K (.ref (He.ga K "NotPlain")) (.ref (He.ga K "BadGrant")) = some false)) rfl
theorem ex_81 {K : PySem.W.Frag} (h : exAll K exl = true) : (decide (PySem.W.kitOne K (.ref (He.ga K "TooMany")) (.ref (He.ga K "BadGrant")) = some false)) = true := exAt h 81 (f := fun K => decide (PySem.W.kitOne K (.ref (He.ga K "TooMany")) (.ref (He.ga K "BadGrant")) = some false)) rfl
theorem ex_82 {K : PySem.W.Frag} (h : exAll K exl = true) : (decide (PySem.W.kitOne K (.ref (He.ga K "Unlike")) (.ref (He.ga K "BadGrant")) = some false)) = true := exAt h 82 (f := fun K => decide (PySem.W.kitOne K (.ref (He.ga K "Unlike")) (.ref (He.ga K "BadGrant")) = some false)) rfl
theorem ex_83 {K : PySem.W.Frag} (h : exAll K exl = true) : (decide (PySem.W.kitOne K (.ref (He.ga K "NoGrant")) (.ref (He.ga K "BadGrant")) = some false)) = true := exAt h 83 (f := fun K => decide (PySem.W.kitOne K (.ref (He.ga K "NoGrant")) (.ref (He.ga K "BadGrant")) = some false)) rfl
theorem ex_84 {K : PySem.W.Frag} (h : exAll K exl = true) : (decide (PySem.W.kitOne K (.ref (He.ga K "BadGrant")) (.ref (He.ga K "BadMarks")) = some false)) = true := exAt h 84 (f := fun K => decide (PySem.W.kitOne K (.ref (He.ga K "BadGrant")) (.ref (He.ga K "BadMarks")) = some false)) rfl
theorem ex_85 {K : PySem.W.Frag} (h : exAll K exl = true) : (decide (PySem.W.kitOne K (.ref (He.ga K "BadMarks")) (.ref (He.ga K "BadMarks")) = some true)) = true := exAt h 85 (f := fun K => decide (PySem.W.kitOne K (.ref (He.ga K "BadMarks")) (.ref (He.ga K "BadMarks")) = some true)) rfl
theorem ex_86 {K : PySem.W.Frag} (h : exAll K exl = true) : (decide (PySem.W.kitOne K (.ref (He.ga K "BadPolicy")) (.ref (He.ga K "BadMarks")) = some false)) = true := exAt h 86 (f := fun K => decide (PySem.W.kitOne K (.ref (He.ga K "BadPolicy")) (.ref (He.ga K "BadMarks")) = some false)) rfl
theorem ex_87 {K : PySem.W.Frag} (h : exAll K exl = true) : (decide (PySem.W.kitOne K (.ref (He.ga K "BadRole")) (.ref (He.ga K "BadMarks")) = some false)) = true := exAt h 87 (f := fun K => decide (PySem.W.kitOne K (.ref (He.ga K "BadRole")) (.ref (He.ga K "BadMarks")) = some false)) rfl
theorem ex_88 {K : PySem.W.Frag} (h : exAll K exl = true) : (decide (PySem.W.kitOne K (.ref (He.ga K "BadText")) (.ref (He.ga K "BadMarks")) = some false)) = true := exAt h 88 (f := fun K => decide (PySem.W.kitOne K (.ref (He.ga K "BadText")) (.ref (He.ga K "BadMarks")) = some false)) rfl
theorem ex_89 {K : PySem.W.Frag} (h : exAll K exl = true) : (decide (PySem.W.kitOne K (.ref (He.ga K "Barred")) (.ref (He.ga K "BadMarks")) = some false)) = true := exAt h 89 (f := fun K => decide (PySem.W.kitOne K (.ref (He.ga K "Barred")) (.ref (He.ga K "BadMarks")) = some false)) rfl
theorem ex_90 {K : PySem.W.Frag} (h : exAll K exl = true) : (decide (PySem.W.kitOne K (.ref (He.ga K "Full")) (.ref (He.ga K "BadMarks")) = some false)) = true := exAt h 90 (f := fun K => decide (PySem.W.kitOne K (.ref (He.ga K "Full")) (.ref (He.ga K "BadMarks")) = some false)) rfl
theorem ex_91 {K : PySem.W.Frag} (h : exAll K exl = true) : (decide (PySem.W.kitOne K (.ref (He.ga K "NotHeld")) (.ref (He.ga K "BadMarks")) = some false)) = true := exAt h 91 (f := fun K => decide (PySem.W.kitOne K (.ref (He.ga K "NotHeld")) (.ref (He.ga K "BadMarks")) = some false)) rfl
theorem ex_92 {K : PySem.W.Frag} (h : exAll K exl = true) : (decide (PySem.W.kitOne K (.ref (He.ga K "NothingToUndo")) (.ref (He.ga K "BadMarks")) = some false)) = true := exAt h 92 (f := fun K => decide (PySem.W.kitOne K (.ref (He.ga K "NothingToUndo")) (.ref (He.ga K "BadMarks")) = some false)) rfl
theorem ex_93 {K : PySem.W.Frag} (h : exAll K exl = true) : (decide (PySem.W.kitOne K (.ref (He.ga K "NotPlain")) (.ref (He.ga K "BadMarks")) = some false)) = true := exAt h 93 (f := fun K => decide (PySem.W.kitOne K (.ref (He.ga K "NotPlain")) (.ref (He.ga K "BadMarks")) = some false)) rfl
theorem ex_94 {K : PySem.W.Frag} (h : exAll K exl = true) : (decide (PySem.W.kitOne K (.ref (He.ga K "TooMany")) (.ref (He.ga K "BadMarks")) = some false)) = true := exAt h 94 (f := fun K => decide (PySem.W.kitOne K (.ref (He.ga K "TooMany")) (.ref (He.ga K "BadMarks")) = some false)) rfl
theorem ex_95 {K : PySem.W.Frag} (h : exAll K exl = true) : (decide (PySem.W.kitOne K (.ref (He.ga K "Unlike")) (.ref (He.ga K "BadMarks")) = some false)) = true := exAt h 95 (f := fun K => decide (PySem.W.kitOne K (.ref (He.ga K "Unlike")) (.ref (He.ga K "BadMarks")) = some false)) rfl
theorem ex_96 {K : PySem.W.Frag} (h : exAll K exl = true) : (decide (PySem.W.kitOne K (.ref (He.ga K "NoGrant")) (.ref (He.ga K "BadMarks")) = some false)) = true := exAt h 96 (f := fun K => decide (PySem.W.kitOne K (.ref (He.ga K "NoGrant")) (.ref (He.ga K "BadMarks")) = some false)) rfl
theorem ex_97 {K : PySem.W.Frag} (h : exAll K exl = true) : (decide (PySem.W.kitOne K (.ref (He.ga K "BadGrant")) (.ref (He.ga K "BadPolicy")) = some false)) = true := exAt h 97 (f := fun K => decide (PySem.W.kitOne K (.ref (He.ga K "BadGrant")) (.ref (He.ga K "BadPolicy")) = some false)) rfl
theorem ex_98 {K : PySem.W.Frag} (h : exAll K exl = true) : (decide (PySem.W.kitOne K (.ref (He.ga K "BadMarks")) (.ref (He.ga K "BadPolicy")) = some false)) = true := exAt h 98 (f := fun K => decide (PySem.W.kitOne K (.ref (He.ga K "BadMarks")) (.ref (He.ga K "BadPolicy")) = some false)) rfl
theorem ex_99 {K : PySem.W.Frag} (h : exAll K exl = true) : (decide (PySem.W.kitOne K (.ref (He.ga K "BadPolicy")) (.ref (He.ga K "BadPolicy")) = some true)) = true := exAt h 99 (f := fun K => decide (PySem.W.kitOne K (.ref (He.ga K "BadPolicy")) (.ref (He.ga K "BadPolicy")) = some true)) rfl
theorem ex_100 {K : PySem.W.Frag} (h : exAll K exl = true) : (decide (PySem.W.kitOne K (.ref (He.ga K "BadRole")) (.ref (He.ga K "BadPolicy")) = some false)) = true := exAt h 100 (f := fun K => decide (PySem.W.kitOne K (.ref (He.ga K "BadRole")) (.ref (He.ga K "BadPolicy")) = some false)) rfl
theorem ex_101 {K : PySem.W.Frag} (h : exAll K exl = true) : (decide (PySem.W.kitOne K (.ref (He.ga K "BadText")) (.ref (He.ga K "BadPolicy")) = some false)) = true := exAt h 101 (f := fun K => decide (PySem.W.kitOne K (.ref (He.ga K "BadText")) (.ref (He.ga K "BadPolicy")) = some false)) rfl
theorem ex_102 {K : PySem.W.Frag} (h : exAll K exl = true) : (decide (PySem.W.kitOne K (.ref (He.ga K "Barred")) (.ref (He.ga K "BadPolicy")) = some false)) = true := exAt h 102 (f := fun K => decide (PySem.W.kitOne K (.ref (He.ga K "Barred")) (.ref (He.ga K "BadPolicy")) = some false)) rfl
theorem ex_103 {K : PySem.W.Frag} (h : exAll K exl = true) : (decide (PySem.W.kitOne K (.ref (He.ga K "Full")) (.ref (He.ga K "BadPolicy")) = some false)) = true := exAt h 103 (f := fun K => decide (PySem.W.kitOne K (.ref (He.ga K "Full")) (.ref (He.ga K "BadPolicy")) = some false)) rfl
theorem ex_104 {K : PySem.W.Frag} (h : exAll K exl = true) : (decide (PySem.W.kitOne K (.ref (He.ga K "NotHeld")) (.ref (He.ga K "BadPolicy")) = some false)) = true := exAt h 104 (f := fun K => decide (PySem.W.kitOne K (.ref (He.ga K "NotHeld")) (.ref (He.ga K "BadPolicy")) = some false)) rfl
theorem ex_105 {K : PySem.W.Frag} (h : exAll K exl = true) : (decide (PySem.W.kitOne K (.ref (He.ga K "NothingToUndo")) (.ref (He.ga K "BadPolicy")) = some false)) = true := exAt h 105 (f := fun K => decide (PySem.W.kitOne K (.ref (He.ga K "NothingToUndo")) (.ref (He.ga K "BadPolicy")) = some false)) rfl
theorem ex_106 {K : PySem.W.Frag} (h : exAll K exl = true) : (decide (PySem.W.kitOne K (.ref (He.ga K "NotPlain")) (.ref (He.ga K "BadPolicy")) = some false)) = true := exAt h 106 (f := fun K => decide (PySem.W.kitOne K (.ref (He.ga K "NotPlain")) (.ref (He.ga K "BadPolicy")) = some false)) rfl
theorem ex_107 {K : PySem.W.Frag} (h : exAll K exl = true) : (decide (PySem.W.kitOne K (.ref (He.ga K "TooMany")) (.ref (He.ga K "BadPolicy")) = some false)) = true := exAt h 107 (f := fun K => decide (PySem.W.kitOne K (.ref (He.ga K "TooMany")) (.ref (He.ga K "BadPolicy")) = some false)) rfl
theorem ex_108 {K : PySem.W.Frag} (h : exAll K exl = true) : (decide (PySem.W.kitOne K (.ref (He.ga K "Unlike")) (.ref (He.ga K "BadPolicy")) = some false)) = true := exAt h 108 (f := fun K => decide (PySem.W.kitOne K (.ref (He.ga K "Unlike")) (.ref (He.ga K "BadPolicy")) = some false)) rfl
theorem ex_109 {K : PySem.W.Frag} (h : exAll K exl = true) : (decide (PySem.W.kitOne K (.ref (He.ga K "NoGrant")) (.ref (He.ga K "BadPolicy")) = some false)) = true := exAt h 109 (f := fun K => decide (PySem.W.kitOne K (.ref (He.ga K "NoGrant")) (.ref (He.ga K "BadPolicy")) = some false)) rfl
theorem ex_110 {K : PySem.W.Frag} (h : exAll K exl = true) : (decide (PySem.W.kitOne K (.ref (He.ga K "BadGrant")) (.ref (He.ga K "BadRole")) = some false)) = true := exAt h 110 (f := fun K => decide (PySem.W.kitOne K (.ref (He.ga K "BadGrant")) (.ref (He.ga K "BadRole")) = some false)) rfl
theorem ex_111 {K : PySem.W.Frag} (h : exAll K exl = true) : (decide (PySem.W.kitOne K (.ref (He.ga K "BadMarks")) (.ref (He.ga K "BadRole")) = some false)) = true := exAt h 111 (f := fun K => decide (PySem.W.kitOne K (.ref (He.ga K "BadMarks")) (.ref (He.ga K "BadRole")) = some false)) rfl
theorem ex_112 {K : PySem.W.Frag} (h : exAll K exl = true) : (decide (PySem.W.kitOne K (.ref (He.ga K "BadPolicy")) (.ref (He.ga K "BadRole")) = some false)) = true := exAt h 112 (f := fun K => decide (PySem.W.kitOne K (.ref (He.ga K "BadPolicy")) (.ref (He.ga K "BadRole")) = some false)) rfl
theorem ex_113 {K : PySem.W.Frag} (h : exAll K exl = true) : (decide (PySem.W.kitOne K (.ref (He.ga K "BadRole")) (.ref (He.ga K "BadRole")) = some true)) = true := exAt h 113 (f := fun K => decide (PySem.W.kitOne K (.ref (He.ga K "BadRole")) (.ref (He.ga K "BadRole")) = some true)) rfl
theorem ex_114 {K : PySem.W.Frag} (h : exAll K exl = true) : (decide (PySem.W.kitOne K (.ref (He.ga K "BadText")) (.ref (He.ga K "BadRole")) = some false)) = true := exAt h 114 (f := fun K => decide (PySem.W.kitOne K (.ref (He.ga K "BadText")) (.ref (He.ga K "BadRole")) = some false)) rfl
theorem ex_115 {K : PySem.W.Frag} (h : exAll K exl = true) : (decide (PySem.W.kitOne K (.ref (He.ga K "Barred")) (.ref (He.ga K "BadRole")) = some false)) = true := exAt h 115 (f := fun K => decide (PySem.W.kitOne K (.ref (He.ga K "Barred")) (.ref (He.ga K "BadRole")) = some false)) rfl
theorem ex_116 {K : PySem.W.Frag} (h : exAll K exl = true) : (decide (PySem.W.kitOne K (.ref (He.ga K "Full")) (.ref (He.ga K "BadRole")) = some false)) = true := exAt h 116 (f := fun K => decide (PySem.W.kitOne K (.ref (He.ga K "Full")) (.ref (He.ga K "BadRole")) = some false)) rfl
theorem ex_117 {K : PySem.W.Frag} (h : exAll K exl = true) : (decide (PySem.W.kitOne K (.ref (He.ga K "NotHeld")) (.ref (He.ga K "BadRole")) = some false)) = true := exAt h 117 (f := fun K => decide (PySem.W.kitOne K (.ref (He.ga K "NotHeld")) (.ref (He.ga K "BadRole")) = some false)) rfl
theorem ex_118 {K : PySem.W.Frag} (h : exAll K exl = true) : (decide (PySem.W.kitOne K (.ref (He.ga K "NothingToUndo")) (.ref (He.ga K "BadRole")) = some false)) = true := exAt h 118 (f := fun K => decide (PySem.W.kitOne K (.ref (He.ga K "NothingToUndo")) (.ref (He.ga K "BadRole")) = some false)) rfl
theorem ex_119 {K : PySem.W.Frag} (h : exAll K exl = true) : (decide (PySem.W.kitOne K (.ref (He.ga K "NotPlain")) (.ref (He.ga K "BadRole")) = some false)) = true := exAt h 119 (f := fun K => decide (PySem.W.kitOne K (.ref (He.ga K "NotPlain")) (.ref (He.ga K "BadRole")) = some false)) rfl
theorem ex_120 {K : PySem.W.Frag} (h : exAll K exl = true) : (decide (PySem.W.kitOne K (.ref (He.ga K "TooMany")) (.ref (He.ga K "BadRole")) = some false)) = true := exAt h 120 (f := fun K => decide (PySem.W.kitOne K (.ref (He.ga K "TooMany")) (.ref (He.ga K "BadRole")) = some false)) rfl
theorem ex_121 {K : PySem.W.Frag} (h : exAll K exl = true) : (decide (PySem.W.kitOne K (.ref (He.ga K "Unlike")) (.ref (He.ga K "BadRole")) = some false)) = true := exAt h 121 (f := fun K => decide (PySem.W.kitOne K (.ref (He.ga K "Unlike")) (.ref (He.ga K "BadRole")) = some false)) rfl
theorem ex_122 {K : PySem.W.Frag} (h : exAll K exl = true) : (decide (PySem.W.kitOne K (.ref (He.ga K "NoGrant")) (.ref (He.ga K "BadRole")) = some false)) = true := exAt h 122 (f := fun K => decide (PySem.W.kitOne K (.ref (He.ga K "NoGrant")) (.ref (He.ga K "BadRole")) = some false)) rfl
theorem ex_123 {K : PySem.W.Frag} (h : exAll K exl = true) : (decide (PySem.W.kitOne K (.ref (He.ga K "BadGrant")) (.ref (He.ga K "BadText")) = some false)) = true := exAt h 123 (f := fun K => decide (PySem.W.kitOne K (.ref (He.ga K "BadGrant")) (.ref (He.ga K "BadText")) = some false)) rfl
theorem ex_124 {K : PySem.W.Frag} (h : exAll K exl = true) : (decide (PySem.W.kitOne K (.ref (He.ga K "BadMarks")) (.ref (He.ga K "BadText")) = some false)) = true := exAt h 124 (f := fun K => decide (PySem.W.kitOne K (.ref (He.ga K "BadMarks")) (.ref (He.ga K "BadText")) = some false)) rfl
theorem ex_125 {K : PySem.W.Frag} (h : exAll K exl = true) : (decide (PySem.W.kitOne K (.ref (He.ga K "BadPolicy")) (.ref (He.ga K "BadText")) = some false)) = true := exAt h 125 (f := fun K => decide (PySem.W.kitOne K (.ref (He.ga K "BadPolicy")) (.ref (He.ga K "BadText")) = some false)) rfl
theorem ex_126 {K : PySem.W.Frag} (h : exAll K exl = true) : (decide (PySem.W.kitOne K (.ref (He.ga K "BadRole")) (.ref (He.ga K "BadText")) = some false)) = true := exAt h 126 (f := fun K => decide (PySem.W.kitOne K (.ref (He.ga K "BadRole")) (.ref (He.ga K "BadText")) = some false)) rfl
theorem ex_127 {K : PySem.W.Frag} (h : exAll K exl = true) : (decide (PySem.W.kitOne K (.ref (He.ga K "BadText")) (.ref (He.ga K "BadText")) = some true)) = true := exAt h 127 (f := fun K => decide (PySem.W.kitOne K (.ref (He.ga K "BadText")) (.ref (He.ga K "BadText")) = some true)) rfl
theorem ex_128 {K : PySem.W.Frag} (h : exAll K exl = true) : (decide (PySem.W.kitOne K (.ref (He.ga K "Barred")) (.ref (He.ga K "BadText")) = some false)) = true := exAt h 128 (f := fun K => decide (PySem.W.kitOne K (.ref (He.ga K "Barred")) (.ref (He.ga K "BadText")) = some false)) rfl
theorem ex_129 {K : PySem.W.Frag} (h : exAll K exl = true) : (decide (PySem.W.kitOne K (.ref (He.ga K "Full")) (.ref (He.ga K "BadText")) = some false)) = true := exAt h 129 (f := fun K => decide (PySem.W.kitOne K (.ref (He.ga K "Full")) (.ref (He.ga K "BadText")) = some false)) rfl
theorem ex_130 {K : PySem.W.Frag} (h : exAll K exl = true) : (decide (PySem.W.kitOne K (.ref (He.ga K "NotHeld")) (.ref (He.ga K "BadText")) = some false)) = true := exAt h 130 (f := fun K => decide (PySem.W.kitOne K (.ref (He.ga K "NotHeld")) (.ref (He.ga K "BadText")) = some false)) rfl
theorem ex_131 {K : PySem.W.Frag} (h : exAll K exl = true) : (decide (PySem.W.kitOne K (.ref (He.ga K "NothingToUndo")) (.ref (He.ga K "BadText")) = some false)) = true := exAt h 131 (f := fun K => decide (PySem.W.kitOne K (.ref (He.ga K "NothingToUndo")) (.ref (He.ga K "BadText")) = some false)) rfl
theorem ex_132 {K : PySem.W.Frag} (h : exAll K exl = true) : (decide (PySem.W.kitOne K (.ref (He.ga K "NotPlain")) (.ref (He.ga K "BadText")) = some false)) = true := exAt h 132 (f := fun K => decide (PySem.W.kitOne K (.ref (He.ga K "NotPlain")) (.ref (He.ga K "BadText")) = some false)) rfl
theorem ex_133 {K : PySem.W.Frag} (h : exAll K exl = true) : (decide (PySem.W.kitOne K (.ref (He.ga K "TooMany")) (.ref (He.ga K "BadText")) = some false)) = true := exAt h 133 (f := fun K => decide (PySem.W.kitOne K (.ref (He.ga K "TooMany")) (.ref (He.ga K "BadText")) = some false)) rfl
theorem ex_134 {K : PySem.W.Frag} (h : exAll K exl = true) : (decide (PySem.W.kitOne K (.ref (He.ga K "Unlike")) (.ref (He.ga K "BadText")) = some false)) = true := exAt h 134 (f := fun K => decide (PySem.W.kitOne K (.ref (He.ga K "Unlike")) (.ref (He.ga K "BadText")) = some false)) rfl
theorem ex_135 {K : PySem.W.Frag} (h : exAll K exl = true) : (decide (PySem.W.kitOne K (.ref (He.ga K "NoGrant")) (.ref (He.ga K "BadText")) = some false)) = true := exAt h 135 (f := fun K => decide (PySem.W.kitOne K (.ref (He.ga K "NoGrant")) (.ref (He.ga K "BadText")) = some false)) rfl
theorem ex_136 {K : PySem.W.Frag} (h : exAll K exl = true) : (decide (PySem.W.kitOne K (.ref (He.ga K "BadGrant")) (.ref (He.ga K "Barred")) = some false)) = true := exAt h 136 (f := fun K => decide (PySem.W.kitOne K (.ref (He.ga K "BadGrant")) (.ref (He.ga K "Barred")) = some false)) rfl
theorem ex_137 {K : PySem.W.Frag} (h : exAll K exl = true) : (decide (PySem.W.kitOne K (.ref (He.ga K "BadMarks")) (.ref (He.ga K "Barred")) = some false)) = true := exAt h 137 (f := fun K => decide (PySem.W.kitOne K (.ref (He.ga K "BadMarks")) (.ref (He.ga K "Barred")) = some false)) rfl
theorem ex_138 {K : PySem.W.Frag} (h : exAll K exl = true) : (decide (PySem.W.kitOne K (.ref (He.ga K "BadPolicy")) (.ref (He.ga K "Barred")) = some false)) = true := exAt h 138 (f := fun K => decide (PySem.W.kitOne K (.ref (He.ga K "BadPolicy")) (.ref (He.ga K "Barred")) = some false)) rfl
theorem ex_139 {K : PySem.W.Frag} (h : exAll K exl = true) : (decide (PySem.W.kitOne K (.ref (He.ga K "BadRole")) (.ref (He.ga K "Barred")) = some false)) = true := exAt h 139 (f := fun K => decide (PySem.W.kitOne K (.ref (He.ga K "BadRole")) (.ref (He.ga K "Barred")) = some false)) rfl
theorem ex_140 {K : PySem.W.Frag} (h : exAll K exl = true) : (decide (PySem.W.kitOne K (.ref (He.ga K "BadText")) (.ref (He.ga K "Barred")) = some false)) = true := exAt h 140 (f := fun K => decide (PySem.W.kitOne K (.ref (He.ga K "BadText")) (.ref (He.ga K "Barred")) = some false)) rfl
theorem ex_141 {K : PySem.W.Frag} (h : exAll K exl = true) : (decide (PySem.W.kitOne K (.ref (He.ga K "Barred")) (.ref (He.ga K "Barred")) = some true)) = true := exAt h 141 (f := fun K => decide (PySem.W.kitOne K (.ref (He.ga K "Barred")) (.ref (He.ga K "Barred")) = some true)) rfl
theorem ex_142 {K : PySem.W.Frag} (h : exAll K exl = true) : (decide (PySem.W.kitOne K (.ref (He.ga K "Full")) (.ref (He.ga K "Barred")) = some false)) = true := exAt h 142 (f := fun K => decide (PySem.W.kitOne K (.ref (He.ga K "Full")) (.ref (He.ga K "Barred")) = some false)) rfl
theorem ex_143 {K : PySem.W.Frag} (h : exAll K exl = true) : (decide (PySem.W.kitOne K (.ref (He.ga K "NotHeld")) (.ref (He.ga K "Barred")) = some false)) = true := exAt h 143 (f := fun K => decide (PySem.W.kitOne K (.ref (He.ga K "NotHeld")) (.ref (He.ga K "Barred")) = some false)) rfl
theorem ex_144 {K : PySem.W.Frag} (h : exAll K exl = true) : (decide (PySem.W.kitOne K (.ref (He.ga K "NothingToUndo")) (.ref (He.ga K "Barred")) = some false)) = true := exAt h 144 (f := fun K => decide (PySem.W.kitOne K (.ref (He.ga K "NothingToUndo")) (.ref (He.ga K "Barred")) = some false)) rfl
theorem ex_145 {K : PySem.W.Frag} (h : exAll K exl = true) : (decide (PySem.W.kitOne K (.ref (He.ga K "NotPlain")) (.ref (He.ga K "Barred")) = some false)) = true := exAt h 145 (f := fun K => decide (PySem.W.kitOne K (.ref (He.ga K "NotPlain")) (.ref (He.ga K "Barred")) = some false)) rfl
theorem ex_146 {K : PySem.W.Frag} (h : exAll K exl = true) : (decide (PySem.W.kitOne K (.ref (He.ga K "TooMany")) (.ref (He.ga K "Barred")) = some false)) = true := exAt h 146 (f := fun K => decide (PySem.W.kitOne K (.ref (He.ga K "TooMany")) (.ref (He.ga K "Barred")) = some false)) rfl
theorem ex_147 {K : PySem.W.Frag} (h : exAll K exl = true) : (decide (PySem.W.kitOne K (.ref (He.ga K "Unlike")) (.ref (He.ga K "Barred")) = some false)) = true := exAt h 147 (f := fun K => decide (PySem.W.kitOne K (.ref (He.ga K "Unlike")) (.ref (He.ga K "Barred")) = some false)) rfl
theorem ex_148 {K : PySem.W.Frag} (h : exAll K exl = true) : (decide (PySem.W.kitOne K (.ref (He.ga K "NoGrant")) (.ref (He.ga K "Barred")) = some false)) = true := exAt h 148 (f := fun K => decide (PySem.W.kitOne K (.ref (He.ga K "NoGrant")) (.ref (He.ga K "Barred")) = some false)) rfl
theorem ex_149 {K : PySem.W.Frag} (h : exAll K exl = true) : (decide (PySem.W.kitOne K (.ref (He.ga K "BadGrant")) (.ref (He.ga K "Full")) = some false)) = true := exAt h 149 (f := fun K => decide (PySem.W.kitOne K (.ref (He.ga K "BadGrant")) (.ref (He.ga K "Full")) = some false)) rfl
theorem ex_150 {K : PySem.W.Frag} (h : exAll K exl = true) : (decide (PySem.W.kitOne K (.ref (He.ga K "BadMarks")) (.ref (He.ga K "Full")) = some false)) = true := exAt h 150 (f := fun K => decide (PySem.W.kitOne K (.ref (He.ga K "BadMarks")) (.ref (He.ga K "Full")) = some false)) rfl
theorem ex_151 {K : PySem.W.Frag} (h : exAll K exl = true) : (decide (PySem.W.kitOne K (.ref (He.ga K "BadPolicy")) (.ref (He.ga K "Full")) = some false)) = true := exAt h 151 (f := fun K => decide (PySem.W.kitOne K (.ref (He.ga K "BadPolicy")) (.ref (He.ga K "Full")) = some false)) rfl
theorem ex_152 {K : PySem.W.Frag} (h : exAll K exl = true) : (decide (PySem.W.kitOne K (.ref (He.ga K "BadRole")) (.ref (He.ga K "Full")) = some false)) = true := exAt h 152 (f := fun K => decide (PySem.W.kitOne K (.ref (He.ga K "BadRole")) (.ref (He.ga K "Full")) = some false)) rfl
theorem ex_153 {K : PySem.W.Frag} (h : exAll K exl = true) : (decide (PySem.W.kitOne K (.ref (He.ga K "BadText")) (.ref (He.ga K "Full")) = some false)) = true := exAt h 153 (f := fun K => decide (PySem.W.kitOne K (.ref (He.ga K "BadText")) (.ref (He.ga K "Full")) = some false)) rfl
theorem ex_154 {K : PySem.W.Frag} (h : exAll K exl = true) : (decide (PySem.W.kitOne K (.ref (He.ga K "Barred")) (.ref (He.ga K "Full")) = some false)) = true := exAt h 154 (f := fun K => decide (PySem.W.kitOne K (.ref (He.ga K "Barred")) (.ref (He.ga K "Full")) = some false)) rfl
theorem ex_155 {K : PySem.W.Frag} (h : exAll K exl = true) : (decide (PySem.W.kitOne K (.ref (He.ga K "Full")) (.ref (He.ga K "Full")) = some true)) = true := exAt h 155 (f := fun K => decide (PySem.W.kitOne K (.ref (He.ga K "Full")) (.ref (He.ga K "Full")) = some true)) rfl
theorem ex_156 {K : PySem.W.Frag} (h : exAll K exl = true) : (decide (PySem.W.kitOne K (.ref (He.ga K "NotHeld")) (.ref (He.ga K "Full")) = some false)) = true := exAt h 156 (f := fun K => decide (PySem.W.kitOne K (.ref (He.ga K "NotHeld")) (.ref (He.ga K "Full")) = some false)) rfl
theorem ex_157 {K : PySem.W.Frag} (h : exAll K exl = true) : (decide (PySem.W.kitOne K (.ref (He.ga K "NothingToUndo")) (.ref (He.ga K "Full")) = some false)) = true := exAt h 157 (f := fun K => decide (PySem.W.kitOne K (.ref (He.ga K "NothingToUndo")) (.ref (He.ga K "Full")) = some false)) rfl
theorem ex_158 {K : PySem.W.Frag} (h : exAll K exl = true) : (decide (PySem.W.kitOne K (.ref (He.ga K "NotPlain")) (.ref (He.ga K "Full")) = some false)) = true := exAt h 158 (f := fun K => decide (PySem.W.kitOne K (.ref (He.ga K "NotPlain")) (.ref (He.ga K "Full")) = some false)) rfl
theorem ex_159 {K : PySem.W.Frag} (h : exAll K exl = true) : (decide (PySem.W.kitOne K (.ref (He.ga K "TooMany")) (.ref (He.ga K "Full")) = some false)) = true := exAt h 159 (f := fun K => decide (PySem.W.kitOne K (.ref (He.ga K "TooMany")) (.ref (He.ga K "Full")) = some false)) rfl
theorem ex_160 {K : PySem.W.Frag} (h : exAll K exl = true) : (decide (PySem.W.kitOne K (.ref (He.ga K "Unlike")) (.ref (He.ga K "Full")) = some false)) = true := exAt h 160 (f := fun K => decide (PySem.W.kitOne K (.ref (He.ga K "Unlike")) (.ref (He.ga K "Full")) = some false)) rfl
theorem ex_161 {K : PySem.W.Frag} (h : exAll K exl = true) : (decide (PySem.W.kitOne K (.ref (He.ga K "NoGrant")) (.ref (He.ga K "Full")) = some false)) = true := exAt h 161 (f := fun K => decide (PySem.W.kitOne K (.ref (He.ga K "NoGrant")) (.ref (He.ga K "Full")) = some false)) rfl
theorem ex_162 {K : PySem.W.Frag} (h : exAll K exl = true) : (decide (PySem.W.kitOne K (.ref (He.ga K "BadGrant")) (.ref (He.ga K "NotHeld")) = some false)) = true := exAt h 162 (f := fun K => decide (PySem.W.kitOne K (.ref (He.ga K "BadGrant")) (.ref (He.ga K "NotHeld")) = some false)) rfl
theorem ex_163 {K : PySem.W.Frag} (h : exAll K exl = true) : (decide (PySem.W.kitOne K (.ref (He.ga K "BadMarks")) (.ref (He.ga K "NotHeld")) = some false)) = true := exAt h 163 (f := fun K => decide (PySem.W.kitOne K (.ref (He.ga K "BadMarks")) (.ref (He.ga K "NotHeld")) = some false)) rfl
theorem ex_164 {K : PySem.W.Frag} (h : exAll K exl = true) : (decide (PySem.W.kitOne K (.ref (He.ga K "BadPolicy")) (.ref (He.ga K "NotHeld")) = some false)) = true := exAt h 164 (f := fun K => decide (PySem.W.kitOne K (.ref (He.ga K "BadPolicy")) (.ref (He.ga K "NotHeld")) = some false)) rfl
theorem ex_165 {K : PySem.W.Frag} (h : exAll K exl = true) : (decide (PySem.W.kitOne K (.ref (He.ga K "BadRole")) (.ref (He.ga K "NotHeld")) = some false)) = true := exAt h 165 (f := fun K => decide (PySem.W.kitOne K (.ref (He.ga K "BadRole")) (.ref (He.ga K "NotHeld")) = some false)) rfl
theorem ex_166 {K : PySem.W.Frag} (h : exAll K exl = true) : (decide (PySem.W.kitOne K (.ref (He.ga K "BadText")) (.ref (He.ga K "NotHeld")) = some false)) = true := exAt h 166 (f := fun K => decide (PySem.W.kitOne K (.ref (He.ga K "BadText")) (.ref (He.ga K "NotHeld")) = some false)) rfl
theorem ex_167 {K : PySem.W.Frag} (h : exAll K exl = true) : (decide (PySem.W.kitOne K (.ref (He.ga K "Barred")) (.ref (He.ga K "NotHeld")) = some false)) = true := exAt h 167 (f := fun K => decide (PySem.W.kitOne K (.ref (He.ga K "Barred")) (.ref (He.ga K "NotHeld")) = some false)) rfl
theorem ex_168 {K : PySem.W.Frag} (h : exAll K exl = true) : (decide (PySem.W.kitOne K (.ref (He.ga K "Full")) (.ref (He.ga K "NotHeld")) = some false)) = true := exAt h 168 (f := fun K => decide (PySem.W.kitOne K (.ref (He.ga K "Full")) (.ref (He.ga K "NotHeld")) = some false)) rfl
theorem ex_169 {K : PySem.W.Frag} (h : exAll K exl = true) : (decide (PySem.W.kitOne K (.ref (He.ga K "NotHeld")) (.ref (He.ga K "NotHeld")) = some true)) = true := exAt h 169 (f := fun K => decide (PySem.W.kitOne K (.ref (He.ga K "NotHeld")) (.ref (He.ga K "NotHeld")) = some true)) rfl
theorem ex_170 {K : PySem.W.Frag} (h : exAll K exl = true) : (decide (PySem.W.kitOne K (.ref (He.ga K "NothingToUndo")) (.ref (He.ga K "NotHeld")) = some false)) = true := exAt h 170 (f := fun K => decide (PySem.W.kitOne K (.ref (He.ga K "NothingToUndo")) (.ref (He.ga K "NotHeld")) = some false)) rfl
theorem ex_171 {K : PySem.W.Frag} (h : exAll K exl = true) : (decide (PySem.W.kitOne K (.ref (He.ga K "NotPlain")) (.ref (He.ga K "NotHeld")) = some false)) = true := exAt h 171 (f := fun K => decide (PySem.W.kitOne K (.ref (He.ga K "NotPlain")) (.ref (He.ga K "NotHeld")) = some false)) rfl
theorem ex_172 {K : PySem.W.Frag} (h : exAll K exl = true) : (decide (PySem.W.kitOne K (.ref (He.ga K "TooMany")) (.ref (He.ga K "NotHeld")) = some false)) = true := exAt h 172 (f := fun K => decide (PySem.W.kitOne K (.ref (He.ga K "TooMany")) (.ref (He.ga K "NotHeld")) = some false)) rfl
theorem ex_173 {K : PySem.W.Frag} (h : exAll K exl = true) : (decide (PySem.W.kitOne K (.ref (He.ga K "Unlike")) (.ref (He.ga K "NotHeld")) = some false)) = true := exAt h 173 (f := fun K => decide (PySem.W.kitOne K (.ref (He.ga K "Unlike")) (.ref (He.ga K "NotHeld")) = some false)) rfl
theorem ex_174 {K : PySem.W.Frag} (h : exAll K exl = true) : (decide (PySem.W.kitOne K (.ref (He.ga K "NoGrant")) (.ref (He.ga K "NotHeld")) = some false)) = true := exAt h 174 (f := fun K => decide (PySem.W.kitOne K (.ref (He.ga K "NoGrant")) (.ref (He.ga K "NotHeld")) = some false)) rfl
theorem ex_175 {K : PySem.W.Frag} (h : exAll K exl = true) : (decide (PySem.W.kitOne K (.ref (He.ga K "BadGrant")) (.ref (He.ga K "NothingToUndo")) = some false)) = true := exAt h 175 (f := fun K => decide (PySem.W.kitOne K (.ref (He.ga K "BadGrant")) (.ref (He.ga K "NothingToUndo")) = some false)) rfl
theorem ex_176 {K : PySem.W.Frag} (h : exAll K exl = true) : (decide (PySem.W.kitOne K (.ref (He.ga K "BadMarks")) (.ref (He.ga K "NothingToUndo")) = some false)) = true := exAt h 176 (f := fun K => decide (PySem.W.kitOne K (.ref (He.ga K "BadMarks")) (.ref (He.ga K "NothingToUndo")) = some false)) rfl
theorem ex_177 {K : PySem.W.Frag} (h : exAll K exl = true) : (decide (PySem.W.kitOne K (.ref (He.ga K "BadPolicy")) (.ref (He.ga K "NothingToUndo")) = some false)) = true := exAt h 177 (f := fun K => decide (PySem.W.kitOne K (.ref (He.ga K "BadPolicy")) (.ref (He.ga K "NothingToUndo")) = some false)) rfl
theorem ex_178 {K : PySem.W.Frag} (h : exAll K exl = true) : (decide (PySem.W.kitOne K (.ref (He.ga K "BadRole")) (.ref (He.ga K "NothingToUndo")) = some false)) = true := exAt h 178 (f := fun K => decide (PySem.W.kitOne K (.ref (He.ga K "BadRole")) (.ref (He.ga K "NothingToUndo")) = some false)) rfl
theorem ex_179 {K : PySem.W.Frag} (h : exAll K exl = true) : (decide (PySem.W.kitOne K (.ref (He.ga K "BadText")) (.ref (He.ga K "NothingToUndo")) = some false)) = true := exAt h 179 (f := fun K => decide (PySem.W.kitOne K (.ref (He.ga K "BadText")) (.ref (He.ga K "NothingToUndo")) = some false)) rfl
theorem ex_180 {K : PySem.W.Frag} (h : exAll K exl = true) : (decide (PySem.W.kitOne K (.ref (He.ga K "Barred")) (.ref (He.ga K "NothingToUndo")) = some false)) = true := exAt h 180 (f := fun K => decide (PySem.W.kitOne K (.ref (He.ga K "Barred")) (.ref (He.ga K "NothingToUndo")) = some false)) rfl
theorem ex_181 {K : PySem.W.Frag} (h : exAll K exl = true) : (decide (PySem.W.kitOne K (.ref (He.ga K "Full")) (.ref (He.ga K "NothingToUndo")) = some false)) = true := exAt h 181 (f := fun K => decide (PySem.W.kitOne K (.ref (He.ga K "Full")) (.ref (He.ga K "NothingToUndo")) = some false)) rfl
theorem ex_182 {K : PySem.W.Frag} (h : exAll K exl = true) : (decide (PySem.W.kitOne K (.ref (He.ga K "NotHeld")) (.ref (He.ga K "NothingToUndo")) = some false)) = true := exAt h 182 (f := fun K => decide (PySem.W.kitOne K (.ref (He.ga K "NotHeld")) (.ref (He.ga K "NothingToUndo")) = some false)) rfl
theorem ex_183 {K : PySem.W.Frag} (h : exAll K exl = true) : (decide (PySem.W.kitOne K (.ref (He.ga K "NothingToUndo")) (.ref (He.ga K "NothingToUndo")) = some true)) = true := exAt h 183 (f := fun K => decide (PySem.W.kitOne K (.ref (He.ga K "NothingToUndo")) (.ref (He.ga K "NothingToUndo")) = some true)) rfl
theorem ex_184 {K : PySem.W.Frag} (h : exAll K exl = true) : (decide (PySem.W.kitOne K (.ref (He.ga K "NotPlain")) (.ref (He.ga K "NothingToUndo")) = some false)) = true := exAt h 184 (f := fun K => decide (PySem.W.kitOne K (.ref (He.ga K "NotPlain")) (.ref (He.ga K "NothingToUndo")) = some false)) rfl
theorem ex_185 {K : PySem.W.Frag} (h : exAll K exl = true) : (decide (PySem.W.kitOne K (.ref (He.ga K "TooMany")) (.ref (He.ga K "NothingToUndo")) = some false)) = true := exAt h 185 (f := fun K => decide (PySem.W.kitOne K (.ref (He.ga K "TooMany")) (.ref (He.ga K "NothingToUndo")) = some false)) rfl
theorem ex_186 {K : PySem.W.Frag} (h : exAll K exl = true) : (decide (PySem.W.kitOne K (.ref (He.ga K "Unlike")) (.ref (He.ga K "NothingToUndo")) = some false)) = true := exAt h 186 (f := fun K => decide (PySem.W.kitOne K (.ref (He.ga K "Unlike")) (.ref (He.ga K "NothingToUndo")) = some false)) rfl
theorem ex_187 {K : PySem.W.Frag} (h : exAll K exl = true) : (decide (PySem.W.kitOne K (.ref (He.ga K "NoGrant")) (.ref (He.ga K "NothingToUndo")) = some false)) = true := exAt h 187 (f := fun K => decide (PySem.W.kitOne K (.ref (He.ga K "NoGrant")) (.ref (He.ga K "NothingToUndo")) = some false)) rfl
theorem ex_188 {K : PySem.W.Frag} (h : exAll K exl = true) : (decide (PySem.W.kitOne K (.ref (He.ga K "BadGrant")) (.ref (He.ga K "NotPlain")) = some false)) = true := exAt h 188 (f := fun K => decide (PySem.W.kitOne K (.ref (He.ga K "BadGrant")) (.ref (He.ga K "NotPlain")) = some false)) rfl
theorem ex_189 {K : PySem.W.Frag} (h : exAll K exl = true) : (decide (PySem.W.kitOne K (.ref (He.ga K "BadMarks")) (.ref (He.ga K "NotPlain")) = some false)) = true := exAt h 189 (f := fun K => decide (PySem.W.kitOne K (.ref (He.ga K "BadMarks")) (.ref (He.ga K "NotPlain")) = some false)) rfl
theorem ex_190 {K : PySem.W.Frag} (h : exAll K exl = true) : (decide (PySem.W.kitOne K (.ref (He.ga K "BadPolicy")) (.ref (He.ga K "NotPlain")) = some false)) = true := exAt h 190 (f := fun K => decide (PySem.W.kitOne K (.ref (He.ga K "BadPolicy")) (.ref (He.ga K "NotPlain")) = some false)) rfl
theorem ex_191 {K : PySem.W.Frag} (h : exAll K exl = true) : (decide (PySem.W.kitOne K (.ref (He.ga K "BadRole")) (.ref (He.ga K "NotPlain")) = some false)) = true := exAt h 191 (f := fun K => decide (PySem.W.kitOne K (.ref (He.ga K "BadRole")) (.ref (He.ga K "NotPlain")) = some false)) rfl
theorem ex_192 {K : PySem.W.Frag} (h : exAll K exl = true) : (decide (PySem.W.kitOne K (.ref (He.ga K "BadText")) (.ref (He.ga K "NotPlain")) = some false)) = true := exAt h 192 (f := fun K => decide (PySem.W.kitOne K (.ref (He.ga K "BadText")) (.ref (He.ga K "NotPlain")) = some false)) rfl
theorem ex_193 {K : PySem.W.Frag} (h : exAll K exl = true) : (decide (PySem.W.kitOne K (.ref (He.ga K "Barred")) (.ref (He.ga K "NotPlain")) = some false)) = true := exAt h 193 (f := fun K => decide (PySem.W.kitOne K (.ref (He.ga K "Barred")) (.ref (He.ga K "NotPlain")) = some false)) rfl
theorem ex_194 {K : PySem.W.Frag} (h : exAll K exl = true) : (decide (PySem.W.kitOne K (.ref (He.ga K "Full")) (.ref (He.ga K "NotPlain")) = some false)) = true := exAt h 194 (f := fun K => decide (PySem.W.kitOne K (.ref (He.ga K "Full")) (.ref (He.ga K "NotPlain")) = some false)) rfl
theorem ex_195 {K : PySem.W.Frag} (h : exAll K exl = true) : (decide (PySem.W.kitOne K (.ref (He.ga K "NotHeld")) (.ref (He.ga K "NotPlain")) = some false)) = true := exAt h 195 (f := fun K => decide (PySem.W.kitOne K (.ref (He.ga K "NotHeld")) (.ref (He.ga K "NotPlain")) = some false)) rfl
theorem ex_196 {K : PySem.W.Frag} (h : exAll K exl = true) : (decide (PySem.W.kitOne K (.ref (He.ga K "NothingToUndo")) (.ref (He.ga K "NotPlain")) = some false)) = true := exAt h 196 (f := fun K => decide (PySem.W.kitOne K (.ref (He.ga K "NothingToUndo")) (.ref (He.ga K "NotPlain")) = some false)) rfl
theorem ex_197 {K : PySem.W.Frag} (h : exAll K exl = true) : (decide (PySem.W.kitOne K (.ref (He.ga K "NotPlain")) (.ref (He.ga K "NotPlain")) = some true)) = true := exAt h 197 (f := fun K => decide (PySem.W.kitOne K (.ref (He.ga K "NotPlain")) (.ref (He.ga K "NotPlain")) = some true)) rfl
theorem ex_198 {K : PySem.W.Frag} (h : exAll K exl = true) : (decide (PySem.W.kitOne K (.ref (He.ga K "TooMany")) (.ref (He.ga K "NotPlain")) = some false)) = true := exAt h 198 (f := fun K => decide (PySem.W.kitOne K (.ref (He.ga K "TooMany")) (.ref (He.ga K "NotPlain")) = some false)) rfl
theorem ex_199 {K : PySem.W.Frag} (h : exAll K exl = true) : (decide (PySem.W.kitOne K (.ref (He.ga K "Unlike")) (.ref (He.ga K "NotPlain")) = some false)) = true := exAt h 199 (f := fun K => decide (PySem.W.kitOne K (.ref (He.ga K "Unlike")) (.ref (He.ga K "NotPlain")) = some false)) rfl
theorem ex_200 {K : PySem.W.Frag} (h : exAll K exl = true) : (decide (PySem.W.kitOne K (.ref (He.ga K "NoGrant")) (.ref (He.ga K "NotPlain")) = some false)) = true := exAt h 200 (f := fun K => decide (PySem.W.kitOne K (.ref (He.ga K "NoGrant")) (.ref (He.ga K "NotPlain")) = some false)) rfl
theorem ex_201 {K : PySem.W.Frag} (h : exAll K exl = true) : (decide (PySem.W.kitOne K (.ref (He.ga K "BadGrant")) (.ref (He.ga K "TooMany")) = some false)) = true := exAt h 201 (f := fun K => decide (PySem.W.kitOne K (.ref (He.ga K "BadGrant")) (.ref (He.ga K "TooMany")) = some false)) rfl
theorem ex_202 {K : PySem.W.Frag} (h : exAll K exl = true) : (decide (PySem.W.kitOne K (.ref (He.ga K "BadMarks")) (.ref (He.ga K "TooMany")) = some false)) = true := exAt h 202 (f := fun K => decide (PySem.W.kitOne K (.ref (He.ga K "BadMarks")) (.ref (He.ga K "TooMany")) = some false)) rfl
theorem ex_203 {K : PySem.W.Frag} (h : exAll K exl = true) : (decide (PySem.W.kitOne K (.ref (He.ga K "BadPolicy")) (.ref (He.ga K "TooMany")) = some false)) = true := exAt h 203 (f := fun K => decide (PySem.W.kitOne K (.ref (He.ga K "BadPolicy")) (.ref (He.ga K "TooMany")) = some false)) rfl
theorem ex_204 {K : PySem.W.Frag} (h : exAll K exl = true) : (decide (PySem.W.kitOne K (.ref (He.ga K "BadRole")) (.ref (He.ga K "TooMany")) = some false)) = true := exAt h 204 (f := fun K => decide (PySem.W.kitOne K (.ref (He.ga K "BadRole")) (.ref (He.ga K "TooMany")) = some false)) rfl
theorem ex_205 {K : PySem.W.Frag} (h : exAll K exl = true) : (decide (PySem.W.kitOne K (.ref (He.ga K "BadText")) (.ref (He.ga K "TooMany")) = some false)) = true := exAt h 205 (f := fun K => decide (PySem.W.kitOne K (.ref (He.ga K "BadText")) (.ref (He.ga K "TooMany")) = some false)) rfl
theorem ex_206 {K : PySem.W.Frag} (h : exAll K exl = true) : (decide (PySem.W.kitOne K (.ref (He.ga K "Barred")) (.ref (He.ga K "TooMany")) = some false)) = true := exAt h 206 (f := fun K => decide (PySem.W.kitOne K (.ref (He.ga K "Barred")) (.ref (He.ga K "TooMany")) = some false)) rfl
theorem ex_207 {K : PySem.W.Frag} (h : exAll K exl = true) : (decide (PySem.W.kitOne K (.ref (He.ga K "Full")) (.ref (He.ga K "TooMany")) = some false)) = true := exAt h 207 (f := fun K => decide (PySem.W.kitOne K (.ref (He.ga K "Full")) (.ref (He.ga K "TooMany")) = some false)) rfl
theorem ex_208 {K : PySem.W.Frag} (h : exAll K exl = true) : (decide (PySem.W.kitOne K (.ref (He.ga K "NotHeld")) (.ref (He.ga K "TooMany")) = some false)) = true := exAt h 208 (f := fun K => decide (PySem.W.kitOne K (.ref (He.ga K "NotHeld")) (.ref (He.ga K "TooMany")) = some false)) rfl
theorem ex_209 {K : PySem.W.Frag} (h : exAll K exl = true) : (decide (PySem.W.kitOne K (.ref (He.ga K "NothingToUndo")) (.ref (He.ga K "TooMany")) = some false)) = true := exAt h 209 (f := fun K => decide (PySem.W.kitOne K (.ref (He.ga K "NothingToUndo")) (.ref (He.ga K "TooMany")) = some false)) rfl
theorem ex_210 {K : PySem.W.Frag} (h : exAll K exl = true) : (decide (PySem.W.kitOne K (.ref (He.ga K "NotPlain")) (.ref (He.ga K "TooMany")) = some false)) = true := exAt h 210 (f := fun K => decide (PySem.W.kitOne K (.ref (He.ga K "NotPlain")) (.ref (He.ga K "TooMany")) = some false)) rfl
theorem ex_211 {K : PySem.W.Frag} (h : exAll K exl = true) : (decide (PySem.W.kitOne K (.ref (He.ga K "TooMany")) (.ref (He.ga K "TooMany")) = some true)) = true := exAt h 211 (f := fun K => decide (PySem.W.kitOne K (.ref (He.ga K "TooMany")) (.ref (He.ga K "TooMany")) = some true)) rfl
theorem ex_212 {K : PySem.W.Frag} (h : exAll K exl = true) : (decide (PySem.W.kitOne K (.ref (He.ga K "Unlike")) (.ref (He.ga K "TooMany")) = some false)) = true := exAt h 212 (f := fun K => decide (PySem.W.kitOne K (.ref (He.ga K "Unlike")) (.ref (He.ga K "TooMany")) = some false)) rfl
theorem ex_213 {K : PySem.W.Frag} (h : exAll K exl = true) : (decide (PySem.W.kitOne K (.ref (He.ga K "NoGrant")) (.ref (He.ga K "TooMany")) = some false)) = true := exAt h 213 (f := fun K => decide (PySem.W.kitOne K (.ref (He.ga K "NoGrant")) (.ref (He.ga K "TooMany")) = some false)) rfl
theorem ex_214 {K : PySem.W.Frag} (h : exAll K exl = true) : (decide (PySem.W.kitOne K (.ref (He.ga K "BadGrant")) (.ref (He.ga K "Unlike")) = some false)) = true := exAt h 214 (f := fun K => decide (PySem.W.kitOne K (.ref (He.ga K "BadGrant")) (.ref (He.ga K "Unlike")) = some false)) rfl
theorem ex_215 {K : PySem.W.Frag} (h : exAll K exl = true) : (decide (PySem.W.kitOne K (.ref (He.ga K "BadMarks")) (.ref (He.ga K "Unlike")) = some false)) = true := exAt h 215 (f := fun K => decide (PySem.W.kitOne K (.ref (He.ga K "BadMarks")) (.ref (He.ga K "Unlike")) = some false)) rfl
theorem ex_216 {K : PySem.W.Frag} (h : exAll K exl = true) : (decide (PySem.W.kitOne K (.ref (He.ga K "BadPolicy")) (.ref (He.ga K "Unlike")) = some false)) = true := exAt h 216 (f := fun K => decide (PySem.W.kitOne K (.ref (He.ga K "BadPolicy")) (.ref (He.ga K "Unlike")) = some false)) rfl
theorem ex_217 {K : PySem.W.Frag} (h : exAll K exl = true) : (decide (PySem.W.kitOne K (.ref (He.ga K "BadRole")) (.ref (He.ga K "Unlike")) = some false)) = true := exAt h 217 (f := fun K => decide (PySem.W.kitOne K (.ref (He.ga K "BadRole")) (.ref (He.ga K "Unlike")) = some false)) rfl
theorem ex_218 {K : PySem.W.Frag} (h : exAll K exl = true) : (decide (PySem.W.kitOne K (.ref (He.ga K "BadText")) (.ref (He.ga K "Unlike")) = some false)) = true := exAt h 218 (f := fun K => decide (PySem.W.kitOne K (.ref (He.ga K "BadText")) (.ref (He.ga K "Unlike")) = some false)) rfl
theorem ex_219 {K : PySem.W.Frag} (h : exAll K exl = true) : (decide (PySem.W.kitOne K (.ref (He.ga K "Barred")) (.ref (He.ga K "Unlike")) = some false)) = true := exAt h 219 (f := fun K => decide (PySem.W.kitOne K (.ref (He.ga K "Barred")) (.ref (He.ga K "Unlike")) = some false)) rfl
theorem ex_220 {K : PySem.W.Frag} (h : exAll K exl = true) : (decide (PySem.W.kitOne K (.ref (He.ga K "Full")) (.ref (He.ga K "Unlike")) = some false)) = true := exAt h 220 (f := fun K => decide (PySem.W.kitOne K (.ref (He.ga K "Full")) (.ref (He.ga K "Unlike")) = some false)) rfl
theorem ex_221 {K : PySem.W.Frag} (h : exAll K exl = true) : (decide (PySem.W.kitOne K (.ref (He.ga K "NotHeld")) (.ref (He.ga K "Unlike")) = some false)) = true := exAt h 221 (f := fun K => decide (PySem.W.kitOne K (.ref (He.ga K "NotHeld")) (.ref (He.ga K "Unlike")) = some false)) rfl
theorem ex_222 {K : PySem.W.Frag} (h : exAll K exl = true) : (decide (PySem.W.kitOne K (.ref (He.ga K "NothingToUndo")) (.ref (He.ga K "Unlike")) = some false)) = true := exAt h 222 (f := fun K => decide (PySem.W.kitOne K (.ref (He.ga K "NothingToUndo")) (.ref (He.ga K "Unlike")) = some false)) rfl
theorem ex_223 {K : PySem.W.Frag} (h : exAll K exl = true) : (decide (PySem.W.kitOne K (.ref (He.ga K "NotPlain")) (.ref (He.ga K "Unlike")) = some false)) = true := exAt h 223 (f := fun K => decide (PySem.W.kitOne K (.ref (He.ga K "NotPlain")) (.ref (He.ga K "Unlike")) = some false)) rfl
theorem ex_224 {K : PySem.W.Frag} (h : exAll K exl = true) : (decide (PySem.W.kitOne K (.ref (He.ga K "TooMany")) (.ref (He.ga K "Unlike")) = some false)) = true := exAt h 224 (f := fun K => decide (PySem.W.kitOne K (.ref (He.ga K "TooMany")) (.ref (He.ga K "Unlike")) = some false)) rfl
theorem ex_225 {K : PySem.W.Frag} (h : exAll K exl = true) : (decide (PySem.W.kitOne K (.ref (He.ga K "Unlike")) (.ref (He.ga K "Unlike")) = some true)) = true := exAt h 225 (f := fun K => decide (PySem.W.kitOne K (.ref (He.ga K "Unlike")) (.ref (He.ga K "Unlike")) = some true)) rfl
theorem ex_226 {K : PySem.W.Frag} (h : exAll K exl = true) : (decide (PySem.W.kitOne K (.ref (He.ga K "NoGrant")) (.ref (He.ga K "Unlike")) = some false)) = true := exAt h 226 (f := fun K => decide (PySem.W.kitOne K (.ref (He.ga K "NoGrant")) (.ref (He.ga K "Unlike")) = some false)) rfl
theorem ex_227 {K : PySem.W.Frag} (h : exAll K exl = true) : (decide (PySem.W.kitOne K (.ref (He.ga K "BadGrant")) (.ref (He.ga K "NoGrant")) = some false)) = true := exAt h 227 (f := fun K => decide (PySem.W.kitOne K (.ref (He.ga K "BadGrant")) (.ref (He.ga K "NoGrant")) = some false)) rfl
theorem ex_228 {K : PySem.W.Frag} (h : exAll K exl = true) : (decide (PySem.W.kitOne K (.ref (He.ga K "BadMarks")) (.ref (He.ga K "NoGrant")) = some false)) = true := exAt h 228 (f := fun K => decide (PySem.W.kitOne K (.ref (He.ga K "BadMarks")) (.ref (He.ga K "NoGrant")) = some false)) rfl
theorem ex_229 {K : PySem.W.Frag} (h : exAll K exl = true) : (decide (PySem.W.kitOne K (.ref (He.ga K "BadPolicy")) (.ref (He.ga K "NoGrant")) = some false)) = true := exAt h 229 (f := fun K => decide (PySem.W.kitOne K (.ref (He.ga K "BadPolicy")) (.ref (He.ga K "NoGrant")) = some false)) rfl
theorem ex_230 {K : PySem.W.Frag} (h : exAll K exl = true) : (decide (PySem.W.kitOne K (.ref (He.ga K "BadRole")) (.ref (He.ga K "NoGrant")) = some false)) = true := exAt h 230 (f := fun K => decide (PySem.W.kitOne K (.ref (He.ga K "BadRole")) (.ref (He.ga K "NoGrant")) = some false)) rfl
theorem ex_231 {K : PySem.W.Frag} (h : exAll K exl = true) : (decide (PySem.W.kitOne K (.ref (He.ga K "BadText")) (.ref (He.ga K "NoGrant")) = some false)) = true := exAt h 231 (f := fun K => decide (PySem.W.kitOne K (.ref (He.ga K "BadText")) (.ref (He.ga K "NoGrant")) = some false)) rfl
theorem ex_232 {K : PySem.W.Frag} (h : exAll K exl = true) : (decide (PySem.W.kitOne K (.ref (He.ga K "Barred")) (.ref (He.ga K "NoGrant")) = some false)) = true := exAt h 232 (f := fun K => decide (PySem.W.kitOne K (.ref (He.ga K "Barred")) (.ref (He.ga K "NoGrant")) = some false)) rfl
theorem ex_233 {K : PySem.W.Frag} (h : exAll K exl = true) : (decide (PySem.W.kitOne K (.ref (He.ga K "Full")) (.ref (He.ga K "NoGrant")) = some false)) = true := exAt h 233 (f := fun K => decide (PySem.W.kitOne K (.ref (He.ga K "Full")) (.ref (He.ga K "NoGrant")) = some false)) rfl
theorem ex_234 {K : PySem.W.Frag} (h : exAll K exl = true) : (decide (PySem.W.kitOne K (.ref (He.ga K "NotHeld")) (.ref (He.ga K "NoGrant")) = some false)) = true := exAt h 234 (f := fun K => decide (PySem.W.kitOne K (.ref (He.ga K "NotHeld")) (.ref (He.ga K "NoGrant")) = some false)) rfl
theorem ex_235 {K : PySem.W.Frag} (h : exAll K exl = true) : (decide (PySem.W.kitOne K (.ref (He.ga K "NothingToUndo")) (.ref (He.ga K "NoGrant")) = some false)) = true := exAt h 235 (f := fun K => decide (PySem.W.kitOne K (.ref (He.ga K "NothingToUndo")) (.ref (He.ga K "NoGrant")) = some false)) rfl
theorem ex_236 {K : PySem.W.Frag} (h : exAll K exl = true) : (decide (PySem.W.kitOne K (.ref (He.ga K "NotPlain")) (.ref (He.ga K "NoGrant")) = some false)) = true := exAt h 236 (f := fun K => decide (PySem.W.kitOne K (.ref (He.ga K "NotPlain")) (.ref (He.ga K "NoGrant")) = some false)) rfl
theorem ex_237 {K : PySem.W.Frag} (h : exAll K exl = true) : (decide (PySem.W.kitOne K (.ref (He.ga K "TooMany")) (.ref (He.ga K "NoGrant")) = some false)) = true := exAt h 237 (f := fun K => decide (PySem.W.kitOne K (.ref (He.ga K "TooMany")) (.ref (He.ga K "NoGrant")) = some false)) rfl
theorem ex_238 {K : PySem.W.Frag} (h : exAll K exl = true) : (decide (PySem.W.kitOne K (.ref (He.ga K "Unlike")) (.ref (He.ga K "NoGrant")) = some false)) = true := exAt h 238 (f := fun K => decide (PySem.W.kitOne K (.ref (He.ga K "Unlike")) (.ref (He.ga K "NoGrant")) = some false)) rfl
theorem ex_239 {K : PySem.W.Frag} (h : exAll K exl = true) : (decide (PySem.W.kitOne K (.ref (He.ga K "NoGrant")) (.ref (He.ga K "NoGrant")) = some true)) = true := exAt h 239 (f := fun K => decide (PySem.W.kitOne K (.ref (He.ga K "NoGrant")) (.ref (He.ga K "NoGrant")) = some true)) rfl
def asl : List Addr := ([3, 6, 4, 24, 44, 63, 82, 101, 120, 139, 151, 163, 175, 187, 206, 218, 237, 247, 254, 261, 268, 275, 280, 0, 23, 43, 62, 81, 100, 119, 138, 150, 162, 174, 186, 205, 217, 236, 246, 253, 260, 267, 274, 279, 22, 25, 41, 42, 60, 61, 79, 80, 98, 99, 117, 118, 136, 137, 149, 161, 173, 185, 203, 204, 216, 234, 235, 238, 241, 242, 243, 244, 245, 248, 249, 250, 251, 252, 255, 256, 257, 258, 259, 262, 263, 264, 265, 266, 269, 270, 271, 272, 273, 276, 277, 278, 40, 59, 78, 97] : List _) ++ ([116, 135, 202, 233, 35, 36, 37, 38, 39, 54, 55, 56, 57, 58, 73, 74, 75, 76, 77, 92, 93, 94, 95, 96, 111, 112, 113, 114, 115, 130, 131, 132, 133, 134, 197, 198, 199, 200, 201, 228, 229, 230, 231, 232, 1] : List _)
def loose : List PySem.Str := ([("BadGrant" : PySem.Str), ("BadMarks" : PySem.Str), ("BadPolicy" : PySem.Str), ("BadRole" : PySem.Str), ("BadText" : PySem.Str), ("Barred" : PySem.Str), ("Full" : PySem.Str), ("GrantError" : PySem.Str), ("MAX_ASKED" : PySem.Str), ("MAX_CUT" : PySem.Str), ("MAX_EDITS" : PySem.Str), ("MAX_FREED" : PySem.Str), ("MAX_GRANTS" : PySem.Str), ("MAX_LABELS" : PySem.Str), ("MAX_OWNERS" : PySem.Str), ("MAX_PLAIN" : PySem.Str), ("MAX_SETTLED" : PySem.Str), ("NoGrant" : PySem.Str), ("NotHeld" : PySem.Str), ("NotPlain" : PySem.Str), ("NothingToUndo" : PySem.Str), ("TooMany" : PySem.Str), ("Unlike" : PySem.Str), ("_law_deck" : PySem.Str), ("_law_flags" : PySem.Str)] : List _) ++ ([("_law_odd" : PySem.Str), ("_law_pick" : PySem.Str), ("_law_take" : PySem.Str)] : List _)
abbrev R : PySem.W.OpenRow := PySem.W.OpenLaw.row PySem.Challenge.rw_grantsgrow_k56_errors_and_bounds
abbrev hk : PySem.W.Hook := hookL asl fal fnl gel exl
def ob (s : PySem.W.SharedT) : AlL := obL asl fal fnl gel exl s
theorem ob_eq (s : PySem.W.SharedT) : ob s = hk.obs s.abs := obL_eq s
theorem runA (w : World) (os : OsState) : (HandSHeadRun.endF (HandSHeadRun.stepQ (HandSHeadRun.denQ HandSHeadRun.tabQ) R.prog w) 40000 R.prog w os).map (fun s => HandSHeadRun.looksF R.prog (PySem.W.boot_heap w.params) s.abs) = some true := by kernel_rfl
theorem runB (w : World) (os : OsState) : (HandSHeadRun.endF (HandSHeadRun.stepQ (HandSHeadRun.denQ HandSHeadRun.tabQ) R.prog w) 40000 R.prog w os).map (fun s => HandSHeadRun.seenQ (PySem.W.view R.prog [30]) loose (importedModules R.prog.main.body) (fun s => PySem.W.xlAt (PySem.W.view R.prog [30]) [] s && PySem.W.recOk R.toRowW.records s) s.abs) = some (PySem.W.openGood (PySem.W.view R.prog [30]) loose) := by kernel_rfl
theorem runC (w : World) (os : OsState) : (HandSHeadRun.endF (HandSHeadRun.stepQ (HandSHeadRun.denQ HandSHeadRun.tabQ) R.prog w) 40000 R.prog w os).map (fun s => obL1 asl fal fnl gel exl (HandSHeadRun.getT s)) = some true := by kernel_rfl
theorem runD (w : World) (os : OsState) : (HandSHeadRun.endF (HandSHeadRun.stepQ (HandSHeadRun.denQ HandSHeadRun.tabQ) R.prog w) 40000 R.prog w os).map (fun s => obL2 asl fnl (HandSHeadRun.getT s)) = some (valWs fnl) := by kernel_rfl
theorem runE (w : World) (os : OsState) : (HandSHeadRun.endF (HandSHeadRun.stepQ (HandSHeadRun.denQ HandSHeadRun.tabQ) R.prog w) 40000 R.prog w os).map (fun s => obL3 asl gel (HandSHeadRun.getT s)) = some (gtVs gel) := by kernel_rfl
theorem run (w : World) : HandSHeadRun.RunEq R (PySem.W.view R.prog [30]) hk ob 40000 loose w := fun os => map3 (runA w os) (runB w os) (map3 (runC w os) (runD w os) (runE w os))
end T56
end
section
open PySem L2 G
namespace G
def evB0 := And.intro @mDisp1_ap (And.intro @mListN_ap (And.intro @Res.bind_ok (And.intro @Res.bind_bad (And.intro @Res.bind_ex (And.intro @optR_some (And.intro @optR_none (And.intro @varR_some (And.intro @mVar_ap (And.intro @mC_ap (And.intro @mOp_ap (And.intro @opK1_ap (And.intro @opK2_ap (And.intro @mUn_ap (And.intro @unK_ap (And.intro @mTest_ap (And.intro @testK_bl (And.intro @mAnd_ap (And.intro @andK_t (And.intro @andK_f (And.intro @mOr_ap (And.intro @orK_t (And.intro @orK_f (And.intro @mNot_ap (And.intro @notK_ap (And.intro @mIf_ap (And.intro @ifK_t (And.intro @ifK_f (And.intro @mAndV_ap (And.intro @andVK_t (And.intro @andVK_f (And.intro @mOrV_ap (And.intro @orVK_t (And.intro @orVK_f (And.intro @mNotV_ap (And.intro @notVK_bl (And.intro @aNil_ap (And.intro @aCons_ap (And.intro @consK1_ap (And.intro @consK2_ap (And.intro @mTup_ap (And.intro @mLst_ap (And.intro @mNew_ap (And.intro @tupK_ok (And.intro @lstK_ok (And.intro @newK_ok (And.intro @mCB_ap (And.intro @cbK_ap (And.intro @mCall_ap (And.intro @callK_ok (True.intro))))))))))))))))))))))))))))))))))))))))))))))))))
def evB1 := And.intro @sNil_ap (And.intro @sSeq_ap (And.intro @seqK_nx (And.intro @seqK_rt (And.intro @seqK_bk (And.intro @seqK_ct (And.intro @sIf_ap (And.intro @ifSK_t (And.intro @ifSK_f (And.intro @sRet_ap (And.intro @retK_ap (And.intro @sRetN_ap (And.intro @sDrop_ap (And.intro @dropK_ap (And.intro @enR_some (And.intro @sAsg_ap (And.intro @asgK_ap (And.intro @gN_ap (And.intro @gsNil_ap (And.intro @gsCons_ap (And.intro @gT_ap (And.intro @sPar_ap (And.intro @parK_ap (And.intro @sBk_ap (And.intro @sCt_ap (And.intro @sFor_ap (And.intro @forK_ap (And.intro @iSeq_ap (And.intro @seqIK_lst (And.intro @seqIK_tup (And.intro @seqIK_ktp (And.intro @iRg1_ap (And.intro @iRg2_ap (And.intro @fnB_run (And.intro @endK_nx (And.intro @endK_rt (And.intro @dropF_run (And.intro @fnB_n (And.intro @dropF_n (And.intro @Wp_ok (And.intro @Wp_bind (And.intro @cItems_ap (And.intro @itK_ap (And.intro @mLc_ap (And.intro @mLcN_ap (And.intro @lcK_ap (And.intro @lcNK_ap (And.intro @tYesM_ap (And.intro @dAdd_int (And.intro @dSub_int (True.intro))))))))))))))))))))))))))))))))))))))))))))))))))
def evB2 := And.intro @dMod_int (And.intro @dDiv_int (And.intro @dMul_l (And.intro @dMul_r (And.intro @dPow_int (And.intro @dAnd_int (And.intro @dOr_int (And.intro @idxO_lst (And.intro @ixK3_ref (And.intro @ixO_lst (And.intro @ixO2_some (And.intro @ixN_0 (And.intro @ixN_1 (And.intro @ixN_2 (And.intro @appK1_ref (And.intro @appO1_lst (And.intro @appK2_ap (And.intro @appO2_lst (And.intro @extO1_lst (And.intro @rg1K_ok (And.intro @dLe0_int (And.intro @dGt0_int (And.intro @dGe0_int (And.intro @dLt_int (And.intro @dEq_int (And.intro @dIs_non (And.intro @dIsNot_non (And.intro @dNeg_int (And.intro @dIdx_tup (And.intro @dIdx_lst (And.intro @dIdx_scr (And.intro @dLen_lst (And.intro @dLen_scr (And.intro @dLen_tup (And.intro @dInt_int (And.intro @dInt_bl (And.intro @dAbs_int (And.intro @dStr_str (And.intro @dTuple_lst (And.intro @dTuple_tup (And.intro @dList_tup (And.intro @dList_lst (And.intro @dAll_lst (And.intro @dAny_lst (And.intro @mBMs_ap (And.intro @bmsK1_str (And.intro @bmsK2_ap (And.intro @oNone_ap (And.intro @oSome_ap (And.intro @oSomeK_int (True.intro))))))))))))))))))))))))))))))))))))))))))))))))))
def evB3 := And.intro @mSl_ap (And.intro @slK1_ap (And.intro @slK2_ap (And.intro @slK3_ap (And.intro @dSl_lst (And.intro @dSl_scr (And.intro @dSl_tup (And.intro @sIx_ap (And.intro @ixK1_ap (And.intro @ixK2_ap (And.intro @sApp_ap (And.intro @sExt_ap (And.intro @mFs_ap (And.intro @fsAll_nil (And.intro @fsAll_cons (And.intro @cK0_some (And.intro @cK1_f (And.intro @cK1_t (And.intro @cK2_ap (And.intro @noex_ok (And.intro @noex_ok' (And.intro @Res.drop_self (And.intro @loop_nil (And.intro @loop_cons (And.intro @stepR_some (And.intro @turnK_nx (And.intro @turnK_ct (And.intro @turnK_bk (And.intro @turnK_rt (And.intro @mDisp_ap (And.intro @mDispD_ap (And.intro @dispK_ap (And.intro @dispDK_ap (And.intro @mDEmp_ap (And.intro @mDNew_ap (And.intro @mDictOf_ap (And.intro @dicOf_dic (And.intro @dicO_dic (And.intro @mDGet2_ap (And.intro @g2K0_emp (And.intro @g2K1_ap (And.intro @g2K2_ap (And.intro @mDcN_ap (And.intro @dcK0_ap (And.intro @dcK2_ap (And.intro @sKPutS_ap (And.intro @kpK1_ap (And.intro @kpK2_ap (And.intro @sDPutS_ap (And.intro @dpK1_ap (True.intro))))))))))))))))))))))))))))))))))))))))))))))))))
def evB4 := And.intro @dpK2_ap (And.intro @mProp_ap (And.intro @fldO_hd (And.intro @mMeth_ap (And.intro @mMake_ap (And.intro @sFldS_ap (And.intro @fsK0_ap (And.intro @iEnum_ap (And.intro @enumK_tup (And.intro @enumK_lst (And.intro @iZip_ap (And.intro @zipK_tup (And.intro @chK1_ap (And.intro @chK2_ap (And.intro @chK3_t (And.intro @chK3_f (And.intro @chK4_ap (And.intro @sPar3_ap (And.intro @par3K_ap (And.intro @sRaise_ap (And.intro @frzF_run (And.intro @frzF_n (And.intro @dIdxA_lst (And.intro @tkey2 (And.intro @sWhile_ap (And.intro @dNe_same (And.intro @getA0 (And.intro @setA0 (And.intro @lenA (And.intro @appA (And.intro @mLenO_ap (And.intro @mRg1_ap (And.intro @mRg2_ap (And.intro @rgK2a_ap (And.intro @mCmpO_ap (And.intro @cmpOK1_ap (And.intro @mIsiO_ap (True.intro)))))))))))))))))))))))))))))))))))))
end G
end
section
open PySem L2 G
namespace Q
open PySem L2 G P
def evSVG2_0 := And.intro @tryK_ok (And.intro @sSeqN_ap (And.intro @seqNK_nx (And.intro @mMakeD_ap (And.intro @dEqE_nil (And.intro @dEqE_cons (True.intro))))))
end Q
end
section
open PySem L2 G
namespace Q
open PySem L2 G P
def evSVG3_0 := And.intro @cvS_0 (And.intro @cvS_1 (True.intro))
end Q
end
section
open PySem L2 G
namespace Q
open PySem L2 G P
def evSVG4_0 := And.intro @sNPutS_ap (And.intro @npK1_ap (And.intro @npK2_ap (And.intro @mNNew_ap (And.intro @mSortSc_ap (And.intro @scK1_ap (And.intro @gTL_ap (True.intro)))))))
end Q
end
section
open PySem L2 G
namespace Q
open PySem L2 G P
def evSVG5_0 := And.intro @mPop_ap (And.intro @popK_ref (And.intro @sTryG_ap (And.intro @tryGK_ok (And.intro @mGetO_ap (And.intro @goK1_ap (And.intro @mStrO_ap (And.intro @mCmpA_ap (And.intro @cmpAK1_ap (True.intro)))))))))
end Q
end
section
open PySem L2 G
namespace Q
open PySem L2 G P
def evSVG6_0 := And.intro @iRg3_ap (And.intro @mTupO_ap (And.intro @tupOK1_ap (True.intro)))
end Q
end
section
open PySem L2 G
namespace Q
open PySem L2 G P
def evSVG7_0 := And.intro @dAddK_int (And.intro @dAddK_tup (True.intro))
end Q
end
section
namespace P
open PySem L2 G
noncomputable def ms_is_integer : MS :=
    (sRet (mAndV (mCB dIsi (aCons (mVar 0) (aCons (mC (.ty "int")) aNil))) (mAndV (mNotV (mCB dIsi (aCons (mVar 0) (aCons (mC (.ty "bool")) aNil)))) (mChain dLe dLe (mVar 1) (mVar 0) (mVar 2)))))
noncomputable def fn_is_integer : Fn := dropF (fnB 3 3 ms_is_integer)
noncomputable def ms_is_role : MS :=
    (sSeq (sIf (mOr (mNot (mTest (mCB dIsi (aCons (mVar 2) (aCons (mC (.ty "tuple")) aNil))))) (mTest (mOp dNe (mCB dLen (aCons (mVar 2) aNil)) (mC (.int 2))))) (sRet (mC (.bl false))) sNil)
    (sRet (mAndV (mCall fn_is_integer (aCons (mOp dIdxA (mVar 2) (mC (.int 0))) (aCons (mC (.int 0)) (aCons (mOp dSub (mVar 0) (mC (.int 1))) aNil)))) (mCall fn_is_integer (aCons (mOp dIdxA (mVar 2) (mC (.int 1))) (aCons (mC (.int 0)) (aCons (mOp dSub (mVar 1) (mC (.int 1))) aNil)))))))
noncomputable def fn_is_role : Fn := dropF (fnB 3 3 ms_is_role)
noncomputable def ms_is_word : MS :=
    (sRet (mAndV (mCB dIsi (aCons (mVar 0) (aCons (mC (.ty "str")) aNil))) (mOp dIn (mVar 0) (mVar 1))))
noncomputable def fn_is_word : Fn := dropF (fnB 2 2 ms_is_word)
noncomputable def ms_is_body : MS :=
    (sSeq (sIf (mOr (mNot (mTest (mCB dIsi (aCons (mVar 2) (aCons (mC (.ty "tuple")) aNil))))) (mOr (mTest (mOp dLt (mCB dLen (aCons (mVar 2) aNil)) (mC (.int 2)))) (mNot (mTest (mCall fn_is_word (aCons (mOp dIdxA (mVar 2) (mC (.int 0))) (aCons (mTup (aCons (mC (.str "owner")) (aCons (mC (.str "role")) (aCons (mC (.str "through")) (aCons (mC (.str "both")) aNil))))) aNil))))))) (sRet (mC (.bl false))) sNil)
    (sSeq (sIf (mTest (mOp dNe (mCB dLen (aCons (mVar 2) aNil)) (mIf (mTest (mOp dIn (mOp dIdxA (mVar 2) (mC (.int 0))) (mTup (aCons (mC (.str "owner")) (aCons (mC (.str "role")) aNil))))) (mC (.int 2)) (mC (.int 3))))) (sRet (mC (.bl false))) sNil)
    (sSeq (sIf (mTest (mOp dEq (mOp dIdxA (mVar 2) (mC (.int 0))) (mC (.str "owner")))) (sRet (mCall fn_is_integer (aCons (mOp dIdxA (mVar 2) (mC (.int 1))) (aCons (mC (.int 0)) (aCons (mOp dSub (mVar 0) (mC (.int 1))) aNil))))) sNil)
    (sSeq (sIf (mNot (mTest (mCall fn_is_role (aCons (mVar 0) (aCons (mVar 1) (aCons (mOp dIdxA (mVar 2) (mC (.int 1))) aNil)))))) (sRet (mC (.bl false))) sNil)
    (sSeq (sIf (mTest (mOp dEq (mOp dIdxA (mVar 2) (mC (.int 0))) (mC (.str "through")))) (sRet (mCall fn_is_integer (aCons (mOp dIdxA (mVar 2) (mC (.int 2))) (aCons (mC (.int 0)) (aCons (mOp dSub (mVar 1) (mC (.int 1))) aNil))))) sNil)
    (sRet (mOrV (mOp dEq (mOp dIdxA (mVar 2) (mC (.int 0))) (mC (.str "role"))) (mAndV (mCall fn_is_role (aCons (mVar 0) (aCons (mVar 1) (aCons (mOp dIdxA (mVar 2) (mC (.int 2))) aNil)))) (mOp dLt (mOp dIdxA (mVar 2) (mC (.int 1))) (mOp dIdxA (mVar 2) (mC (.int 2))))))))))))
noncomputable def fn_is_body : Fn := dropF (fnB 3 3 ms_is_body)
noncomputable def ms_grant_word : MS :=
    (sSeq (sIf (mOr (mNot (mTest (mCB dIsi (aCons (mVar 2) (aCons (mC (.ty "tuple")) aNil))))) (mTest (mOp dNe (mCB dLen (aCons (mVar 2) aNil)) (mC (.int 2))))) (sRet (mC (.str "grant"))) sNil)
    (sSeq (sIf (mNot (mTest (mCall fn_is_role (aCons (mVar 0) (aCons (mVar 1) (aCons (mOp dIdxA (mVar 2) (mC (.int 0))) aNil)))))) (sRet (mC (.str "role"))) sNil)
    (sRet (mIf (mTest (mCall fn_is_body (aCons (mVar 0) (aCons (mVar 1) (aCons (mOp dIdxA (mVar 2) (mC (.int 1))) aNil))))) (mC .non) (mC (.str "body"))))))
noncomputable def fn_grant_word : Fn := dropF (fnB 3 3 ms_grant_word)
noncomputable def ms_all_roles : MS :=
    (sSeq (sAsg (mNew aNil) (gN 2))
    (sSeq (sFor (iRg1 (aCons (mVar 0) aNil)) (gN 3)
    (sExt (mVar 2) (mLc (iRg1 (aCons (mVar 1) aNil)) (gN 4) tYesM (mTup (aCons (mVar 3) (aCons (mVar 4) aNil))) [4])))
    (sRet (mCB dTuple (aCons (mVar 2) aNil)))))
noncomputable def fn_all_roles : Fn := dropF (fnB 2 5 ms_all_roles)
noncomputable def ms_check_policy : MS :=
    (sSeq (sIf (mNot (mTest (mCall fn_is_integer (aCons (mVar 0) (aCons (mC (.int 1)) (aCons (mC (.int 7)) aNil)))))) (sRaise 13 ["word", "number"] (aCons (mC .non) (aCons (mC (.str "owners")) aNil))) sNil)
    (sSeq (sIf (mNot (mTest (mCall fn_is_integer (aCons (mVar 1) (aCons (mC (.int 1)) (aCons (mC (.int 4)) aNil)))))) (sRaise 13 ["word", "number"] (aCons (mC .non) (aCons (mC (.str "labels")) aNil))) sNil)
    (sSeq (sIf (mOr (mNot (mTest (mCB dIsi (aCons (mVar 2) (aCons (mC (.ty "tuple")) aNil))))) (mTest (mOp dGt0 (mCB dLen (aCons (mVar 2) aNil)) (mC (.int 240))))) (sRaise 13 ["word", "number"] (aCons (mC .non) (aCons (mC (.str "grants")) aNil))) sNil)
    (sFor (iEnum (mVar 2)) (gT 2 (gsCons (gN 3) (gsCons (gN 4) gsNil)))
    (sSeq (sAsg (mCall fn_grant_word (aCons (mVar 0) (aCons (mVar 1) (aCons (mVar 4) aNil)))) (gN 5))
    (sSeq (sIf (mAnd (mTest (mOp dIs (mVar 5) (mC .non))) (mAnd (mTest (mOp dGt0 (mVar 3) (mC (.int 0)))) (mTest (mOp dLe (mVar 4) (mOp dIdxA (mVar 2) (mOp dSub (mVar 3) (mC (.int 1)))))))) (sAsg (mC (.str "order")) (gN 5)) sNil)
    (sIf (mTest (mOp dIsNot (mVar 5) (mC .non))) (sRaise 13 ["word", "number"] (aCons (mVar 3) (aCons (mVar 5) aNil))) sNil)))))))
noncomputable def fn_check_policy : Fn := dropF (fnB 3 6 ms_check_policy)
noncomputable def ms_Policy_init : MS :=
    (sSeq (sDrop (mCall fn_check_policy (aCons (mVar 1) (aCons (mVar 2) (aCons (mVar 3) aNil)))))
    (sFldS [0] "parts" (mVar 0) (mTup (aCons (mVar 1) (aCons (mVar 2) (aCons (mVar 3) aNil))))))
noncomputable def fn_Policy_init : Fn := (fnB 4 4 ms_Policy_init)
noncomputable def ms_Policy_owners : MS :=
    (sRet (mOp dIdxA (mFld [0] "parts" (mVar 0)) (mC (.int 0))))
noncomputable def fn_Policy_owners : Fn := dropF (fnB 1 1 ms_Policy_owners)
noncomputable def ms_Policy_labels : MS :=
    (sRet (mOp dIdxA (mFld [0] "parts" (mVar 0)) (mC (.int 1))))
noncomputable def fn_Policy_labels : Fn := dropF (fnB 1 1 ms_Policy_labels)
noncomputable def ms_Policy_grants : MS :=
    (sRet (mOp dIdxA (mFld [0] "parts" (mVar 0)) (mC (.int 2))))
noncomputable def fn_Policy_grants : Fn := dropF (fnB 1 1 ms_Policy_grants)
noncomputable def ms_Policy_roles : MS :=
    (sRet (mCall fn_all_roles (aCons (mProp 0 fn_Policy_owners (mVar 0)) (aCons (mProp 0 fn_Policy_labels (mVar 0)) aNil))))
noncomputable def fn_Policy_roles : Fn := dropF (fnB 1 1 ms_Policy_roles)
noncomputable def ms_Policy_check_number : MS :=
    (sIf (mNot (mTest (mCall fn_is_integer (aCons (mVar 1) (aCons (mC (.int 0)) (aCons (mOp dSub (mCB dLen (aCons (mProp 0 fn_Policy_grants (mVar 0)) aNil)) (mC (.int 1))) aNil)))))) (sRaise 23 ["number"] (aCons (mVar 1) aNil)) sNil)
noncomputable def fn_Policy_check_number : Fn := dropF (fnB 2 2 ms_Policy_check_number)
noncomputable def ms_Policy_len : MS :=
    (sRet (mCB dLen (aCons (mOp dIdxA (mFld [0] "parts" (mVar 0)) (mC (.int 2))) aNil)))
noncomputable def fn_Policy_len : Fn := dropF (fnB 1 1 ms_Policy_len)
noncomputable def ms_law_deck : MS :=
    (sSeq (sAsg (mC (.int 0)) (gN 1))
    (sSeq (sFor (iSeq (mSl (mVar 0) oNone (oSome (mC (.int 57))))) (gN 2)
    (sIf (mTest (mOp dGe0 (mCB dAbs (aCons (mVar 2) aNil)) (mOp dPow (mC (.int 10)) (mC (.int 18))))) (sAsg (mOp dAdd (mOp dMul (mVar 1) (mC (.int 83))) (mCB dAbs (aCons (mVar 2) aNil))) (gN 1)) sNil))
    (sRet (mDisp ["cells", "turn", "great"] (aCons (mOp dAdd (mCB dList (aCons (mSl (mVar 0) oNone (oSome (mC (.int 57)))) aNil)) (mLst (aCons (mOp dAdd (mCB dLen (aCons (mVar 0) aNil)) (mC (.int 23))) aNil))) (aCons (mC (.int 0)) (aCons (mVar 1) aNil)))))))
noncomputable def fn_law_deck : Fn := (fnB 1 3 ms_law_deck)
noncomputable def ms_law_take : MS :=
    (sSeq (sKPutS (mVar 0) (mC (.str "turn")) (mOp dAdd (mOp dIdxA (mVar 0) (mC (.str "turn"))) (mC (.int 1))))
    (sSeq (sIf (mTest (mOp dGt0 (mOp dIdxA (mVar 0) (mC (.str "great"))) (mC (.int 0)))) (sSeq (sAsg (mOp dMod (mOp dIdxA (mVar 0) (mC (.str "great"))) (mVar 1)) (gN 2))
    (sSeq (sKPutS (mVar 0) (mC (.str "great")) (mOp dDiv (mOp dIdxA (mVar 0) (mC (.str "great"))) (mVar 1)))
    (sRet (mVar 2)))) sNil)
    (sSeq (sPar 3 4 (aCons (mOp dIdxA (mVar 0) (mC (.str "turn"))) (aCons (mOp dIdxA (mVar 0) (mC (.str "cells"))) aNil)))
    (sSeq (sAsg (mOp dMod (mOp dPow (mOp dAdd (mOp dAdd (mOp dMod (mOp dIdxA (mVar 4) (mOp dMod (mVar 3) (mCB dLen (aCons (mVar 4) aNil)))) (mC (.int 2147483399))) (mOp dMul (mC (.int 70001)) (mVar 3))) (mC (.int 41))) (mC (.int 3))) (mC (.int 2147483489))) (gN 5))
    (sRet (mOp dMod (mOp dDiv (mOp dMod (mOp dAdd (mOp dMul (mVar 5) (mC (.int 53101))) (mOp dMul (mOp dMul (mC (.int 6397)) (mVar 3)) (mVar 3))) (mC (.int 2147483423))) (mC (.int 13))) (mVar 1)))))))
noncomputable def fn_law_take : Fn := dropF (fnB 2 6 ms_law_take)
noncomputable def ms_law_one : MS :=
    (sRet (mOp dIdxA (mVar 1) (mCall fn_law_take (aCons (mVar 0) (aCons (mCB dLen (aCons (mVar 1) aNil)) aNil)))))
noncomputable def fn_law_one : Fn := dropF (fnB 2 2 ms_law_one)
noncomputable def ms_law_all_roles : MS :=
    (sSeq (sAsg (mNew aNil) (gN 2))
    (sSeq (sFor (iRg1 (aCons (mVar 0) aNil)) (gN 3)
    (sExt (mVar 2) (mLc (iRg1 (aCons (mVar 1) aNil)) (gN 4) tYesM (mTup (aCons (mVar 3) (aCons (mVar 4) aNil))) [4])))
    (sRet (mVar 2))))
noncomputable def fn_law_all_roles : Fn := frzF (fnB 2 5 ms_law_all_roles)
noncomputable def ms_law_role : MS :=
    (sRet (mTup (aCons (mCall fn_law_take (aCons (mVar 0) (aCons (mVar 1) aNil))) (aCons (mCall fn_law_take (aCons (mVar 0) (aCons (mVar 2) aNil))) aNil))))
noncomputable def fn_law_role : Fn := dropF (fnB 3 3 ms_law_role)
noncomputable def ms_law_body : MS :=
    (sSeq (sAsg (mCall fn_law_one (aCons (mVar 0) (aCons (mOp dAdd (mLst (aCons (mC (.str "owner")) (aCons (mC (.str "owner")) (aCons (mC (.str "role")) (aCons (mC (.str "role")) (aCons (mC (.str "both")) aNil)))))) (mIf (mTest (mVar 3)) (mLst aNil) (mLst (aCons (mC (.str "through")) (aCons (mC (.str "through")) aNil))))) aNil))) (gN 4))
    (sSeq (sIf (mTest (mOp dEq (mVar 4) (mC (.str "owner")))) (sRet (mTup (aCons (mC (.str "owner")) (aCons (mCall fn_law_take (aCons (mVar 0) (aCons (mVar 1) aNil))) aNil)))) sNil)
    (sSeq (sPar 5 6 (aCons (mCall fn_law_role (aCons (mVar 0) (aCons (mVar 1) (aCons (mVar 2) aNil)))) (aCons (mCall fn_law_role (aCons (mVar 0) (aCons (mVar 1) (aCons (mVar 2) aNil)))) aNil)))
    (sSeq (sIf (mTest (mOp dEq (mVar 4) (mC (.str "through")))) (sRet (mTup (aCons (mC (.str "through")) (aCons (mVar 5) (aCons (mCall fn_law_take (aCons (mVar 0) (aCons (mVar 2) aNil))) aNil))))) sNil)
    (sSeq (sIf (mOr (mTest (mOp dEq (mVar 4) (mC (.str "role")))) (mTest (mOp dEq (mVar 5) (mVar 6)))) (sRet (mTup (aCons (mC (.str "role")) (aCons (mVar 5) aNil)))) sNil)
    (sRet (mTup (aCons (mC (.str "both")) (aCons (mCB dMin2 (aCons (mVar 5) (aCons (mVar 6) aNil))) (aCons (mCB dMax2 (aCons (mVar 5) (aCons (mVar 6) aNil))) aNil))))))))))
noncomputable def fn_law_body : Fn := dropF (fnB 4 7 ms_law_body)
noncomputable def ms_law_grants : MS :=
    (sSeq (sAsg (mLc (iRg1 (aCons (mC (.int 3)) aNil)) (gN 7) tYesM (mCall fn_law_role (aCons (mVar 0) (aCons (mVar 1) (aCons (mVar 2) aNil)))) [7]) (gN 5))
    (sSeq (sAsg (mNew aNil) (gN 6))
    (sSeq (sFor (iRg1 (aCons (mVar 3) aNil)) (gN 7)
    (sSeq (sAsg (mCall fn_law_one (aCons (mVar 0) (aCons (mOp dAdd (mVar 5) (mLst (aCons (mCall fn_law_role (aCons (mVar 0) (aCons (mVar 1) (aCons (mVar 2) aNil)))) aNil))) aNil))) (gN 8))
    (sApp (mVar 6) (mTup (aCons (mVar 8) (aCons (mCall fn_law_body (aCons (mVar 0) (aCons (mVar 1) (aCons (mVar 2) (aCons (mVar 4) aNil))))) aNil))))))
    (sRet (mCB dTuple (aCons (mCB dSortSet (aCons (mVar 6) aNil)) aNil))))))
noncomputable def fn_law_grants : Fn := dropF (fnB 5 9 ms_law_grants)
noncomputable def ms_Policy_without : MS :=
    (sSeq (sDrop (mMeth 0 "check_number" fn_Policy_check_number (mVar 0) (aCons (mVar 1) aNil)))
    (sRet (mMake 0 fn_Policy_init (aCons (mProp 0 fn_Policy_owners (mVar 0)) (aCons (mProp 0 fn_Policy_labels (mVar 0)) (aCons (mOp dAdd (mSl (mProp 0 fn_Policy_grants (mVar 0)) oNone (oSome (mVar 1))) (mSl (mProp 0 fn_Policy_grants (mVar 0)) (oSome (mOp dAdd (mVar 1) (mC (.int 1)))) oNone)) aNil))))))
noncomputable def fn_Policy_without : Fn := dropF (fnB 2 2 ms_Policy_without)
noncomputable def ms_members : MS :=
    (sSeq (sPar 1 2 (aCons (mNew aNil) (aCons (mC (.int 0)) aNil)))
    (sSeq (sWhile 100000 (mTest (mOp dGt0 (mVar 0) (mC (.int 0))))
    (sSeq (sIf (mTest (mOp dEq (mOp dMod (mVar 0) (mC (.int 2))) (mC (.int 1)))) (sApp (mVar 1) (mVar 2)) sNil)
    (sPar 0 2 (aCons (mOp dDiv (mVar 0) (mC (.int 2))) (aCons (mOp dAdd (mVar 2) (mC (.int 1))) aNil)))))
    (sRet (mCB dTuple (aCons (mVar 1) aNil)))))
noncomputable def fn_members : Fn := dropF (fnB 1 3 ms_members)
noncomputable def ms_by_body : MS :=
    (sSeq (sIf (mTest (mOp dEq (mOp dIdxA (mVar 0) (mC (.int 0))) (mC (.str "owner")))) (sRet (mOp dShl (mC (.int 1)) (mOp dIdxA (mVar 0) (mC (.int 1))))) sNil)
    (sSeq (sIf (mTest (mOp dEq (mOp dIdxA (mVar 0) (mC (.int 0))) (mC (.str "role")))) (sRet (mOp dIdxA (mVar 1) (mOp dIdxA (mVar 0) (mC (.int 1))))) sNil)
    (sSeq (sIf (mTest (mOp dEq (mOp dIdxA (mVar 0) (mC (.int 0))) (mC (.str "both")))) (sRet (mOp dAnd (mOp dIdxA (mVar 1) (mOp dIdxA (mVar 0) (mC (.int 1)))) (mOp dIdxA (mVar 1) (mOp dIdxA (mVar 0) (mC (.int 2)))))) sNil)
    (sSeq (sAsg (mC (.int 0)) (gN 2))
    (sSeq (sFor (iSeq (mCall fn_members (aCons (mOp dIdxA (mVar 1) (mOp dIdxA (mVar 0) (mC (.int 1)))) aNil))) (gN 3)
    (sAsg (mOp dOr (mVar 2) (mOp dIdxA (mVar 1) (mTup (aCons (mVar 3) (aCons (mOp dIdxA (mVar 0) (mC (.int 2))) aNil))))) (gN 2)))
    (sRet (mVar 2)))))))
noncomputable def fn_by_body : Fn := dropF (fnB 2 4 ms_by_body)
noncomputable def ms_next_round : MS :=
    (sSeq (sAsg (mDictOf (mVar 1)) (gN 2))
    (sSeq (sFor (iSeq (mVar 0)) (gT 2 (gsCons (gN 3) (gsCons (gN 4) gsNil)))
    (sDPutS (mVar 2) (mVar 3) (mOp dOr (mOp dIdxA (mVar 2) (mVar 3)) (mCall fn_by_body (aCons (mVar 4) (aCons (mVar 1) aNil))))))
    (sRet (mVar 2))))
noncomputable def fn_next_round : Fn := frzF (fnB 2 5 ms_next_round)
noncomputable def ms_spread : MS :=
    (sSeq (sAsg (mDcN (iSeq (mCall fn_all_roles (aCons (mVar 0) (aCons (mVar 1) aNil)))) (gN 6) tYesM (mVar 6) (mDGet2 (mVar 3) (mVar 6) (mC (.int 0))) [6]) (gN 4))
    (sSeq (sAsg (mCall fn_next_round (aCons (mVar 2) (aCons (mVar 4) aNil))) (gN 5))
    (sSeq (sWhile 100000 (mTest (mOp dNeT (mVar 5) (mVar 4)))
    (sSeq (sAsg (mVar 5) (gN 4))
    (sAsg (mCall fn_next_round (aCons (mVar 2) (aCons (mVar 4) aNil))) (gN 5))))
    (sRet (mVar 4)))))
noncomputable def fn_spread : Fn := frzF (fnB 4 7 ms_spread)
noncomputable def ms_bits_of : MS :=
    (sRet (mCall fn_spread (aCons (mProp 0 fn_Policy_owners (mVar 0)) (aCons (mProp 0 fn_Policy_labels (mVar 0)) (aCons (mProp 0 fn_Policy_grants (mVar 0)) (aCons mDEmp aNil))))))
noncomputable def fn_bits_of : Fn := dropF (fnB 1 1 ms_bits_of)
noncomputable def ms_table : MS :=
    (sSeq (sAsg (mCall fn_bits_of (aCons (mVar 0) aNil)) (gN 1))
    (sRet (mCB dTuple (aCons (mLc (iSeq (mMeth 0 "roles" fn_Policy_roles (mVar 0) aNil)) (gN 2) tYesM (mCall fn_members (aCons (mOp dIdxA (mVar 1) (mVar 2)) aNil)) [2]) aNil))))
noncomputable def fn_table : Fn := dropF (fnB 1 3 ms_table)
noncomputable def ms_law_by : MS :=
    (sSeq (sIf (mTest (mOp dEq (mOp dIdxA (mVar 0) (mC (.int 0))) (mC (.str "owner")))) (sRet (mLst (aCons (mOp dIdxA (mVar 0) (mC (.int 1))) aNil))) sNil)
    (sSeq (sIf (mTest (mOp dEq (mOp dIdxA (mVar 0) (mC (.int 0))) (mC (.str "role")))) (sRet (mOp dIdxA (mVar 1) (mOp dIdxA (mVar 0) (mC (.int 1))))) sNil)
    (sSeq (sIf (mTest (mOp dEq (mOp dIdxA (mVar 0) (mC (.int 0))) (mC (.str "both")))) (sRet (mLc (iSeq (mOp dIdxA (mVar 1) (mOp dIdxA (mVar 0) (mC (.int 1))))) (gN 4) (mTest (mOp dIn (mVar 4) (mOp dIdxA (mVar 1) (mOp dIdxA (mVar 0) (mC (.int 2)))))) (mVar 4) [4])) sNil)
    (sSeq (sAsg (mLst aNil) (gN 2))
    (sSeq (sFor (iSeq (mOp dIdxA (mVar 1) (mOp dIdxA (mVar 0) (mC (.int 1))))) (gN 3)
    (sAsg (mOp dAdd (mVar 2) (mLc (iSeq (mOp dIdxA (mVar 1) (mTup (aCons (mVar 3) (aCons (mOp dIdxA (mVar 0) (mC (.int 2))) aNil))))) (gN 4) (mTest (mOp dNotIn (mVar 4) (mVar 2))) (mVar 4) [4])) (gN 2)))
    (sRet (mVar 2)))))))
noncomputable def fn_law_by : Fn := dropF (fnB 2 5 ms_law_by)
noncomputable def ms_law_known : MS :=
    (sSeq (sAsg (mTup (aCons mDNew (aCons (mC (.bl true)) aNil))) (gT 2 (gsCons (gN 4) (gsCons (gN 5) gsNil))))
    (sSeq (sFor (iSeq (mCall fn_law_all_roles (aCons (mVar 0) (aCons (mVar 1) aNil)))) (gN 6)
    (sDPutS (mVar 4) (mVar 6) (mCB dList (aCons (mDGet2 (mVar 3) (mVar 6) (mLst aNil)) aNil))))
    (sSeq (sWhile 100000 (mTest (mVar 5))
    (sSeq (sAsg (mC (.bl false)) (gN 5))
    (sFor (iSeq (mVar 2)) (gT 2 (gsCons (gN 6) (gsCons (gN 7) gsNil)))
    (sSeq (sAsg (mLc (iSeq (mCall fn_law_by (aCons (mVar 7) (aCons (mVar 4) aNil)))) (gN 9) (mTest (mOp dNotIn (mVar 9) (mOp dIdxA (mVar 4) (mVar 6)))) (mVar 9) [9]) (gN 8))
    (sIf (mTest (mOp dNe (mVar 8) (mLst aNil))) (sSeq (sDPutS (mVar 4) (mVar 6) (mCB dSortA (aCons (mOp dAdd (mOp dIdxA (mVar 4) (mVar 6)) (mVar 8)) aNil)))
    (sAsg (mC (.bl true)) (gN 5))) sNil)))))
    (sRet (mVar 4)))))
noncomputable def fn_law_known : Fn := frzF (fnB 4 10 ms_law_known)
noncomputable def ms_check_few : MS :=
    (sIf (mTest (mOp dGt0 (mLenO 0 fn_Policy_len (mVar 0)) (mC (.int 9)))) (sRaise 21 ["limit"] (aCons (mC (.int 9)) aNil)) sNil)
noncomputable def fn_check_few : Fn := dropF (fnB 1 1 ms_check_few)
noncomputable def ms_chosen : MS :=
    (sRet (mLc (iSeq (mCall fn_members (aCons (mVar 1) aNil))) (gN 2) tYesM (mOp dIdxA (mProp 0 fn_Policy_grants (mVar 0)) (mVar 2)) [2]))
noncomputable def fn_chosen : Fn := dropF (fnB 2 3 ms_chosen)
noncomputable def ms_is_held : MS :=
    (sRet (mOp dIn (mVar 3) (mCall fn_members (aCons (mOp dIdxA (mCall fn_spread (aCons (mProp 0 fn_Policy_owners (mVar 0)) (aCons (mProp 0 fn_Policy_labels (mVar 0)) (aCons (mVar 1) (aCons mDEmp aNil))))) (mVar 2)) aNil))))
noncomputable def fn_is_held : Fn := dropF (fnB 4 4 ms_is_held)
noncomputable def ms_least_ones : MS :=
    (sSeq (sAsg (mLc (iSeq (mVar 0)) (gN 3) (mNot (mTest (mCB dAny (aCons (mLc (iSeq (mVar 0)) (gN 2) tYesM (mAndV (mOp dNe (mVar 2) (mVar 3)) (mOp dEq (mOp dAnd (mVar 2) (mVar 3)) (mVar 2))) [2]) aNil)))) (mVar 3) [3]) (gN 1))
    (sRet (mCB dTuple (aCons (mCB dSortA (aCons (mLc (iSeq (mVar 1)) (gN 3) tYesM (mCall fn_members (aCons (mVar 3) aNil)) [3]) aNil)) aNil))))
noncomputable def fn_least_ones : Fn := dropF (fnB 1 4 ms_least_ones)
noncomputable def ms_supports : MS :=
    (sSeq (sDrop (mCall fn_check_few (aCons (mVar 0) aNil)))
    (sSeq (sAsg (mRg1 rgLR (mOp dShl (mC (.int 1)) (mLenO 0 fn_Policy_len (mVar 0)))) (gN 3))
    (sRet (mCall fn_least_ones (aCons (mLc (iSeq (mVar 3)) (gN 4) (mTest (mCall fn_is_held (aCons (mVar 0) (aCons (mCall fn_chosen (aCons (mVar 0) (aCons (mVar 4) aNil))) (aCons (mVar 1) (aCons (mVar 2) aNil)))))) (mVar 4) [4]) aNil)))))
noncomputable def fn_supports : Fn := dropF (fnB 3 5 ms_supports)
noncomputable def ms_cuts : MS :=
    (sSeq (sDrop (mCall fn_check_few (aCons (mVar 0) aNil)))
    (sSeq (sAsg (mOp dSub (mOp dShl (mC (.int 1)) (mLenO 0 fn_Policy_len (mVar 0))) (mC (.int 1))) (gN 3))
    (sSeq (sAsg (mRg1 rgLR (mOp dShl (mC (.int 1)) (mLenO 0 fn_Policy_len (mVar 0)))) (gN 4))
    (sRet (mCall fn_least_ones (aCons (mLc (iSeq (mVar 4)) (gN 5) (mNot (mTest (mCall fn_is_held (aCons (mVar 0) (aCons (mCall fn_chosen (aCons (mVar 0) (aCons (mOp dSub (mVar 3) (mVar 5)) aNil))) (aCons (mVar 1) (aCons (mVar 2) aNil))))))) (mVar 5) [5]) aNil))))))
noncomputable def fn_cuts : Fn := dropF (fnB 3 6 ms_cuts)
noncomputable def ms_spare : MS :=
    (sSeq (sDrop (mCall fn_check_few (aCons (mVar 0) aNil)))
    (sSeq (sAsg (mCall fn_table (aCons (mVar 0) aNil)) (gN 1))
    (sRet (mCB dTuple (aCons (mLc (iRg1 (aCons (mLenO 0 fn_Policy_len (mVar 0)) aNil)) (gN 2) (mTest (mOp dEq (mCall fn_table (aCons (mMeth 0 "without" fn_Policy_without (mVar 0) (aCons (mVar 2) aNil)) aNil)) (mVar 1))) (mVar 2) [2]) aNil)))))
noncomputable def fn_spare : Fn := dropF (fnB 1 3 ms_spare)
noncomputable def ms_law_told_v3 (ac : MA → ME) : MS :=
    (sSeq (sTry1 [13, 21, 23] 21 2 (sAsg (mLst (aCons (mC (.str "ok")) (aCons (ac aNil) aNil))) (gN 1)) (xSet (xLst (xCons (xC (.str "many")) (xCons (xF "limit") (xCons (xAnd (xI 10) (xIB "ValueError")) xNil)))) 1))
    (sRet (mVar 1)))
noncomputable def fn_law_told_v3 (ac : MA → ME) : Fn := (fnB 1 3 (ms_law_told_v3 ac))
noncomputable def ms_law_k14 : MS :=
    (sSeq (sAsg (mCall fn_law_deck (aCons (mVar 0) aNil)) (gN 1))
    (sSeq (sFor (iRg1 (aCons (mC (.int 6)) aNil)) (gN 2)
    (sSeq (sPar 3 4 (aCons (mOp dAdd (mC (.int 1)) (mCall fn_law_take (aCons (mVar 1) (aCons (mC (.int 4)) aNil)))) (aCons (mOp dAdd (mC (.int 1)) (mCall fn_law_take (aCons (mVar 1) (aCons (mC (.int 3)) aNil)))) aNil)))
    (sSeq (sAsg (mCall fn_law_grants (aCons (mVar 1) (aCons (mVar 3) (aCons (mVar 4) (aCons (mCall fn_law_one (aCons (mVar 1) (aCons (mLst (aCons (mC (.int 4)) (aCons (mC (.int 7)) (aCons (mC (.int 9)) (aCons (mC (.int 9)) aNil))))) aNil))) (aCons (mC (.bl false)) aNil)))))) (gN 5))
    (sSeq (sAsg (mTup (aCons (mMake 0 fn_Policy_init (aCons (mVar 3) (aCons (mVar 4) (aCons (mVar 5) aNil)))) (aCons (mCall fn_law_known (aCons (mVar 3) (aCons (mVar 4) (aCons (mVar 5) (aCons mDEmp aNil))))) aNil))) (gT 2 (gsCons (gN 6) (gsCons (gN 7) gsNil))))
    (sSeq (sAsg (mNew aNil) (gN 8))
    (sSeq (sFor (iRg1 (aCons (mCB dLen (aCons (mVar 5) aNil)) aNil)) (gN 9)
    (sIf (mTest (mOp dEqTV (mCall fn_law_known (aCons (mVar 3) (aCons (mVar 4) (aCons (mOp dAdd (mSl (mVar 5) oNone (oSome (mVar 9))) (mSl (mVar 5) (oSome (mOp dAdd (mVar 9) (mC (.int 1)))) oNone)) (aCons mDEmp aNil))))) (mVar 7))) (sApp (mVar 8) (mVar 9)) sNil))
    (sIf (mTest (mOp dNe (mCB dRepr (aCons (mLst (aCons (mCall fn_spare (aCons (mVar 6) aNil)) (aCons (mCall fn_spare (aCons (mVar 6) aNil)) aNil))) aNil)) (mCB dRepr (aCons (mOp dMul (mLst (aCons (mCB dTuple (aCons (mVar 8) aNil)) aNil)) (mC (.int 2))) aNil)))) (sRet (mC (.bl false))) sNil)))))))
    (sSeq (sAsg (mTup (aCons (mTup (aCons (mC (.int 0)) (aCons (mC (.int 0)) aNil))) (aCons (mOp dAdd (mC (.int 9)) (mCall fn_law_take (aCons (mVar 1) (aCons (mC (.int 5)) aNil)))) aNil))) (gT 2 (gsCons (gN 10) (gsCons (gN 11) gsNil))))
    (sSeq (sAsg (mSl (mCB dTuple (aCons (mCB dSortA (aCons (mLc (iSeq (mCall fn_law_all_roles (aCons (mC (.int 7)) (aCons (mC (.int 2)) aNil)))) (gT 2 (gsCons (gN 15) (gsCons (gN 14) gsNil))) tYesM (mTup (aCons (mTup (aCons (mVar 15) (aCons (mVar 14) aNil))) (aCons (mTup (aCons (mC (.str "owner")) (aCons (mVar 15) aNil))) aNil))) [15, 14]) aNil)) aNil)) oNone (oSome (mVar 11))) (gN 5))
    (sSeq (sAsg (mTup (aCons (mMake 0 fn_Policy_init (aCons (mC (.int 7)) (aCons (mC (.int 2)) (aCons (mVar 5) aNil)))) (aCons (mOp dGt0 (mCB dLen (aCons (mVar 5) aNil)) (mC (.int 9))) aNil))) (gT 2 (gsCons (gN 6) (gsCons (gN 12) gsNil))))
    (sSeq (sAsg (mNew (aCons (mTold (runL fn_law_told_v3) 0 1 (mCall fn_spare (aCons (mVar 0) aNil)) [6] 0 9 "law.<locals>.<lambda>") aNil)) (gN 13))
    (sSeq (sApp (mVar 13) (mTold (runL fn_law_told_v3) 0 2 (mCall fn_supports (aCons (mVar 0) (aCons (mVar 1) (aCons (mC (.int 0)) aNil)))) [6, 10] 0 9 "law.<locals>.<lambda>"))
    (sSeq (sApp (mVar 13) (mTold (runL fn_law_told_v3) 0 2 (mCall fn_cuts (aCons (mVar 0) (aCons (mVar 1) (aCons (mC (.int 0)) aNil)))) [6, 10] 0 9 "law.<locals>.<lambda>"))
    (sSeq (sAsg (mNew (aCons (mLst (aCons (mC (.str "ok")) (aCons (mTup aNil) aNil))) (aCons (mLst (aCons (mC (.str "ok")) (aCons (mTup (aCons (mTup (aCons (mC (.int 0)) aNil)) aNil)) aNil))) (aCons (mLst (aCons (mC (.str "ok")) (aCons (mTup (aCons (mTup (aCons (mC (.int 0)) aNil)) aNil)) aNil))) aNil)))) (gN 8))
    (sRet (mOp dEq (mCB dRepr (aCons (mVar 13) aNil)) (mCB dRepr (aCons (mIf (mTest (mVar 12)) (mOp dMul (mLst (aCons (mLst (aCons (mC (.str "many")) (aCons (mC (.int 9)) (aCons (mC (.bl true)) aNil)))) aNil)) (mC (.int 3))) (mVar 8)) aNil)))))))))))))
noncomputable def fn_law_k14 : Fn := (fnB 1 16 ms_law_k14)
theorem n_law_k14 : fn_law_k14.n = 1 := Nat.le_antisymm (Nat.le_refl _) (Nat.le_refl _)
noncomputable def ms_law_deck_v2 : MS :=
    (sSeq (sPar 1 2 (aCons (mC (.int 0)) (aCons (mOp dAdd (mC (.int 11227)) (mOp dMul (mC (.int 37)) (mCB dLen (aCons (mVar 0) aNil)))) aNil)))
    (sSeq (sFor (iSeq (mSl (mVar 0) oNone (oSome (mC (.int 63))))) (gN 3)
    (sIf (mTest (mOp dGe0 (mVar 3) (mOp dPow (mC (.int 10)) (mC (.int 18))))) (sAsg (mOp dSub (mOp dAdd (mOp dMul (mVar 1) (mC (.int 43))) (mVar 3)) (mOp dPow (mC (.int 10)) (mC (.int 18)))) (gN 1)) (sSeq (sAsg (mOp dAdd (mOp dMul (mVar 2) (mC (.int 3202034522624059733))) (mOp dMul (mC (.int 2)) (mCB dAbs (aCons (mVar 3) aNil)))) (gN 4))
    (sAsg (mOp dMod (mCB dInt (aCons (mOp dAdd (mVar 4) (mCB dInt (aCons (mOp dLt (mVar 3) (mC (.int 0))) aNil))) aNil)) (mC (.int 2305843009213693951))) (gN 2)))))
    (sRet (mNew (aCons (mVar 1) (aCons (mVar 2) (aCons (mC (.int 0)) aNil)))))))
noncomputable def fn_law_deck_v2 : Fn := (fnB 1 5 ms_law_deck_v2)
theorem n_law_deck_v2 : fn_law_deck_v2.n = 1 := Nat.le_antisymm (Nat.le_refl _) (Nat.le_refl _)
noncomputable def ms_law_take_v2 : MS :=
    (sSeq (sIf (mTest (mOp dGt0 (mOp dIdxA (mVar 0) (mC (.int 0))) (mC (.int 0)))) (sSeq (sAsg (mOp dMod (mCB dInt (aCons (mOp dIdxA (mVar 0) (mC (.int 0))) aNil)) (mVar 1)) (gN 2))
    (sSeq (sIx (mVar 0) (mC (.int 0)) (mOp dDiv (mOp dIdxA (mVar 0) (mC (.int 0))) (mVar 1)))
    (sRet (mVar 2)))) sNil)
    (sSeq (sIx (mVar 0) (mC (.int 2)) (mOp dAdd (mOp dIdxA (mVar 0) (mC (.int 2))) (mC (.int 1))))
    (sSeq (sAsg (mOp dAdd (mOp dMul (mOp dIdxA (mVar 0) (mC (.int 1))) (mC (.int 3202034522624059733))) (mOp dMul (mC (.int 1181783497276652981)) (mOp dIdxA (mVar 0) (mC (.int 2))))) (gN 3))
    (sSeq (sIx (mVar 0) (mC (.int 1)) (mOp dMod (mCB dInt (aCons (mVar 3) aNil)) (mC (.int 2305843009213693951))))
    (sRet (mOp dMod (mOp dDiv (mOp dMod (mCB dInt (aCons (mOp dMul (mOp dIdxA (mVar 0) (mC (.int 1))) (mOp dIdxA (mVar 0) (mC (.int 1)))) aNil)) (mC (.int 2305843009213693921))) (mC (.int 4096))) (mVar 1)))))))
noncomputable def fn_law_take_v2 : Fn := dropF (fnB 2 4 ms_law_take_v2)
theorem n_law_take_v2 : fn_law_take_v2.n = 2 := Nat.le_antisymm (Nat.le_refl _) (Nat.le_refl _)
noncomputable def ms_law_pick : MS :=
    (sRet (mOp dIdxA (mVar 1) (mCall fn_law_take_v2 (aCons (mVar 0) (aCons (mCB dLen (aCons (mVar 1) aNil)) aNil)))))
noncomputable def fn_law_pick : Fn := dropF (fnB 2 2 ms_law_pick)
theorem n_law_pick : fn_law_pick.n = 2 := Nat.le_antisymm (Nat.le_refl _) (Nat.le_refl _)
noncomputable def ms_law_oddX : MS :=
    (sSeq (sAsg (mLst (aCons (mC .non) (aCons (mC (.bl true)) (aCons (mC (.bl false)) (aCons (mC (.int 0)) (aCons (mC (.int 1)) (aCons (mC (.int 3)) (aCons (mUn dNeg (mC (.int 1))) (aCons (mOp dPow (mC (.int 10)) (mC (.int 40))) (aCons (mC (.str "")) (aCons (mC (.str "0")) (aCons (mC (.str "0.0")) (aCons (mC (.str "owner")) (aCons (mTup aNil) (aCons (mTup (aCons (mC (.int 0)) aNil)) (aCons (mTup (aCons (mC (.int 0)) (aCons (mC (.int 0)) aNil))) (aCons (mTup (aCons (mC (.int 0)) (aCons (mC (.bl true)) aNil))) (aCons (mTup (aCons (mC (.bl false)) (aCons (mC (.int 0)) aNil))) aNil)))))))))))))))))) (gN 1))
    (sSeq (sAsg (mOp dAdd (mVar 1) (mLst (aCons (mTup (aCons (mC (.int 9)) (aCons (mC (.int 9)) aNil))) (aCons (mTup (aCons (mUn dNeg (mC (.int 1))) (aCons (mC (.int 0)) aNil))) (aCons (mNew (aCons (mC (.int 0)) (aCons (mC (.int 0)) aNil))) (aCons (mNew aNil) (aCons mDEmp (aCons (mDispD ["0"] (aCons (mC (.int 0)) aNil)) (aCons (mTup (aCons (mTup (aCons (mC (.int 0)) (aCons (mC (.int 0)) aNil))) aNil)) (aCons (mTup (aCons (mTup (aCons (mC (.int 0)) (aCons (mC (.int 0)) aNil))) (aCons (mTup (aCons (mC (.str "owner")) aNil)) aNil))) (aCons (mTup (aCons (mTup (aCons (mC (.int 0)) (aCons (mC (.int 0)) aNil))) (aCons (mTup (aCons (mC (.str "owner")) (aCons (mC (.int 99)) aNil))) aNil))) (aCons (mTup (aCons (mLst (aCons (mC (.int 0)) aNil)) (aCons (mC (.int 0)) aNil))) aNil)))))))))))) (gN 1))
    (sRet (mCall fn_law_pick (aCons (mVar 0) (aCons (mOp dAdd (mVar 1) (mLst (aCons (mTup (aCons (mTup (aCons (mC (.int 0)) (aCons (mC (.int 0)) aNil))) (aCons (mLst (aCons (mC (.str "owner")) (aCons (mC (.int 0)) aNil))) aNil))) (aCons (mTup (aCons (mTup (aCons (mC (.int 0)) (aCons (mC (.int 0)) aNil))) (aCons (mTup (aCons (mC (.str "role")) (aCons (mC (.int 0)) aNil))) aNil))) (aCons (mTup (aCons (mTup (aCons (mC (.int 0)) (aCons (mC (.int 0)) aNil))) (aCons (mTup (aCons (mC (.str "both")) (aCons (mTup (aCons (mC (.int 0)) (aCons (mC (.int 0)) aNil))) (aCons (mTup (aCons (mC (.int 0)) (aCons (mC (.int 0)) aNil))) aNil)))) aNil))) (aCons (mTup (aCons (mTup (aCons (mC (.str "a")) aNil)) aNil)) aNil)))))) aNil))))))
noncomputable def fn_law_oddX : Fn := (fnB 1 2 ms_law_oddX)
theorem n_law_oddX : fn_law_oddX.n = 1 := Nat.le_antisymm (Nat.le_refl _) (Nat.le_refl _)
noncomputable def ms_law_flags : MS :=
    (sSeq (sAsg (mLst (aCons (mIsX [11, 12, 13, 14, 15, 16, 17, 18, 19, 20, 21, 22, 23] (fun c => isSub c 11) (mVar 0)) (aCons (mIsX [11, 12, 13, 14, 15, 16, 17, 18, 19, 20, 21, 22, 23] (fun c => isSub c 12) (mVar 0)) (aCons (mIsX [11, 12, 13, 14, 15, 16, 17, 18, 19, 20, 21, 22, 23] (fun c => isSub c 13) (mVar 0)) aNil)))) (gN 1))
    (sSeq (sAsg (mOp dAdd (mVar 1) (mLst (aCons (mIsX [11, 12, 13, 14, 15, 16, 17, 18, 19, 20, 21, 22, 23] (fun c => isSub c 14) (mVar 0)) (aCons (mIsX [11, 12, 13, 14, 15, 16, 17, 18, 19, 20, 21, 22, 23] (fun c => isSub c 15) (mVar 0)) (aCons (mIsX [11, 12, 13, 14, 15, 16, 17, 18, 19, 20, 21, 22, 23] (fun c => isSub c 16) (mVar 0)) aNil))))) (gN 1))
    (sSeq (sAsg (mOp dAdd (mVar 1) (mLst (aCons (mIsX [11, 12, 13, 14, 15, 16, 17, 18, 19, 20, 21, 22, 23] (fun c => isSub c 17) (mVar 0)) (aCons (mIsX [11, 12, 13, 14, 15, 16, 17, 18, 19, 20, 21, 22, 23] (fun c => isSub c 18) (mVar 0)) (aCons (mIsX [11, 12, 13, 14, 15, 16, 17, 18, 19, 20, 21, 22, 23] (fun c => isSub c 19) (mVar 0)) aNil))))) (gN 1))
    (sSeq (sAsg (mOp dAdd (mVar 1) (mLst (aCons (mIsX [11, 12, 13, 14, 15, 16, 17, 18, 19, 20, 21, 22, 23] (fun c => isSub c 20) (mVar 0)) (aCons (mIsX [11, 12, 13, 14, 15, 16, 17, 18, 19, 20, 21, 22, 23] (fun c => isSub c 21) (mVar 0)) (aCons (mIsX [11, 12, 13, 14, 15, 16, 17, 18, 19, 20, 21, 22, 23] (fun c => isSub c 22) (mVar 0)) aNil))))) (gN 1))
    (sRet (mOp dAdd (mVar 1) (mLst (aCons (mIsX [11, 12, 13, 14, 15, 16, 17, 18, 19, 20, 21, 22, 23] (fun c => isSub c 23) (mVar 0)) aNil))))))))
noncomputable def fn_law_flags : Fn := dropF (fnB 1 2 ms_law_flags)
theorem n_law_flags : fn_law_flags.n = 1 := Nat.le_antisymm (Nat.le_refl _) (Nat.le_refl _)
noncomputable def ms_law_k56 : MS :=
    (sSeq (sAsg (mCall fn_law_deck_v2 (aCons (mVar 0) aNil)) (gN 1))
    (sSeq (sAsg (mLst (aCons (mC (.int 6)) (aCons (mC (.int 9)) (aCons (mC (.int 24)) (aCons (mC (.int 10)) (aCons (mC (.int 240)) (aCons (mC (.int 4)) (aCons (mC (.int 7)) (aCons (mC (.int 10)) (aCons (mC (.int 24)) aNil)))))))))) (gN 2))
    (sSeq (sIf (mTest (mOp dNe (mCB dReprZ (aCons (mVar 2) aNil)) (mCB dReprZ (aCons (mLst (aCons (mC (.int 6)) (aCons (mC (.int 9)) (aCons (mC (.int 24)) (aCons (mC (.int 10)) (aCons (mC (.int 240)) (aCons (mC (.int 4)) (aCons (mC (.int 7)) (aCons (mC (.int 10)) (aCons (mC (.int 24)) aNil)))))))))) aNil)))) (sRet (mC (.bl false))) sNil)
    (sSeq (sFor (iRg1 (aCons (mC (.int 8)) aNil)) (gN 3)
    (sSeq (sPar 4 5 (aCons (mCall fn_law_oddX (aCons (mVar 1) aNil)) (aCons (mCall fn_law_pick (aCons (mVar 1) (aCons (mLst (aCons (mNew (aCons (mCall fn_law_oddX (aCons (mVar 1) aNil)) aNil)) (aCons (mCall fn_law_oddX (aCons (mVar 1) aNil)) aNil))) aNil))) aNil)))
    (sSeq (sAsg (mLst (aCons (mExcV 11 ["value"] (aCons (mVar 5) aNil)) (aCons (mExcV 12 ["word"] (aCons (mVar 5) aNil)) (aCons (mExcV 13 ["word", "number"] (aCons (mVar 4) (aCons (mVar 5) aNil))) (aCons (mExcV 14 ["mark"] (aCons (mVar 5) aNil)) (aCons (mExcV 15 ["number", "line"] (aCons (mVar 4) (aCons (mVar 5) aNil))) (aCons (mExcV 16 ["role"] (aCons (mVar 5) aNil)) (aCons (mExcV 17 [] aNil) aNil)))))))) (gN 6))
    (sSeq (sAsg (mOp dAdd (mVar 6) (mLst (aCons (mExcV 18 [] aNil) (aCons (mExcV 19 [] aNil) (aCons (mExcV 20 [] aNil) (aCons (mExcV 21 ["limit"] (aCons (mVar 5) aNil)) (aCons (mExcV 22 [] aNil) (aCons (mExcV 23 ["number"] (aCons (mVar 5) aNil)) aNil)))))))) (gN 6))
    (sSeq (sAsg (mNew (aCons (mFldX [11] "value" (mOp dIdxA (mVar 6) (mC (.int 0)))) (aCons (mFldX [12, 13] "word" (mOp dIdxA (mVar 6) (mC (.int 1)))) (aCons (mFldX [12, 13] "word" (mOp dIdxA (mVar 6) (mC (.int 2)))) (aCons (mFldX [14] "mark" (mOp dIdxA (mVar 6) (mC (.int 3)))) (aCons (mFldX [13, 15, 23] "number" (mOp dIdxA (mVar 6) (mC (.int 4)))) (aCons (mFldX [16] "role" (mOp dIdxA (mVar 6) (mC (.int 5)))) (aCons (mFldX [21] "limit" (mOp dIdxA (mVar 6) (mC (.int 10)))) aNil)))))))) (gN 7))
    (sSeq (sApp (mVar 7) (mFldX [13, 15, 23] "number" (mOp dIdxA (mVar 6) (mC (.int 12)))))
    (sSeq (sIf (mOr (mTest (mOp dNe (mCB dReprZ (aCons (mVar 7) aNil)) (mCB dReprZ (aCons (mOp dMul (mLst (aCons (mVar 5) aNil)) (mC (.int 8))) aNil)))) (mTest (mOp dNe (mCB dReprZ (aCons (mLst (aCons (mFldX [13, 15, 23] "number" (mOp dIdxA (mVar 6) (mC (.int 2)))) (aCons (mFldX [15] "line" (mOp dIdxA (mVar 6) (mC (.int 4)))) aNil))) aNil)) (mCB dReprZ (aCons (mLst (aCons (mVar 4) (aCons (mVar 4) aNil))) aNil))))) (sRet (mC (.bl false))) sNil)
    (sSeq (sIf (mTest (mCB dIsi (aCons (mVar 5) (aCons (mC (.ty "list")) aNil)))) (sSeq (sApp (mVar 5) (mC (.int 7)))
    (sIf (mTest (mOp dNe (mCB dReprZ (aCons (mLst (aCons (mFldX [11] "value" (mOp dIdxA (mVar 6) (mC (.int 0)))) (aCons (mFldX [16] "role" (mOp dIdxA (mVar 6) (mC (.int 5)))) (aCons (mFldX [13, 15, 23] "number" (mOp dIdxA (mVar 6) (mC (.int 12)))) aNil)))) aNil)) (mCB dReprZ (aCons (mOp dMul (mLst (aCons (mVar 5) aNil)) (mC (.int 3))) aNil)))) (sRet (mC (.bl false))) sNil)) sNil)
    (sFor (iEnum (mVar 6)) (gT 2 (gsCons (gN 8) (gsCons (gN 9) gsNil)))
    (sSeq (sIf (mTest (mOp dNe (mCall fn_law_flags (aCons (mVar 9) aNil)) (mLc (iRg1 (aCons (mC (.int 13)) aNil)) (gN 11) tYesM (mOp dEq (mVar 11) (mVar 8)) [11]))) (sRet (mC (.bl false))) sNil)
    (sSeq (sAsg (mLst (aCons (mIsX [11, 12, 13, 14, 15, 16, 17, 18, 19, 20, 21, 22, 23] (fun c => isSub c 10) (mVar 9)) (aCons (mIsX [11, 12, 13, 14, 15, 16, 17, 18, 19, 20, 21, 22, 23] (fun c => isSubB c "ValueError") (mVar 9)) (aCons (mIsX [11, 12, 13, 14, 15, 16, 17, 18, 19, 20, 21, 22, 23] (fun c => isSubB c "LookupError") (mVar 9)) aNil)))) (gN 10))
    (sIf (mTest (mOp dNe (mVar 10) (mIf (mTest (mOp dLt (mVar 8) (mC (.int 12)))) (mLst (aCons (mC (.bl true)) (aCons (mC (.bl true)) (aCons (mC (.bl false)) aNil)))) (mLst (aCons (mC (.bl false)) (aCons (mC (.bl false)) (aCons (mC (.bl true)) aNil))))))) (sRet (mC (.bl false))) sNil))))))))))))
    (sRet (mC (.bl true)))))))
noncomputable def fn_law_k56 : Fn := (fnB 1 12 ms_law_k56)
theorem n_law_k56 : fn_law_k56.n = 1 := Nat.le_antisymm (Nat.le_refl _) (Nat.le_refl _)
end P
namespace P
open PySem L2 G
def evN0 := And.intro @n_law_k14 (And.intro @n_law_deck_v2 (And.intro @n_law_take_v2 (And.intro @n_law_pick (And.intro @n_law_oddX (And.intro @n_law_flags (And.intro @n_law_k56 (True.intro)))))))
end P
end
section
open PySem L2 G P
open Q
local macro_rules | `(tactic| walk_at "ev") => `(tactic| simp (config := { decide := false }) only [seval, G.evB0, G.evB1, G.evB2, G.evB3, G.evB4, List.getElem?_set_self, List.length_set, List.set_set, List.map_cons, List.map_nil, List.length_cons, List.length_nil, List.replicate, List.cons_append, List.nil_append, List.getElem?_cons_zero, List.getElem?_cons_succ, List.set_cons_zero, List.set_cons_succ, Option.map_some, Option.map_none, Option.bind_some, Bool.not_true, Bool.not_false, if_true, if_false, decide_true, decide_false, Bool.false_eq_true, true_and, and_true, false_and, and_false, List.foldl_cons, List.foldl_nil, List.all_cons, List.all_nil, id_eq, Bool.and_true, Bool.true_and, eq_self, Bool.or_true, Bool.true_or, Bool.or_false, Bool.false_or, G.isNon, G.startE, G.bls, G.wipeE, Q.evSVG2_0, Q.evSVG3_0, Q.evSVG4_0, Q.evSVG5_0, Q.evSVG6_0, Q.evSVG7_0, P.evN0])
local macro_rules | `(tactic| walk_at "evs") => `(tactic| simp (config := { decide := false }) only [seval, G.evB0, G.evB1, G.evB2, G.evB3, G.evB4, List.getElem?_set_self, List.length_set, List.set_set, List.map_cons, List.map_nil, List.length_cons, List.length_nil, List.replicate, List.cons_append, List.nil_append, List.getElem?_cons_zero, List.getElem?_cons_succ, List.set_cons_zero, List.set_cons_succ, Option.map_some, Option.map_none, Option.bind_some, Bool.not_true, Bool.not_false, if_true, if_false, decide_true, decide_false, Bool.false_eq_true, true_and, and_true, false_and, and_false, List.foldl_cons, List.foldl_nil, List.all_cons, List.all_nil, id_eq, Bool.and_true, Bool.true_and, eq_self, Bool.or_true, Bool.true_or, Bool.or_false, Bool.false_or, G.isNon, G.startE, G.bls, G.wipeE, Q.evSVG2_0, Q.evSVG3_0, Q.evSVG4_0, Q.evSVG5_0, Q.evSVG6_0, Q.evSVG7_0, P.evN0, *])
namespace Q
def DkO (cells : List Int) (t g : Int) : Ob := .dic [.str (Str.ofString "cells"), .str (Str.ofString "turn"), .str (Str.ofString "great")] [.lst (cells.map .int), .int t, .int g]
def At (n : Nat) (S : Sto) (i : Nat) (S' : Sto) : Prop := i < S.length ∧ ∃ (cells : List Int) (t g : Int), S' = S.set i (DkO cells t g) ∧ cells ≠ [] ∧ 0 ≤ t ∧ t ≤ n
theorem At.len {n : Nat} {S : Sto} {i : Nat} {S' : Sto} (h : At n S i S') : S'.length = S.length := by
  obtain ⟨_, c, t, g, rfl, _⟩ := h
  simp
theorem At.mono {n m : Nat} {S : Sto} {i : Nat} {S' : Sto} (h : At n S i S') (hn : n ≤ m) : At m S i S' := by
  obtain ⟨a, c, t, g, b, d, e, f⟩ := h
  exact ⟨a, c, t, g, b, d, e, by omega⟩
theorem At.trans {n m : Nat} {S : Sto} {i : Nat} {S1 S2 : Sto} (h : At n S i S1) (h2 : At m S1 i S2) : At m S i S2 := by
  obtain ⟨a, c, t, g, rfl, _⟩ := h
  obtain ⟨a2, c2, t2, g2, rfl, x, y, z⟩ := h2
  exact ⟨a, c2, t2, g2, by rw [List.set_set], x, y, z⟩
theorem At.self {n : Nat} {S : Sto} {i : Nat} {S1 : Sto} (h : At n S i S1) : At n S1 i S1 := by
  obtain ⟨a, c, t, g, rfl, x, y, z⟩ := h
  exact ⟨by simpa using a, c, t, g, by rw [List.set_set], x, y, z⟩
theorem At.get {n : Nat} {S : Sto} {i : Nat} {S1 : Sto} (h : At n S i S1) : ∃ (cells : List Int) (t g : Int), S1[i]? = some (DkO cells t g) ∧ cells ≠ [] ∧ 0 ≤ t ∧ t ≤ n := by
  obtain ⟨a, c, t, g, rfl, x, y, z⟩ := h
  exact ⟨c, t, g, List.getElem?_set_self a, x, y, z⟩
theorem At.of {n : Nat} {S : Sto} {i : Nat} {c : List Int} {t g : Int} (h : S[i]? = some (DkO c t g)) (hc : c ≠ []) (h0 : 0 ≤ t) (hn : t ≤ n) : At n S i S := by
  obtain ⟨hi, e⟩ := List.getElem?_eq_some_iff.mp h
  exact ⟨hi, c, t, g, by rw [← e, List.set_getElem_self], hc, h0, hn⟩
theorem At.app {n : Nat} {S : Sto} {i : Nat} {S1 : Sto} (h : At n S i S1) (T : Sto) : At n (S ++ T) i (S1 ++ T) := by
  obtain ⟨a, c, t, g, rfl, x⟩ := h
  exact ⟨by rw [List.length_append]; omega, c, t, g, by rw [setB a], x⟩
theorem mod_nat {x : Int} {m : Nat} (hm : 0 < m) : ∃ r : Nat, x % (m : Int) = (r : Int) ∧ r < m := by
  have h1 := Int.emod_nonneg x (show (m : Int) ≠ 0 by omega)
  have h2 := Int.emod_lt_of_pos x (show (0 : Int) < m by omega)
  exact ⟨(x % m).toNat, by omega, by omega⟩
end Q
end
section
open PySem L2 G P
open Q
local macro_rules | `(tactic| walk_at "ev") => `(tactic| simp (config := { decide := false }) only [seval, G.evB0, G.evB1, G.evB2, G.evB3, G.evB4, List.getElem?_set_self, List.length_set, List.set_set, List.map_cons, List.map_nil, List.length_cons, List.length_nil, List.replicate, List.cons_append, List.nil_append, List.getElem?_cons_zero, List.getElem?_cons_succ, List.set_cons_zero, List.set_cons_succ, Option.map_some, Option.map_none, Option.bind_some, Bool.not_true, Bool.not_false, if_true, if_false, decide_true, decide_false, Bool.false_eq_true, true_and, and_true, false_and, and_false, List.foldl_cons, List.foldl_nil, List.all_cons, List.all_nil, id_eq, Bool.and_true, Bool.true_and, eq_self, Bool.or_true, Bool.true_or, Bool.or_false, Bool.false_or, G.isNon, G.startE, G.bls, G.wipeE, Q.evSVG2_0, Q.evSVG3_0, Q.evSVG4_0, Q.evSVG5_0, Q.evSVG6_0, Q.evSVG7_0, P.evN0])
local macro_rules | `(tactic| walk_at "evs") => `(tactic| simp (config := { decide := false }) only [seval, G.evB0, G.evB1, G.evB2, G.evB3, G.evB4, List.getElem?_set_self, List.length_set, List.set_set, List.map_cons, List.map_nil, List.length_cons, List.length_nil, List.replicate, List.cons_append, List.nil_append, List.getElem?_cons_zero, List.getElem?_cons_succ, List.set_cons_zero, List.set_cons_succ, Option.map_some, Option.map_none, Option.bind_some, Bool.not_true, Bool.not_false, if_true, if_false, decide_true, decide_false, Bool.false_eq_true, true_and, and_true, false_and, and_false, List.foldl_cons, List.foldl_nil, List.all_cons, List.all_nil, id_eq, Bool.and_true, Bool.true_and, eq_self, Bool.or_true, Bool.true_or, Bool.or_false, Bool.false_or, G.isNon, G.startE, G.bls, G.wipeE, Q.evSVG2_0, Q.evSVG3_0, Q.evSVG4_0, Q.evSVG5_0, Q.evSVG6_0, Q.evSVG7_0, P.evN0, *])
namespace Q
theorem At.rel {n m : Nat} {S : Sto} {i : Nat} {S1 S2 : Sto} (h : At n S i S1) (h2 : At m S i S2) : At m S1 i S2 := by
  obtain ⟨x, c, t, g, rfl, y⟩ := h
  obtain ⟨x3, c3, t3, g3, rfl, y3⟩ := h2
  exact ⟨by simpa using x, c3, t3, g3, by rw [List.set_set], y3⟩
theorem add_lst {S : Sto} {a b : List D} (h : a.length + b.length ≤ 1000000) : dAdd S (.lst a) (.lst b) = some (.lst (a ++ b)) := by
  rw [dAdd_lst, if_pos (sz_small h)]
local macro_rules | `(tactic| walk_at "ev") => `(tactic| simp (config := { decide := false }) only [seval, G.evB0, G.evB1, G.evB2, G.evB3, G.evB4, List.getElem?_set_self, List.length_set, List.set_set, List.map_cons, List.map_nil, List.length_cons, List.length_nil, List.replicate, List.cons_append, List.nil_append, List.getElem?_cons_zero, List.getElem?_cons_succ, List.set_cons_zero, List.set_cons_succ, Option.map_some, Option.map_none, Option.bind_some, Bool.not_true, Bool.not_false, if_true, if_false, decide_true, decide_false, Bool.false_eq_true, true_and, and_true, false_and, and_false, List.foldl_cons, List.foldl_nil, List.all_cons, List.all_nil, id_eq, Bool.and_true, Bool.true_and, eq_self, Bool.or_true, Bool.true_or, Bool.or_false, Bool.false_or, G.isNon, G.startE, G.bls, G.wipeE, Q.evSVG2_0, Q.evSVG3_0, Q.evSVG4_0, Q.evSVG5_0, Q.evSVG6_0, Q.evSVG7_0, P.evN0, add_lst])
local macro_rules | `(tactic| walk_at "evs") => `(tactic| simp (config := { decide := false }) only [seval, G.evB0, G.evB1, G.evB2, G.evB3, G.evB4, List.getElem?_set_self, List.length_set, List.set_set, List.map_cons, List.map_nil, List.length_cons, List.length_nil, List.replicate, List.cons_append, List.nil_append, List.getElem?_cons_zero, List.getElem?_cons_succ, List.set_cons_zero, List.set_cons_succ, Option.map_some, Option.map_none, Option.bind_some, Bool.not_true, Bool.not_false, if_true, if_false, decide_true, decide_false, Bool.false_eq_true, true_and, and_true, false_and, and_false, List.foldl_cons, List.foldl_nil, List.all_cons, List.all_nil, id_eq, Bool.and_true, Bool.true_and, eq_self, Bool.or_true, Bool.true_or, Bool.or_false, Bool.false_or, G.isNon, G.startE, G.bls, G.wipeE, Q.evSVG2_0, Q.evSVG3_0, Q.evSVG4_0, Q.evSVG5_0, Q.evSVG6_0, Q.evSVG7_0, P.evN0, add_lst, *])
end Q
end
section
open PySem L2 G P
open Q
local macro_rules | `(tactic| walk_at "ev") => `(tactic| simp (config := { decide := false }) only [seval, G.evB0, G.evB1, G.evB2, G.evB3, G.evB4, List.getElem?_set_self, List.length_set, List.set_set, List.map_cons, List.map_nil, List.length_cons, List.length_nil, List.replicate, List.cons_append, List.nil_append, List.getElem?_cons_zero, List.getElem?_cons_succ, List.set_cons_zero, List.set_cons_succ, Option.map_some, Option.map_none, Option.bind_some, Bool.not_true, Bool.not_false, if_true, if_false, decide_true, decide_false, Bool.false_eq_true, true_and, and_true, false_and, and_false, List.foldl_cons, List.foldl_nil, List.all_cons, List.all_nil, id_eq, Bool.and_true, Bool.true_and, eq_self, Bool.or_true, Bool.true_or, Bool.or_false, Bool.false_or, G.isNon, G.startE, G.bls, G.wipeE, Q.evSVG2_0, Q.evSVG3_0, Q.evSVG4_0, Q.evSVG5_0, Q.evSVG6_0, Q.evSVG7_0, P.evN0, add_lst])
local macro_rules | `(tactic| walk_at "evs") => `(tactic| simp (config := { decide := false }) only [seval, G.evB0, G.evB1, G.evB2, G.evB3, G.evB4, List.getElem?_set_self, List.length_set, List.set_set, List.map_cons, List.map_nil, List.length_cons, List.length_nil, List.replicate, List.cons_append, List.nil_append, List.getElem?_cons_zero, List.getElem?_cons_succ, List.set_cons_zero, List.set_cons_succ, Option.map_some, Option.map_none, Option.bind_some, Bool.not_true, Bool.not_false, if_true, if_false, decide_true, decide_false, Bool.false_eq_true, true_and, and_true, false_and, and_false, List.foldl_cons, List.foldl_nil, List.all_cons, List.all_nil, id_eq, Bool.and_true, Bool.true_and, eq_self, Bool.or_true, Bool.true_or, Bool.or_false, Bool.false_or, G.isNon, G.startE, G.bls, G.wipeE, Q.evSVG2_0, Q.evSVG3_0, Q.evSVG4_0, Q.evSVG5_0, Q.evSVG6_0, Q.evSVG7_0, P.evN0, add_lst, *])
namespace Q
theorem cut_hi (xs : List D) (k : Nat) : cutD xs none (some (k : Int)) = xs.take k := by
  unfold cutD HT.sIx
  have e : ((k : Int) < 0) = False := by simp
  simp only [e, if_false, List.drop_zero, Nat.sub_zero]
  by_cases h : k ≤ xs.length
  · congr 1
    omega
  · rw [List.take_of_length_le (by omega), List.take_of_length_le (by omega)]
end Q
end
section
open PySem L2 G P
open Q
local macro_rules | `(tactic| walk_at "ev") => `(tactic| simp (config := { decide := false }) only [seval, G.evB0, G.evB1, G.evB2, G.evB3, G.evB4, List.getElem?_set_self, List.length_set, List.set_set, List.map_cons, List.map_nil, List.length_cons, List.length_nil, List.replicate, List.cons_append, List.nil_append, List.getElem?_cons_zero, List.getElem?_cons_succ, List.set_cons_zero, List.set_cons_succ, Option.map_some, Option.map_none, Option.bind_some, Bool.not_true, Bool.not_false, if_true, if_false, decide_true, decide_false, Bool.false_eq_true, true_and, and_true, false_and, and_false, List.foldl_cons, List.foldl_nil, List.all_cons, List.all_nil, id_eq, Bool.and_true, Bool.true_and, eq_self, Bool.or_true, Bool.true_or, Bool.or_false, Bool.false_or, G.isNon, G.startE, G.bls, G.wipeE, Q.evSVG2_0, Q.evSVG3_0, Q.evSVG4_0, Q.evSVG5_0, Q.evSVG6_0, Q.evSVG7_0, P.evN0])
local macro_rules | `(tactic| walk_at "evs") => `(tactic| simp (config := { decide := false }) only [seval, G.evB0, G.evB1, G.evB2, G.evB3, G.evB4, List.getElem?_set_self, List.length_set, List.set_set, List.map_cons, List.map_nil, List.length_cons, List.length_nil, List.replicate, List.cons_append, List.nil_append, List.getElem?_cons_zero, List.getElem?_cons_succ, List.set_cons_zero, List.set_cons_succ, Option.map_some, Option.map_none, Option.bind_some, Bool.not_true, Bool.not_false, if_true, if_false, decide_true, decide_false, Bool.false_eq_true, true_and, and_true, false_and, and_false, List.foldl_cons, List.foldl_nil, List.all_cons, List.all_nil, id_eq, Bool.and_true, Bool.true_and, eq_self, Bool.or_true, Bool.true_or, Bool.or_false, Bool.false_or, G.isNon, G.startE, G.bls, G.wipeE, Q.evSVG2_0, Q.evSVG3_0, Q.evSVG4_0, Q.evSVG5_0, Q.evSVG6_0, Q.evSVG7_0, P.evN0, *])
namespace Q
theorem Wp_seq {A B : MS} {en : En} {S : Sto} {Q : Fl → Sto → Prop} (R : En → Sto → Prop) (h : Wp (A en S) fun f S1 => ∃ en1, f = .nx en1 ∧ R en1 S1) (h2 : ∀ en1 S1, R en1 S1 → Wp (B en1 S1) Q) : Wp (sSeq A B en S) Q := by
  rw [sSeq_ap, Wp_bind]
  refine h.mono ?_
  rintro f S1 ⟨en1, rfl, r⟩
  exact h2 en1 S1 r
structure Sm (w p : Nat) (d : D) : Prop where
  sm : smD d = true
  dp : dpD d ≤ p
  wd : wD d ≤ w
theorem Sm.mono {w p w' p' : Nat} {d : D} (h : Sm w p d) (h1 : w ≤ w') (h2 : p ≤ p') : Sm w' p' d := ⟨h.sm, Nat.le_trans h.dp h2, Nat.le_trans h.wd h1⟩
theorem Sm.int {n : Nat} (h : n ≤ 1000000) : Sm 64 0 (.int (n : Nat)) := ⟨by simp only [smD, Bool.and_eq_true, decide_eq_true_eq]; omega, by simp [dpD], by simp [wD]⟩
theorem sms {w p : Nat} : ∀ {ds : List D}, (∀ d ∈ ds, Sm w p d) → smDs ds = true ∧ dpDs ds ≤ p ∧ wDs ds ≤ ds.length * (w + 1)
  | [], _ => ⟨by simp [smDs], by simp [dpDs], by simp [wDs]⟩
  | d :: ds, h => by
    obtain ⟨a, b, c⟩ := h d (by simp)
    obtain ⟨a2, b2, c2⟩ := sms (ds := ds) fun x hx => h x (by simp [hx])
    refine ⟨by simp only [smDs, a, a2]; rfl, by simp only [dpDs]; omega, ?_⟩
    simp only [wDs, List.length_cons, Nat.succ_mul]
    omega
theorem Sm.tup {w p n : Nat} {ds : List D} (h : ∀ d ∈ ds, Sm w p d) (hn : ds.length ≤ n) : Sm (n * (w + 1)) (p + 1) (.tup ds) := by
  obtain ⟨a, b, c⟩ := sms h
  have := Nat.mul_le_mul_right (w + 1) hn
  exact ⟨by simp only [smD]; exact a, by simp only [dpD]; omega, by simp only [wD]; omega⟩
theorem Sm.lst {w p n : Nat} {ds : List D} (h : ∀ d ∈ ds, Sm w p d) (hn : ds.length ≤ n) : Sm (n * (w + 1)) (p + 1) (.lst ds) := by
  obtain ⟨a, b, c⟩ := sms h
  have := Nat.mul_le_mul_right (w + 1) hn
  exact ⟨by simp only [smD]; exact a, by simp only [dpD]; omega, by simp only [wD]; omega⟩
theorem Sm.repr {w p : Nat} {d : D} (h : Sm w p d) (h1 : w ≤ 1000000) (h2 : p ≤ 60) (hp : plainK d = true) : ∃ z, ∀ S, dRepr S [d] = some (.str z) := repr_sm h.sm (by have := h.dp; omega) (by have := h.wd; omega) hp
end Q
end
section
open PySem L2 G P
open Q
local macro_rules | `(tactic| walk_at "ev") => `(tactic| simp (config := { decide := false }) only [seval, G.evB0, G.evB1, G.evB2, G.evB3, G.evB4, List.getElem?_set_self, List.length_set, List.set_set, List.map_cons, List.map_nil, List.length_cons, List.length_nil, List.replicate, List.cons_append, List.nil_append, List.getElem?_cons_zero, List.getElem?_cons_succ, List.set_cons_zero, List.set_cons_succ, Option.map_some, Option.map_none, Option.bind_some, Bool.not_true, Bool.not_false, if_true, if_false, decide_true, decide_false, Bool.false_eq_true, true_and, and_true, false_and, and_false, List.foldl_cons, List.foldl_nil, List.all_cons, List.all_nil, id_eq, Bool.and_true, Bool.true_and, eq_self, Bool.or_true, Bool.true_or, Bool.or_false, Bool.false_or, G.isNon, G.startE, G.bls, G.wipeE, Q.evSVG2_0, Q.evSVG3_0, Q.evSVG4_0, Q.evSVG5_0, Q.evSVG6_0, Q.evSVG7_0, P.evN0])
local macro_rules | `(tactic| walk_at "evs") => `(tactic| simp (config := { decide := false }) only [seval, G.evB0, G.evB1, G.evB2, G.evB3, G.evB4, List.getElem?_set_self, List.length_set, List.set_set, List.map_cons, List.map_nil, List.length_cons, List.length_nil, List.replicate, List.cons_append, List.nil_append, List.getElem?_cons_zero, List.getElem?_cons_succ, List.set_cons_zero, List.set_cons_succ, Option.map_some, Option.map_none, Option.bind_some, Bool.not_true, Bool.not_false, if_true, if_false, decide_true, decide_false, Bool.false_eq_true, true_and, and_true, false_and, and_false, List.foldl_cons, List.foldl_nil, List.all_cons, List.all_nil, id_eq, Bool.and_true, Bool.true_and, eq_self, Bool.or_true, Bool.true_or, Bool.or_false, Bool.false_or, G.isNon, G.startE, G.bls, G.wipeE, Q.evSVG2_0, Q.evSVG3_0, Q.evSVG4_0, Q.evSVG5_0, Q.evSVG6_0, Q.evSVG7_0, P.evN0, *])
namespace Q
theorem idx_ref {S : Sto} {j : Nat} {ds : List D} (h : S[j]? = some (.lst ds)) {k : Int} {d : D} (hk : atI ds k = some d) : dIdxA S (.ref j) (.int k) = some d := by
  have e : seqL S (.ref j) = some ds := by simp only [seqL, h]
  refine dIdxA_idx ?_
  unfold dIdx
  first | simp only [e, hk] | simp [e, hk]
end Q
end
section
open PySem L2 G P
open Q
local macro_rules | `(tactic| walk_at "ev") => `(tactic| simp (config := { decide := false }) only [seval, G.evB0, G.evB1, G.evB2, G.evB3, G.evB4, List.getElem?_set_self, List.length_set, List.set_set, List.map_cons, List.map_nil, List.length_cons, List.length_nil, List.replicate, List.cons_append, List.nil_append, List.getElem?_cons_zero, List.getElem?_cons_succ, List.set_cons_zero, List.set_cons_succ, Option.map_some, Option.map_none, Option.bind_some, Bool.not_true, Bool.not_false, if_true, if_false, decide_true, decide_false, Bool.false_eq_true, true_and, and_true, false_and, and_false, List.foldl_cons, List.foldl_nil, List.all_cons, List.all_nil, id_eq, Bool.and_true, Bool.true_and, eq_self, Bool.or_true, Bool.true_or, Bool.or_false, Bool.false_or, G.isNon, G.startE, G.bls, G.wipeE, Q.evSVG2_0, Q.evSVG3_0, Q.evSVG4_0, Q.evSVG5_0, Q.evSVG6_0, Q.evSVG7_0, P.evN0])
local macro_rules | `(tactic| walk_at "evs") => `(tactic| simp (config := { decide := false }) only [seval, G.evB0, G.evB1, G.evB2, G.evB3, G.evB4, List.getElem?_set_self, List.length_set, List.set_set, List.map_cons, List.map_nil, List.length_cons, List.length_nil, List.replicate, List.cons_append, List.nil_append, List.getElem?_cons_zero, List.getElem?_cons_succ, List.set_cons_zero, List.set_cons_succ, Option.map_some, Option.map_none, Option.bind_some, Bool.not_true, Bool.not_false, if_true, if_false, decide_true, decide_false, Bool.false_eq_true, true_and, and_true, false_and, and_false, List.foldl_cons, List.foldl_nil, List.all_cons, List.all_nil, id_eq, Bool.and_true, Bool.true_and, eq_self, Bool.or_true, Bool.true_or, Bool.or_false, Bool.false_or, G.isNon, G.startE, G.bls, G.wipeE, Q.evSVG2_0, Q.evSVG3_0, Q.evSVG4_0, Q.evSVG5_0, Q.evSVG6_0, Q.evSVG7_0, P.evN0, *])
namespace Q
def Hid (p : Prop) : Prop := p
theorem Wp_cut {A B : MS} {en : En} {S : Sto} {Q : Fl → Sto → Prop} (h : ∀ K : Fl → Sto → Prop, Hid (∀ en1 S1, Wp (B en1 S1) Q → K (.nx en1) S1) → Wp (A en S) K) : Wp (sSeq A B en S) Q := by
  rw [sSeq_ap, Wp_bind]
  exact h (fun f S1 => Wp (seqK B f S1) Q) fun en1 S1 k => k
section
variable {α : Type} {f : α → D} {k : α → NK}
end
end Q
end
section
open PySem L2 G P
open Q
local macro_rules | `(tactic| walk_at "ev") => `(tactic| simp (config := { decide := false }) only [seval, G.evB0, G.evB1, G.evB2, G.evB3, G.evB4, List.getElem?_set_self, List.length_set, List.set_set, List.map_cons, List.map_nil, List.length_cons, List.length_nil, List.replicate, List.cons_append, List.nil_append, List.getElem?_cons_zero, List.getElem?_cons_succ, List.set_cons_zero, List.set_cons_succ, Option.map_some, Option.map_none, Option.bind_some, Bool.not_true, Bool.not_false, if_true, if_false, decide_true, decide_false, Bool.false_eq_true, true_and, and_true, false_and, and_false, List.foldl_cons, List.foldl_nil, List.all_cons, List.all_nil, id_eq, Bool.and_true, Bool.true_and, eq_self, Bool.or_true, Bool.true_or, Bool.or_false, Bool.false_or, G.isNon, G.startE, G.bls, G.wipeE, Q.evSVG2_0, Q.evSVG3_0, Q.evSVG4_0, Q.evSVG5_0, Q.evSVG6_0, Q.evSVG7_0, P.evN0, Bool.false_and])
local macro_rules | `(tactic| walk_at "evs") => `(tactic| simp (config := { decide := false }) only [seval, G.evB0, G.evB1, G.evB2, G.evB3, G.evB4, List.getElem?_set_self, List.length_set, List.set_set, List.map_cons, List.map_nil, List.length_cons, List.length_nil, List.replicate, List.cons_append, List.nil_append, List.getElem?_cons_zero, List.getElem?_cons_succ, List.set_cons_zero, List.set_cons_succ, Option.map_some, Option.map_none, Option.bind_some, Bool.not_true, Bool.not_false, if_true, if_false, decide_true, decide_false, Bool.false_eq_true, true_and, and_true, false_and, and_false, List.foldl_cons, List.foldl_nil, List.all_cons, List.all_nil, id_eq, Bool.and_true, Bool.true_and, eq_self, Bool.or_true, Bool.true_or, Bool.or_false, Bool.false_or, G.isNon, G.startE, G.bls, G.wipeE, Q.evSVG2_0, Q.evSVG3_0, Q.evSVG4_0, Q.evSVG5_0, Q.evSVG6_0, Q.evSVG7_0, P.evN0, Bool.false_and, *])
namespace Q
mutual
def anyD : D → Bool
  | .non => true
  | .bl _ => true
  | .int _ => true
  | .str x => PyData.strOk x
  | .tup xs => anyDs xs && decide (xs.length ≤ 1000)
  | .lst xs => anyDs xs
  | .dic _ _ => true
  | _ => false
def anyDs : List D → Bool
  | [] => true
  | d :: r => anyD d && anyDs r
end
end Q
end
section
open PySem L2 G P
open Q
local macro_rules | `(tactic| walk_at "ev") => `(tactic| simp (config := { decide := false }) only [seval, G.evB0, G.evB1, G.evB2, G.evB3, G.evB4, List.getElem?_set_self, List.length_set, List.set_set, List.map_cons, List.map_nil, List.length_cons, List.length_nil, List.replicate, List.cons_append, List.nil_append, List.getElem?_cons_zero, List.getElem?_cons_succ, List.set_cons_zero, List.set_cons_succ, Option.map_some, Option.map_none, Option.bind_some, Bool.not_true, Bool.not_false, if_true, if_false, decide_true, decide_false, Bool.false_eq_true, true_and, and_true, false_and, and_false, List.foldl_cons, List.foldl_nil, List.all_cons, List.all_nil, id_eq, Bool.and_true, Bool.true_and, eq_self, Bool.or_true, Bool.true_or, Bool.or_false, Bool.false_or, G.isNon, G.startE, G.bls, G.wipeE, Q.evSVG2_0, Q.evSVG3_0, Q.evSVG4_0, Q.evSVG5_0, Q.evSVG6_0, Q.evSVG7_0, P.evN0, Bool.false_and, add_lst])
local macro_rules | `(tactic| walk_at "evs") => `(tactic| simp (config := { decide := false }) only [seval, G.evB0, G.evB1, G.evB2, G.evB3, G.evB4, List.getElem?_set_self, List.length_set, List.set_set, List.map_cons, List.map_nil, List.length_cons, List.length_nil, List.replicate, List.cons_append, List.nil_append, List.getElem?_cons_zero, List.getElem?_cons_succ, List.set_cons_zero, List.set_cons_succ, Option.map_some, Option.map_none, Option.bind_some, Bool.not_true, Bool.not_false, if_true, if_false, decide_true, decide_false, Bool.false_eq_true, true_and, and_true, false_and, and_false, List.foldl_cons, List.foldl_nil, List.all_cons, List.all_nil, id_eq, Bool.and_true, Bool.true_and, eq_self, Bool.or_true, Bool.true_or, Bool.or_false, Bool.false_or, G.isNon, G.startE, G.bls, G.wipeE, Q.evSVG2_0, Q.evSVG3_0, Q.evSVG4_0, Q.evSVG5_0, Q.evSVG6_0, Q.evSVG7_0, P.evN0, Bool.false_and, add_lst, *])
namespace Q
def LkO (g sm c : Int) : Ob := .lst [.int g, .int sm, .int c]
def LkOk (sm : Int) : Prop := 0 ≤ sm ∧ sm < 2305843009213693951
def HasLk (S : Sto) (i : Nat) : Prop := ∃ g sm c, S[i]? = some (LkO g sm c) ∧ LkOk sm
def LkTo (S : Sto) (i : Nat) (S' : Sto) : Prop := ∃ g sm c, S' = S.set i (LkO g sm c) ∧ LkOk sm
theorem HasLk.lt {S : Sto} {i : Nat} (h : HasLk S i) : i < S.length := by
  obtain ⟨g, sm, c, e, _⟩ := h
  exact (List.getElem?_eq_some_iff.mp e).1
theorem LkTo.has {S S' : Sto} {i : Nat} (h : LkTo S i S') (hi : i < S.length) : HasLk S' i := by
  obtain ⟨g, sm, c, rfl, k⟩ := h
  exact ⟨g, sm, c, List.getElem?_set_self hi, k⟩
theorem LkTo.trans {S S' S'' : Sto} {i : Nat} (h : LkTo S i S') (h' : LkTo S' i S'') : LkTo S i S'' := by
  obtain ⟨g, sm, c, rfl, k⟩ := h
  obtain ⟨g', sm', c', rfl, k'⟩ := h'
  exact ⟨g', sm', c', List.set_set _, k'⟩
theorem LkTo.len {S S' : Sto} {i : Nat} (h : LkTo S i S') : S'.length = S.length := by
  obtain ⟨g, sm, c, rfl, k⟩ := h
  exact List.length_set
theorem HasLk.refl {S : Sto} {i : Nat} (h : HasLk S i) : LkTo S i S := by
  obtain ⟨g, sm, c, e, k⟩ := h
  refine ⟨g, sm, c, ?_, k⟩
  obtain ⟨hi, e'⟩ := List.getElem?_eq_some_iff.mp e
  rw [← e', List.set_getElem_self]
theorem LkTo.cl {S S' : Sto} {i : Nat} (h : LkTo S i S') : Cl S S' := by
  obtain ⟨g, sm, c, rfl, k⟩ := h
  exact Cl.set (by simp [LkO, Ob.bel, D.bels, D.bel])
theorem LkTo.get {S S' : Sto} {i j : Nat} (h : LkTo S i S') (hj : i ≠ j) : S'[j]? = S[j]? := by
  obtain ⟨g, sm, c, rfl, k⟩ := h
  exact List.getElem?_set_ne hj
theorem drop_lk {S : Sto} {i : Nat} {r : Res D} {Q : D → Prop} (hb : ∀ d, Q d → ∀ k, d.bel k = True) (hr : Wp r fun d S' => Q d ∧ LkTo S i S') : Wp (r.drop S) fun d S' => Q d ∧ LkTo S i S' := by
  rw [Wp_drop]
  refine hr.mono ?_
  rintro d S' ⟨q, t⟩
  refine ⟨⟨t.cl, by rw [hb d q]; trivial⟩, q, ?_⟩
  rw [List.take_of_length_le (by rw [t.len]; exact Nat.le_refl _)]
  exact t
theorem take_lk {S : Sto} {i : Nat} {many : Nat} (hS : HasLk S i) (h1 : 0 < many) (h2 : many ≤ 1000000) :
    Wp (fn_law_take_v2.run [.ref i, .int many] S) fun d S' => (∃ r : Nat, d = .int r ∧ r < many) ∧ LkTo S i S' := by
  obtain ⟨g, sm, c, hS, h⟩ := hS
  unfold LkO at hS
  have hm1 : (0 : Int) < (many : Int) := by omega
  have hm2 : (many : Int) < 1073741824 := by omega
  have hi : i < S.length := (List.getElem?_eq_some_iff.mp hS).1
  have hsm1 : -18446744073709551616 < sm := by have := h.1; omega
  have hsm2 : sm < 18446744073709551616 := by have := h.2; omega
  unfold fn_law_take_v2 ms_law_take_v2
  rw [dropF_run]
  refine drop_lk (fun d hd k => ?_) ?_
  · obtain ⟨r, rfl, _⟩ := hd
    simp only [D.bel]
  have q1 : ∀ x : Int, -18446744073709551616 < x % 2305843009213693951 := fun x => by have := Int.emod_nonneg x (show (2305843009213693951 : Int) ≠ 0 by decide); omega
  have q2 : ∀ x : Int, x % 2305843009213693951 < 18446744073709551616 := fun x => by have := Int.emod_lt_of_pos x (show (0 : Int) < 2305843009213693951 by decide); omega
  have I : ∀ (T : Sto) (a b c : D), T[i]? = some (.lst [a, b, c]) → dIdxA T (.ref i) (.int 0) = some a ∧ dIdxA T (.ref i) (.int 1) = some b ∧ dIdxA T (.ref i) (.int 2) = some c := fun T a b c h => ⟨idx_ref h rfl, idx_ref h rfl, idx_ref h rfl⟩
  obtain ⟨i0, i1, i2⟩ := I S _ _ _ hS
  have j0 : ∀ a b c : D, dIdxA (S.set i (.lst [a, b, c])) (.ref i) (.int 0) = some a := fun a b c => (I _ a b c (List.getElem?_set_self hi)).1
  have j1 : ∀ a b c : D, dIdxA (S.set i (.lst [a, b, c])) (.ref i) (.int 1) = some b := fun a b c => (I _ a b c (List.getElem?_set_self hi)).2.1
  have j2 : ∀ a b c : D, dIdxA (S.set i (.lst [a, b, c])) (.ref i) (.int 2) = some c := fun a b c => (I _ a b c (List.getElem?_set_self hi)).2.2
  clear I
  by_cases hg : 0 < g
  · obtain ⟨r, er, hr⟩ := mod_nat (x := g) h1
    walk_at "evs"
    exact ⟨⟨r, rfl, hr⟩, g / many, sm, c, rfl, h⟩
  · walk_at "evs"
    refine ⟨?_, g, _, c + 1, rfl, ⟨Int.emod_nonneg _ (by decide), Int.emod_lt_of_pos _ (by decide)⟩⟩
    obtain ⟨r, er, hr⟩ := mod_nat (x := (sm * 3202034522624059733 + 1181783497276652981 * (c + 1)) % 2305843009213693951 * ((sm * 3202034522624059733 + 1181783497276652981 * (c + 1)) % 2305843009213693951) % 2305843009213693921 / 4096) h1
    exact ⟨r, congrArg D.int er, hr⟩
end Q
end
section
open PySem L2 G P
open Q
local macro_rules | `(tactic| walk_at "ev") => `(tactic| simp (config := { decide := false }) only [seval, G.evB0, G.evB1, G.evB2, G.evB3, G.evB4, List.getElem?_set_self, List.length_set, List.set_set, List.map_cons, List.map_nil, List.length_cons, List.length_nil, List.replicate, List.cons_append, List.nil_append, List.getElem?_cons_zero, List.getElem?_cons_succ, List.set_cons_zero, List.set_cons_succ, Option.map_some, Option.map_none, Option.bind_some, Bool.not_true, Bool.not_false, if_true, if_false, decide_true, decide_false, Bool.false_eq_true, true_and, and_true, false_and, and_false, List.foldl_cons, List.foldl_nil, List.all_cons, List.all_nil, id_eq, Bool.and_true, Bool.true_and, eq_self, Bool.or_true, Bool.true_or, Bool.or_false, Bool.false_or, G.isNon, G.startE, G.bls, G.wipeE, Q.evSVG2_0, Q.evSVG3_0, Q.evSVG4_0, Q.evSVG5_0, Q.evSVG6_0, Q.evSVG7_0, P.evN0, Bool.false_and, add_lst])
local macro_rules | `(tactic| walk_at "evs") => `(tactic| simp (config := { decide := false }) only [seval, G.evB0, G.evB1, G.evB2, G.evB3, G.evB4, List.getElem?_set_self, List.length_set, List.set_set, List.map_cons, List.map_nil, List.length_cons, List.length_nil, List.replicate, List.cons_append, List.nil_append, List.getElem?_cons_zero, List.getElem?_cons_succ, List.set_cons_zero, List.set_cons_succ, Option.map_some, Option.map_none, Option.bind_some, Bool.not_true, Bool.not_false, if_true, if_false, decide_true, decide_false, Bool.false_eq_true, true_and, and_true, false_and, and_false, List.foldl_cons, List.foldl_nil, List.all_cons, List.all_nil, id_eq, Bool.and_true, Bool.true_and, eq_self, Bool.or_true, Bool.true_or, Bool.or_false, Bool.false_or, G.isNon, G.startE, G.bls, G.wipeE, Q.evSVG2_0, Q.evSVG3_0, Q.evSVG4_0, Q.evSVG5_0, Q.evSVG6_0, Q.evSVG7_0, P.evN0, Bool.false_and, add_lst, *])
namespace Q
theorem deck2_run {S : Sto} {ns : List Int} (hl : ns.length ≤ 63) : Wp (fn_law_deck_v2.run [.scr (ns.map .int)] S) fun d S' => d = .ref S.length ∧ ∃ g sm, S' = S ++ [LkO g sm 0] ∧ LkOk sm := by
  have hp : CPow 10 18 := ⟨by decide, by decide, by decide⟩
  have e1 : (10 : Int) ^ 18 = 1000000000000000000 := by decide
  have q1 : ∀ x : Int, LkOk (x % 2305843009213693951) := fun x => ⟨Int.emod_nonneg _ (by decide), Int.emod_lt_of_pos _ (by decide)⟩
  have c63 : cutD (ns.map D.int) none (some 63) = (ns.take 63).map D.int := by rw [show (63 : Int) = ((63 : Nat) : Int) from rfl, cut_hi, List.map_take]
  unfold fn_law_deck_v2 ms_law_deck_v2
  walk_at "evs"
  refine Wp_for (fun pre en S' => S' = S ∧ ∃ g sm x y, en = [some (.scr (ns.map .int)), some (.int g), some (.int sm), x, y] ∧ LkOk sm) ?_ ?_ ?_
  · refine ⟨rfl, _, _, none, none, rfl, ?_⟩
    try simp only [List.length_map]
    exact ⟨by omega, by omega⟩
  · rintro pre z suf en S' hd ⟨rfl, g, sm, x, y, rfl, hs⟩
    refine ⟨_, gN_ap _ _ _, ?_⟩
    clear hd c63
    by_cases hz : 1000000000000000000 ≤ z
    · walk_at "evs"
      exact ⟨_, _, _, _, rfl, hs⟩
    · walk_at "evs"
      exact ⟨_, _, _, _, rfl, q1 _⟩
  · rintro en S' ⟨rfl, g, sm, x, y, rfl, hs⟩
    walk_at "evs"
    exact ⟨g, sm, rfl, hs⟩
end Q
end
section
open PySem L2 G P
open Q
local macro_rules | `(tactic| walk_at "ev") => `(tactic| simp (config := { decide := false }) only [seval, G.evB0, G.evB1, G.evB2, G.evB3, G.evB4, List.getElem?_set_self, List.length_set, List.set_set, List.map_cons, List.map_nil, List.length_cons, List.length_nil, List.replicate, List.cons_append, List.nil_append, List.getElem?_cons_zero, List.getElem?_cons_succ, List.set_cons_zero, List.set_cons_succ, Option.map_some, Option.map_none, Option.bind_some, Bool.not_true, Bool.not_false, if_true, if_false, decide_true, decide_false, Bool.false_eq_true, true_and, and_true, false_and, and_false, List.foldl_cons, List.foldl_nil, List.all_cons, List.all_nil, id_eq, Bool.and_true, Bool.true_and, eq_self, Bool.or_true, Bool.true_or, Bool.or_false, Bool.false_or, G.isNon, G.startE, G.bls, G.wipeE, Q.evSVG2_0, Q.evSVG3_0, Q.evSVG4_0, Q.evSVG5_0, Q.evSVG6_0, Q.evSVG7_0, P.evN0, Bool.false_and])
local macro_rules | `(tactic| walk_at "evs") => `(tactic| simp (config := { decide := false }) only [seval, G.evB0, G.evB1, G.evB2, G.evB3, G.evB4, List.getElem?_set_self, List.length_set, List.set_set, List.map_cons, List.map_nil, List.length_cons, List.length_nil, List.replicate, List.cons_append, List.nil_append, List.getElem?_cons_zero, List.getElem?_cons_succ, List.set_cons_zero, List.set_cons_succ, Option.map_some, Option.map_none, Option.bind_some, Bool.not_true, Bool.not_false, if_true, if_false, decide_true, decide_false, Bool.false_eq_true, true_and, and_true, false_and, and_false, List.foldl_cons, List.foldl_nil, List.all_cons, List.all_nil, id_eq, Bool.and_true, Bool.true_and, eq_self, Bool.or_true, Bool.true_or, Bool.or_false, Bool.false_or, G.isNon, G.startE, G.bls, G.wipeE, Q.evSVG2_0, Q.evSVG3_0, Q.evSVG4_0, Q.evSVG5_0, Q.evSVG6_0, Q.evSVG7_0, P.evN0, Bool.false_and, *])
namespace Q
def Wild (v : D) : Prop := v = .int (10 ^ 40) ∨ v = .dic [] [] ∨ v = .dic [.str "0"] [.int 0]
structure Val (v : D) : Prop where
  any : anyD v = true
  bel : ∀ k, v.bel k = True
  shw : Sm 2000 6 v ∨ Wild v
def oddA : List D := [.non, .bl true, .bl false, .int 0, .int 1, .int 3, .int (-1), .int (10 ^ 40), .str "", .str "0", .str "0.0", .str "owner", .tup [], .tup [.int 0], .tup [.int 0, .int 0], .tup [.int 0, .bl true], .tup [.bl false, .int 0]]
def oddC : List D := [.tup [.tup [.int 0, .int 0], .lst [.str "owner", .int 0]], .tup [.tup [.int 0, .int 0], .tup [.str "role", .int 0]], .tup [.tup [.int 0, .int 0], .tup [.str "both", .tup [.int 0, .int 0], .tup [.int 0, .int 0]]], .tup [.tup [.str "a"]]]
end Q
end
section
open PySem L2 G P
open Q
local macro_rules | `(tactic| walk_at "ev") => `(tactic| simp (config := { decide := false }) only [seval, G.evB0, G.evB1, G.evB2, G.evB3, G.evB4, List.getElem?_set_self, List.length_set, List.set_set, List.map_cons, List.map_nil, List.length_cons, List.length_nil, List.replicate, List.cons_append, List.nil_append, List.getElem?_cons_zero, List.getElem?_cons_succ, List.set_cons_zero, List.set_cons_succ, Option.map_some, Option.map_none, Option.bind_some, Bool.not_true, Bool.not_false, if_true, if_false, decide_true, decide_false, Bool.false_eq_true, true_and, and_true, false_and, and_false, List.foldl_cons, List.foldl_nil, List.all_cons, List.all_nil, id_eq, Bool.and_true, Bool.true_and, eq_self, Bool.or_true, Bool.true_or, Bool.or_false, Bool.false_or, G.isNon, G.startE, G.bls, G.wipeE, Q.evSVG2_0, Q.evSVG3_0, Q.evSVG4_0, Q.evSVG5_0, Q.evSVG6_0, Q.evSVG7_0, P.evN0, Bool.false_and])
local macro_rules | `(tactic| walk_at "evs") => `(tactic| simp (config := { decide := false }) only [seval, G.evB0, G.evB1, G.evB2, G.evB3, G.evB4, List.getElem?_set_self, List.length_set, List.set_set, List.map_cons, List.map_nil, List.length_cons, List.length_nil, List.replicate, List.cons_append, List.nil_append, List.getElem?_cons_zero, List.getElem?_cons_succ, List.set_cons_zero, List.set_cons_succ, Option.map_some, Option.map_none, Option.bind_some, Bool.not_true, Bool.not_false, if_true, if_false, decide_true, decide_false, Bool.false_eq_true, true_and, and_true, false_and, and_false, List.foldl_cons, List.foldl_nil, List.all_cons, List.all_nil, id_eq, Bool.and_true, Bool.true_and, eq_self, Bool.or_true, Bool.true_or, Bool.or_false, Bool.false_or, G.isNon, G.startE, G.bls, G.wipeE, Q.evSVG2_0, Q.evSVG3_0, Q.evSVG4_0, Q.evSVG5_0, Q.evSVG6_0, Q.evSVG7_0, P.evN0, Bool.false_and, *])
namespace Q
def Shz (d : D) : Prop := ∃ z, ∀ S, dReprZ S [d] = some (.str z)
theorem shz_of {d : D} (h : ∃ z, ∀ S, dRepr S [d] = some (.str z)) : Shz d := by
  obtain ⟨z, hz⟩ := h
  exact ⟨z, fun S => dReprZ_of (hz S)⟩
theorem shz_pd {d : D} {p : PyData} (h0 : ∀ S, pdv S d = some p) (h : reprOk p) : Shz d := shz_of ⟨p.shown, fun S => by
  unfold dRepr
  simp only [h0 S]
  rw [if_pos h]⟩
end Q
end
section
open PySem L2 G P
open Q
local macro_rules | `(tactic| walk_at "ev") => `(tactic| simp (config := { decide := false }) only [seval, G.evB0, G.evB1, G.evB2, G.evB3, G.evB4, List.getElem?_set_self, List.length_set, List.set_set, List.map_cons, List.map_nil, List.length_cons, List.length_nil, List.replicate, List.cons_append, List.nil_append, List.getElem?_cons_zero, List.getElem?_cons_succ, List.set_cons_zero, List.set_cons_succ, Option.map_some, Option.map_none, Option.bind_some, Bool.not_true, Bool.not_false, if_true, if_false, decide_true, decide_false, Bool.false_eq_true, true_and, and_true, false_and, and_false, List.foldl_cons, List.foldl_nil, List.all_cons, List.all_nil, id_eq, Bool.and_true, Bool.true_and, eq_self, Bool.or_true, Bool.true_or, Bool.or_false, Bool.false_or, G.isNon, G.startE, G.bls, G.wipeE, Q.evSVG2_0, Q.evSVG3_0, Q.evSVG4_0, Q.evSVG5_0, Q.evSVG6_0, Q.evSVG7_0, P.evN0, Bool.false_and])
local macro_rules | `(tactic| walk_at "evs") => `(tactic| simp (config := { decide := false }) only [seval, G.evB0, G.evB1, G.evB2, G.evB3, G.evB4, List.getElem?_set_self, List.length_set, List.set_set, List.map_cons, List.map_nil, List.length_cons, List.length_nil, List.replicate, List.cons_append, List.nil_append, List.getElem?_cons_zero, List.getElem?_cons_succ, List.set_cons_zero, List.set_cons_succ, Option.map_some, Option.map_none, Option.bind_some, Bool.not_true, Bool.not_false, if_true, if_false, decide_true, decide_false, Bool.false_eq_true, true_and, and_true, false_and, and_false, List.foldl_cons, List.foldl_nil, List.all_cons, List.all_nil, id_eq, Bool.and_true, Bool.true_and, eq_self, Bool.or_true, Bool.true_or, Bool.or_false, Bool.false_or, G.isNon, G.startE, G.bls, G.wipeE, Q.evSVG2_0, Q.evSVG3_0, Q.evSVG4_0, Q.evSVG5_0, Q.evSVG6_0, Q.evSVG7_0, P.evN0, Bool.false_and, *])
namespace Q
theorem mMakeR_ap (c : Nat) (F : Fn) (r : MA) (en : En) (S : Sto) : mMakeR c F r en S = (r en S).bind (mkR c F) := rfl
section
variable {S S' : Sto} {b : Nat} {t : Stt} {ts : List Stt} {u : Str} {sn : List Stt}
theorem HasLk.put {i j : Nat} (h : HasLk S i) (hj : j ≠ i) (x : Ob) : HasLk (S.set j x) i := by
  obtain ⟨g, sm, c, e, k⟩ := h
  exact ⟨g, sm, c, by rw [List.getElem?_set_ne hj]; exact e, k⟩
end
end Q
local macro_rules | `(tactic| walk_at "ev") => `(tactic| simp (config := { decide := false }) only [seval, G.evB0, G.evB1, G.evB2, G.evB3, G.evB4, List.getElem?_set_self, List.length_set, List.set_set, List.map_cons, List.map_nil, List.length_cons, List.length_nil, List.replicate, List.cons_append, List.nil_append, List.getElem?_cons_zero, List.getElem?_cons_succ, List.set_cons_zero, List.set_cons_succ, Option.map_some, Option.map_none, Option.bind_some, Bool.not_true, Bool.not_false, if_true, if_false, decide_true, decide_false, Bool.false_eq_true, true_and, and_true, false_and, and_false, List.foldl_cons, List.foldl_nil, List.all_cons, List.all_nil, id_eq, Bool.and_true, Bool.true_and, eq_self, Bool.or_true, Bool.true_or, Bool.or_false, Bool.false_or, G.isNon, G.startE, G.bls, G.wipeE, Q.evSVG2_0, Q.evSVG3_0, Q.evSVG4_0, Q.evSVG5_0, Q.evSVG6_0, Q.evSVG7_0, P.evN0, Bool.false_and, mMakeR_ap])
local macro_rules | `(tactic| walk_at "evs") => `(tactic| simp (config := { decide := false }) only [seval, G.evB0, G.evB1, G.evB2, G.evB3, G.evB4, List.getElem?_set_self, List.length_set, List.set_set, List.map_cons, List.map_nil, List.length_cons, List.length_nil, List.replicate, List.cons_append, List.nil_append, List.getElem?_cons_zero, List.getElem?_cons_succ, List.set_cons_zero, List.set_cons_succ, Option.map_some, Option.map_none, Option.bind_some, Bool.not_true, Bool.not_false, if_true, if_false, decide_true, decide_false, Bool.false_eq_true, true_and, and_true, false_and, and_false, List.foldl_cons, List.foldl_nil, List.all_cons, List.all_nil, id_eq, Bool.and_true, Bool.true_and, eq_self, Bool.or_true, Bool.true_or, Bool.or_false, Bool.false_or, G.isNon, G.startE, G.bls, G.wipeE, Q.evSVG2_0, Q.evSVG3_0, Q.evSVG4_0, Q.evSVG5_0, Q.evSVG6_0, Q.evSVG7_0, P.evN0, Bool.false_and, mMakeR_ap, *])
namespace Q
end Q
end
section
open PySem L2 G P
open Q
local macro_rules | `(tactic| walk_at "ev") => `(tactic| simp (config := { decide := false }) only [seval, G.evB0, G.evB1, G.evB2, G.evB3, G.evB4, List.getElem?_set_self, List.length_set, List.set_set, List.map_cons, List.map_nil, List.length_cons, List.length_nil, List.replicate, List.cons_append, List.nil_append, List.getElem?_cons_zero, List.getElem?_cons_succ, List.set_cons_zero, List.set_cons_succ, Option.map_some, Option.map_none, Option.bind_some, Bool.not_true, Bool.not_false, if_true, if_false, decide_true, decide_false, Bool.false_eq_true, true_and, and_true, false_and, and_false, List.foldl_cons, List.foldl_nil, List.all_cons, List.all_nil, id_eq, Bool.and_true, Bool.true_and, eq_self, Bool.or_true, Bool.true_or, Bool.or_false, Bool.false_or, G.isNon, G.startE, G.bls, G.wipeE, Q.evSVG2_0, Q.evSVG3_0, Q.evSVG4_0, Q.evSVG5_0, Q.evSVG6_0, Q.evSVG7_0, P.evN0, Bool.false_and, mMakeR_ap])
local macro_rules | `(tactic| walk_at "evs") => `(tactic| simp (config := { decide := false }) only [seval, G.evB0, G.evB1, G.evB2, G.evB3, G.evB4, List.getElem?_set_self, List.length_set, List.set_set, List.map_cons, List.map_nil, List.length_cons, List.length_nil, List.replicate, List.cons_append, List.nil_append, List.getElem?_cons_zero, List.getElem?_cons_succ, List.set_cons_zero, List.set_cons_succ, Option.map_some, Option.map_none, Option.bind_some, Bool.not_true, Bool.not_false, if_true, if_false, decide_true, decide_false, Bool.false_eq_true, true_and, and_true, false_and, and_false, List.foldl_cons, List.foldl_nil, List.all_cons, List.all_nil, id_eq, Bool.and_true, Bool.true_and, eq_self, Bool.or_true, Bool.true_or, Bool.or_false, Bool.false_or, G.isNon, G.startE, G.bls, G.wipeE, Q.evSVG2_0, Q.evSVG3_0, Q.evSVG4_0, Q.evSVG5_0, Q.evSVG6_0, Q.evSVG7_0, P.evN0, Bool.false_and, mMakeR_ap, *])
namespace Q
theorem HasLk.app {S : Sto} {i : Nat} (h : HasLk S i) (T : Sto) : HasLk (S ++ T) i := by
  obtain ⟨g, sm, c, e, k⟩ := h
  exact ⟨g, sm, c, by rw [List.getElem?_append_left (List.getElem?_eq_some_iff.mp e).1]; exact e, k⟩
end Q
end
section
open PySem L2 G P
open Q
local macro_rules | `(tactic| walk_at "ev") => `(tactic| simp (config := { decide := false }) only [seval, G.evB0, G.evB1, G.evB2, G.evB3, G.evB4, List.getElem?_set_self, List.length_set, List.set_set, List.map_cons, List.map_nil, List.length_cons, List.length_nil, List.replicate, List.cons_append, List.nil_append, List.getElem?_cons_zero, List.getElem?_cons_succ, List.set_cons_zero, List.set_cons_succ, Option.map_some, Option.map_none, Option.bind_some, Bool.not_true, Bool.not_false, if_true, if_false, decide_true, decide_false, Bool.false_eq_true, true_and, and_true, false_and, and_false, List.foldl_cons, List.foldl_nil, List.all_cons, List.all_nil, id_eq, Bool.and_true, Bool.true_and, eq_self, Bool.or_true, Bool.true_or, Bool.or_false, Bool.false_or, G.isNon, G.startE, G.bls, G.wipeE, Q.evSVG2_0, Q.evSVG3_0, Q.evSVG4_0, Q.evSVG5_0, Q.evSVG6_0, Q.evSVG7_0, P.evN0, Bool.false_and])
local macro_rules | `(tactic| walk_at "evs") => `(tactic| simp (config := { decide := false }) only [seval, G.evB0, G.evB1, G.evB2, G.evB3, G.evB4, List.getElem?_set_self, List.length_set, List.set_set, List.map_cons, List.map_nil, List.length_cons, List.length_nil, List.replicate, List.cons_append, List.nil_append, List.getElem?_cons_zero, List.getElem?_cons_succ, List.set_cons_zero, List.set_cons_succ, Option.map_some, Option.map_none, Option.bind_some, Bool.not_true, Bool.not_false, if_true, if_false, decide_true, decide_false, Bool.false_eq_true, true_and, and_true, false_and, and_false, List.foldl_cons, List.foldl_nil, List.all_cons, List.all_nil, id_eq, Bool.and_true, Bool.true_and, eq_self, Bool.or_true, Bool.true_or, Bool.or_false, Bool.false_or, G.isNon, G.startE, G.bls, G.wipeE, Q.evSVG2_0, Q.evSVG3_0, Q.evSVG4_0, Q.evSVG5_0, Q.evSVG6_0, Q.evSVG7_0, P.evN0, Bool.false_and, *])
namespace Q
theorem mul_3 (S : Sto) (v : D) : dMul S (.lst [v]) (.int 3) = some (.lst [v, v, v]) := by
  unfold dMul
  simp only [seqL, plL]
  rfl
end Q
end
section
open PySem L2 G P
open Q
local macro_rules | `(tactic| walk_at "ev") => `(tactic| simp (config := { decide := false }) only [seval, G.evB0, G.evB1, G.evB2, G.evB3, G.evB4, List.getElem?_set_self, List.length_set, List.set_set, List.map_cons, List.map_nil, List.length_cons, List.length_nil, List.replicate, List.cons_append, List.nil_append, List.getElem?_cons_zero, List.getElem?_cons_succ, List.set_cons_zero, List.set_cons_succ, Option.map_some, Option.map_none, Option.bind_some, Bool.not_true, Bool.not_false, if_true, if_false, decide_true, decide_false, Bool.false_eq_true, true_and, and_true, false_and, and_false, List.foldl_cons, List.foldl_nil, List.all_cons, List.all_nil, id_eq, Bool.and_true, Bool.true_and, eq_self, Bool.or_true, Bool.true_or, Bool.or_false, Bool.false_or, G.isNon, G.startE, G.bls, G.wipeE, Q.evSVG2_0, Q.evSVG3_0, Q.evSVG4_0, Q.evSVG5_0, Q.evSVG6_0, Q.evSVG7_0, P.evN0, Bool.false_and])
local macro_rules | `(tactic| walk_at "evs") => `(tactic| simp (config := { decide := false }) only [seval, G.evB0, G.evB1, G.evB2, G.evB3, G.evB4, List.getElem?_set_self, List.length_set, List.set_set, List.map_cons, List.map_nil, List.length_cons, List.length_nil, List.replicate, List.cons_append, List.nil_append, List.getElem?_cons_zero, List.getElem?_cons_succ, List.set_cons_zero, List.set_cons_succ, Option.map_some, Option.map_none, Option.bind_some, Bool.not_true, Bool.not_false, if_true, if_false, decide_true, decide_false, Bool.false_eq_true, true_and, and_true, false_and, and_false, List.foldl_cons, List.foldl_nil, List.all_cons, List.all_nil, id_eq, Bool.and_true, Bool.true_and, eq_self, Bool.or_true, Bool.true_or, Bool.or_false, Bool.false_or, G.isNon, G.startE, G.bls, G.wipeE, Q.evSVG2_0, Q.evSVG3_0, Q.evSVG4_0, Q.evSVG5_0, Q.evSVG6_0, Q.evSVG7_0, P.evN0, Bool.false_and, *])
namespace Q
mutual
theorem pd_z : ∀ (d : D) (p : PyData), pd d = some p → ∀ f, pdzW f d = some p
  | .non, p, h, f => by simp only [pd] at h; simp only [pdzW]; exact h
  | .bl b, p, h, f => by simp only [pd] at h; simp only [pdzW]; exact h
  | .int i, p, h, f => by simp only [pd] at h; simp only [pdzW]; exact h
  | .str x, p, h, f => by simp only [pd] at h; simp only [pdzW]; exact h
  | .tup ds, p, h, f => by
    simp only [pd] at h
    simp only [pdzW]
    cases e : pds ds with
    | none => rw [e] at h; cases h
    | some ps => rw [pds_z ds ps e f, ← e]; exact h
  | .ktp ds, p, h, f => by
    simp only [pd] at h
    simp only [pdzW]
    cases e : pds ds with
    | none => rw [e] at h; cases h
    | some ps => rw [pds_z ds ps e f, ← e]; exact h
  | .lst ds, p, h, f => by
    simp only [pd] at h
    simp only [pdzW]
    cases e : pds ds with
    | none => rw [e] at h; cases h
    | some ps => rw [pds_z ds ps e f, ← e]; exact h
  | .scr ds, p, h, f => by
    simp only [pd] at h
    simp only [pdzW]
    cases e : pds ds with
    | none => rw [e] at h; cases h
    | some ps => rw [pds_z ds ps e f, ← e]; exact h
  | .dic _ _, p, h, f => by simp [pd] at h
  | .ins _ _ _, p, h, f => by simp [pd] at h
  | .ref _, p, h, f => by simp [pd] at h
  | .fn _, p, h, f => by simp [pd] at h
  | .ty _, p, h, f => by simp [pd] at h
  | .cl _, p, h, f => by simp [pd] at h
  | .lam _ _ _ _ _, p, h, f => by simp [pd] at h
theorem pds_z : ∀ (ds : List D) (ps : List PyData), pds ds = some ps → ∀ f, pdzsW f ds = some ps
  | [], ps, h, f => by simp only [pds] at h; simp only [pdzsW]; exact h
  | d :: r, ps, h, f => by
    simp only [pds] at h
    cases e1 : pd d with
    | none => rw [e1] at h; cases h
    | some p =>
      cases e2 : pds r with
      | none => rw [e1, e2] at h; cases h
      | some q =>
        rw [e1, e2] at h
        simp only [pdzsW, pd_z d p e1 f, pds_z r q e2 f]
        exact h
end
structure Vz (w dp : Nat) (d : D) : Prop where
  any : anyD d = true
  bel : ∀ k, D.bel k d = True
  ex : ∃ p : PyData, (∀ f, pdzW f d = some p) ∧ PyData.leavesShort 80 p = true ∧ p.showable = true ∧ p.weight ≤ w ∧ p.depth ≤ dp
theorem Vz.mono {w w' dp dp' : Nat} {d : D} (h : Vz w dp d) (h1 : w ≤ w') (h2 : dp ≤ dp') : Vz w' dp' d := by
  obtain ⟨a, b, p, z, l, s, e, f⟩ := h
  exact ⟨a, b, p, z, l, s, by omega, by omega⟩
theorem vz_list {w dp : Nat} : ∀ {ds : List D}, (∀ d ∈ ds, Vz w dp d) → anyDs ds = true ∧ (∀ k, D.bels k ds = True) ∧ ∃ ps : List PyData, (∀ f, pdzsW f ds = some ps) ∧ PyData.leavesShortAll 80 ps = true ∧ PyData.showableAll ps = true ∧ PyData.weightAll ps ≤ ds.length * (w + 1) ∧ PyData.depthAll ps ≤ dp
  | [], _ => ⟨rfl, fun k => by simp only [D.bels], [], fun f => by simp only [pdzsW], by simp only [PyData.leavesShortAll], by simp only [PyData.showableAll], by simp [PyData.weightAll], by simp [PyData.depthAll]⟩
  | d :: r, h => by
    obtain ⟨a, b, p, z, l, s, e, f⟩ := h d List.mem_cons_self
    obtain ⟨a2, b2, ps, z2, l2, s2, e2, f2⟩ := vz_list fun x hx => h x (List.mem_cons_of_mem _ hx)
    refine ⟨by simp only [anyDs, a, a2, Bool.and_self], fun k => by simp only [D.bels, b, b2, and_self], p :: ps, fun f => by simp only [pdzsW, z, z2], by simp only [PyData.leavesShortAll, l, l2, Bool.and_self], by simp only [PyData.showableAll, s, s2, Bool.and_self], ?_, ?_⟩
    · simp only [PyData.weightAll, List.length_cons, Nat.add_mul]
      omega
    · simp only [PyData.depthAll]
      omega
theorem Vz.tup {w dp n : Nat} {ds : List D} (h : ∀ d ∈ ds, Vz w dp d) (hn : ds.length ≤ n) (h1 : n ≤ 1000) : Vz (n * (w + 1)) (dp + 1) (.tup ds) := by
  obtain ⟨a, b, ps, z, l, s, e, f⟩ := vz_list h
  have m : ds.length * (w + 1) ≤ n * (w + 1) := Nat.mul_le_mul_right _ hn
  exact ⟨by simp only [anyD, a, Bool.true_and]; exact decide_eq_true (by omega), fun k => by simp only [D.bel, b], .tuple ps, fun f => by simp only [pdzW, z, Option.map_some], by simp only [PyData.leavesShort, l], by simp only [PyData.showable, s], by simp only [PyData.weight]; omega, by simp only [PyData.depth]; omega⟩
theorem Vz.lst {w dp n : Nat} {ds : List D} (h : ∀ d ∈ ds, Vz w dp d) (hn : ds.length ≤ n) : Vz (n * (w + 1)) (dp + 1) (.lst ds) := by
  obtain ⟨a, b, ps, z, l, s, e, f⟩ := vz_list h
  have m : ds.length * (w + 1) ≤ n * (w + 1) := Nat.mul_le_mul_right _ hn
  exact ⟨by simp only [anyD, a], fun k => by simp only [D.bel, b], .list ps, fun f => by simp only [pdzW, z, Option.map_some], by simp only [PyData.leavesShort, l], by simp only [PyData.showable, s], by simp only [PyData.weight]; omega, by simp only [PyData.depth]; omega⟩
theorem vz_nat {n : Nat} (h : n ≤ 1000000) : Vz 64 0 (.int (n : Nat)) := by
  have l := PySem.PyData.shown_int_le2 (i := (n : Int)) (by omega) (by omega)
  have g := int_log (i := (n : Int)) (by omega) (by omega)
  refine ⟨rfl, fun k => by simp only [D.bel], .int n, fun f => by simp only [pdzW], ?_, by simp only [PyData.showable]; exact decide_eq_true (by omega), ?_, by simp only [PyData.depth]; exact Nat.le_refl _⟩
  · simp only [PyData.leavesShort]
    exact decide_eq_true (by omega)
  · simp only [PyData.weight]
    split <;> omega
end Q
end
section
open PySem L2 G P
open Q
local macro_rules | `(tactic| walk_at "ev") => `(tactic| simp (config := { decide := false }) only [seval, G.evB0, G.evB1, G.evB2, G.evB3, G.evB4, List.getElem?_set_self, List.length_set, List.set_set, List.map_cons, List.map_nil, List.length_cons, List.length_nil, List.replicate, List.cons_append, List.nil_append, List.getElem?_cons_zero, List.getElem?_cons_succ, List.set_cons_zero, List.set_cons_succ, Option.map_some, Option.map_none, Option.bind_some, Bool.not_true, Bool.not_false, if_true, if_false, decide_true, decide_false, Bool.false_eq_true, true_and, and_true, false_and, and_false, List.foldl_cons, List.foldl_nil, List.all_cons, List.all_nil, id_eq, Bool.and_true, Bool.true_and, eq_self, Bool.or_true, Bool.true_or, Bool.or_false, Bool.false_or, G.isNon, G.startE, G.bls, G.wipeE, Q.evSVG2_0, Q.evSVG3_0, Q.evSVG4_0, Q.evSVG5_0, Q.evSVG6_0, Q.evSVG7_0, P.evN0, Bool.false_and])
local macro_rules | `(tactic| walk_at "evs") => `(tactic| simp (config := { decide := false }) only [seval, G.evB0, G.evB1, G.evB2, G.evB3, G.evB4, List.getElem?_set_self, List.length_set, List.set_set, List.map_cons, List.map_nil, List.length_cons, List.length_nil, List.replicate, List.cons_append, List.nil_append, List.getElem?_cons_zero, List.getElem?_cons_succ, List.set_cons_zero, List.set_cons_succ, Option.map_some, Option.map_none, Option.bind_some, Bool.not_true, Bool.not_false, if_true, if_false, decide_true, decide_false, Bool.false_eq_true, true_and, and_true, false_and, and_false, List.foldl_cons, List.foldl_nil, List.all_cons, List.all_nil, id_eq, Bool.and_true, Bool.true_and, eq_self, Bool.or_true, Bool.true_or, Bool.or_false, Bool.false_or, G.isNon, G.startE, G.bls, G.wipeE, Q.evSVG2_0, Q.evSVG3_0, Q.evSVG4_0, Q.evSVG5_0, Q.evSVG6_0, Q.evSVG7_0, P.evN0, Bool.false_and, *])
namespace Q
def oddX2 : List D := [.tup [.int 9, .int 9], .tup [.int (-1), .int 0], .dic [] [], .dic [.str "0"] [.int 0], .tup [.tup [.int 0, .int 0]], .tup [.tup [.int 0, .int 0], .tup [.str "owner"]], .tup [.tup [.int 0, .int 0], .tup [.str "owner", .int 99]], .tup [.lst [.int 0], .int 0]]
def oddW : List D := oddA ++ oddX2 ++ oddC
theorem vz_oddW : ∀ d ∈ oddW, Vz 300 5 d := by
  intro d hd
  have B : ∀ k, d.bel k = True := by
    intro k
    simp only [oddW, oddA, oddX2, oddC, List.mem_append, List.mem_cons, List.not_mem_nil, or_false] at hd
    rcases hd with ((rfl | rfl | rfl | rfl | rfl | rfl | rfl | rfl | rfl | rfl | rfl | rfl | rfl | rfl | rfl | rfl | rfl) | rfl | rfl | rfl | rfl | rfl | rfl | rfl | rfl) | rfl | rfl | rfl | rfl <;> simp only [D.bel, D.bels, and_self]
  simp only [oddW, oddA, oddX2, oddC, List.mem_append, List.mem_cons, List.not_mem_nil, or_false] at hd
  rcases hd with ((rfl | rfl | rfl | rfl | rfl | rfl | rfl | rfl | rfl | rfl | rfl | rfl | rfl | rfl | rfl | rfl | rfl) | rfl | rfl | rfl | rfl | rfl | rfl | rfl | rfl) | rfl | rfl | rfl | rfl <;>
    exact ⟨by decide +kernel, B, _, fun f => rfl, by decide +kernel, by decide +kernel, by decide +kernel, by decide +kernel⟩
def Zs (S : Sto) (k w dp : Nat) (d : D) : Prop := ∃ p : PyData, (∀ n, k ≤ n → pdzW (pdzR S n) d = some p) ∧ PyData.leavesShort 80 p = true ∧ p.showable = true ∧ p.weight ≤ w ∧ p.depth ≤ dp
theorem Zs.mono {S : Sto} {k k' w w' dp dp' : Nat} {d : D} (h : Zs S k w dp d) (h0 : k ≤ k') (h1 : w ≤ w') (h2 : dp ≤ dp') : Zs S k' w' dp' d := by
  obtain ⟨p, z, l, s, e, f⟩ := h
  exact ⟨p, fun n hn => z n (by omega), l, s, by omega, by omega⟩
theorem Vz.zs {S : Sto} {w dp : Nat} {d : D} (h : Vz w dp d) : Zs S 0 w dp d := by
  obtain ⟨_, _, p, z, l, s, e, f⟩ := h
  exact ⟨p, fun n _ => z _, l, s, e, f⟩
theorem zs_list {S : Sto} {k w dp : Nat} : ∀ {ds : List D}, (∀ d ∈ ds, Zs S k w dp d) → ∃ ps : List PyData, (∀ n, k ≤ n → pdzsW (pdzR S n) ds = some ps) ∧ PyData.leavesShortAll 80 ps = true ∧ PyData.showableAll ps = true ∧ PyData.weightAll ps ≤ ds.length * (w + 1) ∧ PyData.depthAll ps ≤ dp
  | [], _ => ⟨[], fun f _ => by simp only [pdzsW], by simp only [PyData.leavesShortAll], by simp only [PyData.showableAll], by simp [PyData.weightAll], by simp [PyData.depthAll]⟩
  | d :: r, h => by
    obtain ⟨p, z, l, s, e, f⟩ := h d List.mem_cons_self
    obtain ⟨ps, z2, l2, s2, e2, f2⟩ := zs_list fun x hx => h x (List.mem_cons_of_mem _ hx)
    refine ⟨p :: ps, fun n hn => by simp only [pdzsW, z n hn, z2 n hn], by simp only [PyData.leavesShortAll, l, l2, Bool.and_self], by simp only [PyData.showableAll, s, s2, Bool.and_self], ?_, ?_⟩
    · simp only [PyData.weightAll, List.length_cons, Nat.add_mul]
      omega
    · simp only [PyData.depthAll]
      omega
theorem zs_ref {S : Sto} {k w dp n j : Nat} {ds : List D} (hj : S[j]? = some (.lst ds)) (h : ∀ d ∈ ds, Zs S k w dp d) (hn : ds.length ≤ n) : Zs S (k + 1) (n * (w + 1)) (dp + 1) (.ref j) := by
  obtain ⟨ps, z, l, s, e, f⟩ := zs_list h
  have m : ds.length * (w + 1) ≤ n * (w + 1) := Nat.mul_le_mul_right _ hn
  refine ⟨.list ps, fun n hn => ?_, by simp only [PyData.leavesShort, l], by simp only [PyData.showable, s], by simp only [PyData.weight]; omega, by simp only [PyData.depth]; omega⟩
  match n, hn with
  | n + 1, hn => simp only [pdzW, pdzR, hj, z n (by omega), Option.map_some]
theorem reprZ_of {S : Sto} {d : D} {p : PyData} (h : pdz S d = some p) (hr : isRf d = true) (ok : showOk p) (hv : ∀ q, pdv S d = some q → q = p) : dReprZ S [d] = some (.str p.shown) := by
  have e0 : dRepr S [d] = match pdv S d with
      | some p => if reprOk p then some (.str p.shown) else none
      | none => none := rfl
  have e : dRepr S [d] = none ∨ dRepr S [d] = some (.str p.shown) := by
    rw [e0]
    cases hp : pdv S d with
    | none => exact .inl rfl
    | some q =>
      obtain rfl := hv q hp
      by_cases r : reprOk q
      · exact .inr (if_pos r)
      · exact .inl (if_neg r)
  unfold dReprZ
  rcases e with e | e
  · rw [e]
    simp only [reprZ1, h]
    rw [if_pos ⟨hr, ok⟩]
  · rw [e]
theorem repr_both {S : Sto} {k w dp : Nat} {ds : List D} (h : ∀ d ∈ ds, Zs S k w dp d) (hk : k ≤ 5) (h1 : ds.length * (w + 1) ≤ 190000) (h2 : dp ≤ 50) :
    ∃ z, dReprZ S [.lst ds] = some (.str z) ∧ ∀ q, S[q]? = some (.lst ds) → dReprZ S [.ref q] = some (.str z) := by
  obtain ⟨ps, z, l, s, e, f⟩ := zs_list h
  have ok : showOk (.list ps) := by
    have ls : PyData.leavesShort 80 (.list ps) = true := by simp only [PyData.leavesShort, l]
    refine ⟨by simp only [PyData.showable, s], ?_, by simp only [PyData.depth]; omega⟩
    have := PyData.shown_le 80 (by decide) (.list ps) ls
    have big : (80 + 2) * 200000 + 80 ≤ sizeLine := by decide
    have wt : (PyData.list ps).weight ≤ 200000 := by simp only [PyData.weight]; omega
    have : (80 + 2) * (PyData.list ps).weight ≤ (80 + 2) * 200000 := Nat.mul_le_mul_left _ wt
    omega
  have pv : ∀ q, (pds ds).map PyData.list = some q → q = .list ps := fun q hq => by
    obtain ⟨qs, hqs, rfl⟩ := Option.map_eq_some_iff.mp hq
    have := pds_z ds qs hqs (pdzR S 5)
    rw [z 5 hk] at this
    cases this
    rfl
  refine ⟨(PyData.list ps).shown, reprZ_of ?_ rfl ok ?_, fun q hq => reprZ_of ?_ rfl ok ?_⟩
  · simp only [pdz, pdzW, z 6 (by omega), Option.map_some]
  · exact fun q hq => pv q hq
  · have e6 : pdz S (.ref q) = match S[q]? with
        | some (.lst ds) => (pdzsW (pdzR S 5) ds).map .list
        | _ => none := rfl
    rw [e6, hq]
    simp only [z 5 hk, Option.map_some]
  · intro q' hq'
    simp only [pdv, seqL, hq] at hq'
    exact pv q' hq'
def Ls (S : Sto) (j : Nat) (d : D) : Prop := d ∈ oddW ∨ ∃ i es, 0 < i ∧ i ≠ j ∧ d = .ref i ∧ S[i]? = some (.lst es) ∧ es.length ≤ 3 ∧ ∀ y ∈ es, y ∈ oddW
theorem Ls.zs {S : Sto} {j : Nat} {d : D} (h : Ls S j d) : Zs S 1 903 6 d := by
  rcases h with h | ⟨i, es, _, _, rfl, hi, hl, hv⟩
  · exact ((vz_oddW d h).zs).mono (by decide) (by decide) (by decide)
  · exact zs_ref (n := 3) hi (fun y hy => (vz_oddW y (hv y hy)).zs) hl
theorem Ls.app {S : Sto} {j : Nat} {d : D} (h : Ls S j d) (G : Sto) : Ls (S ++ G) j d := by
  rcases h with h | ⟨i, es, h0, hn, rfl, hi, hl, hv⟩
  · exact .inl h
  · exact .inr ⟨i, es, h0, hn, rfl, by rw [List.getElem?_append_left (List.getElem?_eq_some_iff.mp hi).1]; exact hi, hl, hv⟩
theorem Ls.lk {S S' : Sto} {j : Nat} {d : D} (h : Ls S j d) (t : LkTo S 0 S') : Ls S' j d := by
  rcases h with h | ⟨i, es, h0, hn, rfl, hi, hl, hv⟩
  · exact .inl h
  · exact .inr ⟨i, es, h0, hn, rfl, by rw [t.get (by omega)]; exact hi, hl, hv⟩
theorem Ls.put {S : Sto} {j : Nat} {d : D} (h : Ls S j d) (b : Ob) : Ls (S.set j b) j d := by
  rcases h with h | ⟨i, es, h0, hn, rfl, hi, hl, hv⟩
  · exact .inl h
  · exact .inr ⟨i, es, h0, hn, rfl, by rw [List.getElem?_set_ne (by omega)]; exact hi, hl, hv⟩
def Tw (S : Sto) (d : D) : Prop := d ∈ oddW ∨ ∃ j ds, 0 < j ∧ d = .ref j ∧ S[j]? = some (.lst ds) ∧ ds.length ≤ 3 ∧ ∀ x ∈ ds, Ls S j x
theorem Tw.zs {S : Sto} {d : D} (h : Tw S d) : Zs S 2 2712 7 d := by
  rcases h with h | ⟨j, ds, _, rfl, hj, hl, hv⟩
  · exact ((vz_oddW d h).zs).mono (by decide) (by decide) (by decide)
  · exact zs_ref (n := 3) hj (fun y hy => (hv y hy).zs) hl
theorem Tw.app {S : Sto} {d : D} (h : Tw S d) (G : Sto) : Tw (S ++ G) d := by
  rcases h with h | ⟨j, ds, h0, rfl, hj, hl, hv⟩
  · exact .inl h
  · exact .inr ⟨j, ds, h0, rfl, by rw [List.getElem?_append_left (List.getElem?_eq_some_iff.mp hj).1]; exact hj, hl, fun x hx => (hv x hx).app G⟩
theorem Tw.lk {S S' : Sto} {d : D} (h : Tw S d) (t : LkTo S 0 S') : Tw S' d := by
  rcases h with h | ⟨j, ds, h0, rfl, hj, hl, hv⟩
  · exact .inl h
  · exact .inr ⟨j, ds, h0, rfl, by rw [t.get (by omega)]; exact hj, hl, fun x hx => (hv x hx).lk t⟩
theorem drop_lk1 {S : Sto} {i : Nat} {r : Res D} {Q : D → Prop} (hb : ∀ d, Q d → d.bel S.length) (hr : Wp r fun d S' => Q d ∧ LkTo S i S') : Wp (r.drop S) fun d S' => Q d ∧ LkTo S i S' := by
  rw [Wp_drop]
  refine hr.mono ?_
  rintro d S' ⟨q, t⟩
  refine ⟨⟨t.cl, hb d q⟩, q, ?_⟩
  rw [List.take_of_length_le (by rw [t.len]; exact Nat.le_refl _)]
  exact t
end Q
local macro_rules | `(tactic| walk_at "ev") => `(tactic| simp (config := { decide := false }) only [seval, G.evB0, G.evB1, G.evB2, G.evB3, G.evB4, List.getElem?_set_self, List.length_set, List.set_set, List.map_cons, List.map_nil, List.length_cons, List.length_nil, List.replicate, List.cons_append, List.nil_append, List.getElem?_cons_zero, List.getElem?_cons_succ, List.set_cons_zero, List.set_cons_succ, Option.map_some, Option.map_none, Option.bind_some, Bool.not_true, Bool.not_false, if_true, if_false, decide_true, decide_false, Bool.false_eq_true, true_and, and_true, false_and, and_false, List.foldl_cons, List.foldl_nil, List.all_cons, List.all_nil, id_eq, Bool.and_true, Bool.true_and, eq_self, Bool.or_true, Bool.true_or, Bool.or_false, Bool.false_or, G.isNon, G.startE, G.bls, G.wipeE, Q.evSVG2_0, Q.evSVG3_0, Q.evSVG4_0, Q.evSVG5_0, Q.evSVG6_0, Q.evSVG7_0, P.evN0, Bool.false_and, add_lst])
local macro_rules | `(tactic| walk_at "evs") => `(tactic| simp (config := { decide := false }) only [seval, G.evB0, G.evB1, G.evB2, G.evB3, G.evB4, List.getElem?_set_self, List.length_set, List.set_set, List.map_cons, List.map_nil, List.length_cons, List.length_nil, List.replicate, List.cons_append, List.nil_append, List.getElem?_cons_zero, List.getElem?_cons_succ, List.set_cons_zero, List.set_cons_succ, Option.map_some, Option.map_none, Option.bind_some, Bool.not_true, Bool.not_false, if_true, if_false, decide_true, decide_false, Bool.false_eq_true, true_and, and_true, false_and, and_false, List.foldl_cons, List.foldl_nil, List.all_cons, List.all_nil, id_eq, Bool.and_true, Bool.true_and, eq_self, Bool.or_true, Bool.true_or, Bool.or_false, Bool.false_or, G.isNon, G.startE, G.bls, G.wipeE, Q.evSVG2_0, Q.evSVG3_0, Q.evSVG4_0, Q.evSVG5_0, Q.evSVG6_0, Q.evSVG7_0, P.evN0, Bool.false_and, add_lst, *])
namespace Q
theorem pick_lst1 {S : Sto} {i : Nat} {ds : List D} (hS : HasLk S i) (h1 : 0 < ds.length) (h2 : ds.length ≤ 1000000) (hb : ∀ d ∈ ds, d.bel S.length) :
    Wp (fn_law_pick.run [.ref i, .lst ds] S) fun d S' => d ∈ ds ∧ LkTo S i S' := by
  have hL : dLen S [.lst ds] = some (.int ds.length) := rfl
  unfold fn_law_pick ms_law_pick
  rw [dropF_run]
  refine drop_lk1 (fun d hd => hb d hd) ?_
  walk_at "evs"
  refine (take_lk hS h1 h2).mono ?_
  rintro _ S1 ⟨⟨r, rfl, hr⟩, t1⟩
  have e : dIdxA S1 (.lst ds) (.int r) = some ds[r] := by rw [dIdxA_lst]; exact atI_at (by omega) (by rw [Int.toNat_natCast]; exact List.getElem?_eq_getElem hr)
  walk_at "evs"
  exact List.getElem_mem hr
def twoL : Sto := [.lst [.int 0, .int 0], .lst []]
theorem odd56 {S : Sto} (hS : HasLk S 0) : Wp (fn_law_oddX.run [.ref 0] S) fun d S' => (d ∈ oddW ∨ d = .ref S.length ∨ d = .ref (S.length + 1)) ∧ LkTo (S ++ twoL) 0 S' := by
  have hS2 : HasLk (S ++ twoL) 0 := hS.app _
  have p2 : ∀ S, dPow S (.int 10) (.int 40) = some (.int (10 ^ 40)) := fun S => dPow_int (show CPow _ _ from ⟨by decide, by decide, by decide⟩)
  unfold fn_law_oddX ms_law_oddX
  rw [fnB_run, Wp_bind]
  refine Wp_cut fun K hK => ?_
  rw [sAsg_ap]
  walk_at "ev"
  rw [p2]
  walk_at "ev"
  refine hK [some (.ref 0), some (.lst oddA)] _ ?_
  clear hK K p2
  have lA : oddA.length = 17 := rfl
  generalize hA : oddA = A at lA
  refine Wp_cut fun K hK => ?_
  walk_at "ev"
  rw [add_lst]
  rotate_left
  · simp only [List.length_cons, List.length_nil]; omega
  walk_at "ev"
  refine hK _ _ ?_
  clear hK K
  generalize hB : A ++ [D.tup [D.int 9, D.int 9], D.tup [D.int (-1), D.int 0], D.ref (List.length S), D.ref (List.length S + 1), D.dic [] [], D.dic [D.str (Str.ofString "0")] [D.int 0], D.tup [D.tup [D.int 0, D.int 0]], D.tup [D.tup [D.int 0, D.int 0], D.tup [D.str (Str.ofString "owner")]], D.tup [D.tup [D.int 0, D.int 0], D.tup [D.str (Str.ofString "owner"), D.int 99]], D.tup [D.lst [D.int 0], D.int 0]] = B
  have lB : B.length = 27 := by rw [← hB, List.length_append, lA]; rfl
  walk_at "ev"
  rw [add_lst]
  rotate_left
  · simp only [List.length_cons, List.length_nil]; omega
  walk_at "ev"
  have sub : ∀ d ∈ B ++ oddC, d ∈ oddW ∨ d = .ref S.length ∨ d = .ref (S.length + 1) := by
    intro d hd
    rcases List.mem_append.mp hd with h | h
    · rw [← hB] at h
      rcases List.mem_append.mp h with h | h
      · exact .inl (List.mem_append_left _ (List.mem_append_left _ (by rw [hA]; exact h)))
      · have key : d ∈ oddX2 ∨ d = .ref S.length ∨ d = .ref (S.length + 1) := by
          simp only [List.mem_cons, List.not_mem_nil, or_false] at h
          rcases h with rfl | rfl | rfl | rfl | rfl | rfl | rfl | rfl | rfl | rfl <;> first | exact .inr (.inl rfl) | exact .inr (.inr rfl) | exact .inl (by simp [oddX2])
        rcases key with h | h | h
        · exact .inl (List.mem_append_left _ (List.mem_append_right _ h))
        · exact .inr (.inl h)
        · exact .inr (.inr h)
    · exact .inl (List.mem_append_right _ h)
  refine (pick_lst1 (S := S ++ twoL) (ds := B ++ oddC) hS2 (by rw [List.length_append]; omega) (by simp [lB, oddC]) fun d hd => ?_).mono ?_
  · rcases sub d hd with h | rfl | rfl
    · rw [(vz_oddW d h).bel]; trivial
    · simp [D.bel, twoL]
    · simp [D.bel, twoL]
  · rintro d S2 ⟨hd, h2⟩
    exact ⟨sub d hd, h2⟩
end Q
end
section
open PySem L2 G P
open Q
local macro_rules | `(tactic| walk_at "ev") => `(tactic| simp (config := { decide := false }) only [seval, G.evB0, G.evB1, G.evB2, G.evB3, G.evB4, List.getElem?_set_self, List.length_set, List.set_set, List.map_cons, List.map_nil, List.length_cons, List.length_nil, List.replicate, List.cons_append, List.nil_append, List.getElem?_cons_zero, List.getElem?_cons_succ, List.set_cons_zero, List.set_cons_succ, Option.map_some, Option.map_none, Option.bind_some, Bool.not_true, Bool.not_false, if_true, if_false, decide_true, decide_false, Bool.false_eq_true, true_and, and_true, false_and, and_false, List.foldl_cons, List.foldl_nil, List.all_cons, List.all_nil, id_eq, Bool.and_true, Bool.true_and, eq_self, Bool.or_true, Bool.true_or, Bool.or_false, Bool.false_or, G.isNon, G.startE, G.bls, G.wipeE, Q.evSVG2_0, Q.evSVG3_0, Q.evSVG4_0, Q.evSVG5_0, Q.evSVG6_0, Q.evSVG7_0, P.evN0, Bool.false_and, mExcV_ap, excK_ok, mFldX_ap, mIsX_ap])
local macro_rules | `(tactic| walk_at "evs") => `(tactic| simp (config := { decide := false }) only [seval, G.evB0, G.evB1, G.evB2, G.evB3, G.evB4, List.getElem?_set_self, List.length_set, List.set_set, List.map_cons, List.map_nil, List.length_cons, List.length_nil, List.replicate, List.cons_append, List.nil_append, List.getElem?_cons_zero, List.getElem?_cons_succ, List.set_cons_zero, List.set_cons_succ, Option.map_some, Option.map_none, Option.bind_some, Bool.not_true, Bool.not_false, if_true, if_false, decide_true, decide_false, Bool.false_eq_true, true_and, and_true, false_and, and_false, List.foldl_cons, List.foldl_nil, List.all_cons, List.all_nil, id_eq, Bool.and_true, Bool.true_and, eq_self, Bool.or_true, Bool.true_or, Bool.or_false, Bool.false_or, G.isNon, G.startE, G.bls, G.wipeE, Q.evSVG2_0, Q.evSVG3_0, Q.evSVG4_0, Q.evSVG5_0, Q.evSVG6_0, Q.evSVG7_0, P.evN0, Bool.false_and, mExcV_ap, excK_ok, mFldX_ap, mIsX_ap, *])
namespace Q
def excsA (one two : D) : List Ob := [.exc 11 ["value"] [two], .exc 12 ["word"] [two], .exc 13 ["word", "number"] [two, one], .exc 14 ["mark"] [two], .exc 15 ["number", "line"] [two, one], .exc 16 ["role"] [two], .exc 17 [] []]
def excsB (two : D) : List Ob := [.exc 18 [] [], .exc 19 [] [], .exc 20 [] [], .exc 21 ["limit"] [two], .exc 22 [] [], .exc 23 ["number"] [two]]
def Hs (T : Sto) (n : Nat) (one two : D) : Prop := ∀ k < 13, T[n + k]? = (excsA one two ++ excsB two)[k]?
theorem Hs.app {T : Sto} {n : Nat} {one two : D} (h : Hs T n one two) (G : Sto) : Hs (T ++ G) n one two := fun k hk => by
  have e := h k hk
  have lt : k < (excsA one two ++ excsB two).length := hk
  rw [List.getElem?_append_left (List.getElem?_eq_some_iff.mp (e.trans (List.getElem?_eq_getElem lt))).1]
  exact e
theorem Hs.put {T : Sto} {n j : Nat} {one two : D} (h : Hs T n one two) (b : Ob) (hj : j < n ∨ n + 13 ≤ j) : Hs (T.set j b) n one two := fun k hk => by rw [List.getElem?_set_ne (by omega)]; exact h k hk
theorem exc_new {S : Sto} {one two : D} : Hs (S ++ (excsA one two ++ excsB two)) S.length one two := fun k hk => by
  rw [List.getElem?_append_right (by omega), show S.length + k - S.length = k by omega]
theorem fldO_2 (f g : Str) (d e : D) (S : Sto) (h : (g = f) = False) : fldO f [g, f] [d, e] S = .ok e S := by
  unfold fldO
  rw [lookF, if_neg (by rw [h]; exact id), lookF, if_pos rfl]
theorem Hs.flds {T : Sto} {n : Nat} {one two : D} (h : Hs T n one two) :
    (xfldK [11] "value" (.ref n) T = .ok two T ∧ xfldK [12, 13] "word" (.ref (n + 1)) T = .ok two T ∧ xfldK [12, 13] "word" (.ref (n + 2)) T = .ok two T ∧ xfldK [14] "mark" (.ref (n + 3)) T = .ok two T) ∧
    (xfldK [13, 15, 23] "number" (.ref (n + 4)) T = .ok two T ∧ xfldK [16] "role" (.ref (n + 5)) T = .ok two T ∧ xfldK [21] "limit" (.ref (n + 10)) T = .ok two T ∧ xfldK [13, 15, 23] "number" (.ref (n + 12)) T = .ok two T) ∧
    xfldK [13, 15, 23] "number" (.ref (n + 2)) T = .ok one T ∧ xfldK [15] "line" (.ref (n + 4)) T = .ok one T := by
  refine ⟨⟨?_, ?_, ?_, ?_⟩, ⟨?_, ?_, ?_, ?_⟩, ?_, ?_⟩
  · exact (xfldK_ok (h 0 (by decide)) (by decide)).trans (fldO_hd ..)
  · exact (xfldK_ok (h 1 (by decide)) (by decide)).trans (fldO_hd ..)
  · exact (xfldK_ok (h 2 (by decide)) (by decide)).trans (fldO_hd ..)
  · exact (xfldK_ok (h 3 (by decide)) (by decide)).trans (fldO_hd ..)
  · exact (xfldK_ok (h 4 (by decide)) (by decide)).trans (fldO_hd ..)
  · exact (xfldK_ok (h 5 (by decide)) (by decide)).trans (fldO_hd ..)
  · exact (xfldK_ok (h 10 (by decide)) (by decide)).trans (fldO_hd ..)
  · exact (xfldK_ok (h 12 (by decide)) (by decide)).trans (fldO_hd ..)
  · exact (xfldK_ok (h 2 (by decide)) (by decide)).trans (fldO_2 _ _ _ _ _ (by decide +kernel))
  · exact (xfldK_ok (h 4 (by decide)) (by decide)).trans (fldO_2 _ _ _ _ _ (by decide +kernel))
theorem Hs.cls {T : Sto} {n : Nat} {one two : D} (h : Hs T n one two) {k : Nat} (hk : k < 13) : ∃ ns ds, T[n + k]? = some (.exc (11 + k) ns ds) := by
  have e := h k hk
  rw [e]
  match k, hk with
  | 0, _ => exact ⟨_, _, rfl⟩
  | 1, _ => exact ⟨_, _, rfl⟩
  | 2, _ => exact ⟨_, _, rfl⟩
  | 3, _ => exact ⟨_, _, rfl⟩
  | 4, _ => exact ⟨_, _, rfl⟩
  | 5, _ => exact ⟨_, _, rfl⟩
  | 6, _ => exact ⟨_, _, rfl⟩
  | 7, _ => exact ⟨_, _, rfl⟩
  | 8, _ => exact ⟨_, _, rfl⟩
  | 9, _ => exact ⟨_, _, rfl⟩
  | 10, _ => exact ⟨_, _, rfl⟩
  | 11, _ => exact ⟨_, _, rfl⟩
  | 12, _ => exact ⟨_, _, rfl⟩
  | k + 13, hk => omega
abbrev cs13 : List Nat := [11, 12, 13, 14, 15, 16, 17, 18, 19, 20, 21, 22, 23]
theorem isX_at {T : Sto} {n : Nat} {one two : D} (h : Hs T n one two) {k : Nat} (hk : k < 13) (g : Nat → Bool) : isXK cs13 g (.ref (n + k)) T = .ok (.bl (g (11 + k))) T := by
  obtain ⟨ns, ds, e⟩ := h.cls hk
  refine isXK_ok e ?_
  simp only [cs13, List.mem_cons, List.not_mem_nil, or_false]
  omega
def flagL (k : Nat) : List D := (List.range 13).map fun p => D.bl (decide (p = k))
theorem flagL_eq : ∀ k < 13, [D.bl (isSub (11 + k) 11), .bl (isSub (11 + k) 12), .bl (isSub (11 + k) 13), .bl (isSub (11 + k) 14), .bl (isSub (11 + k) 15), .bl (isSub (11 + k) 16), .bl (isSub (11 + k) 17), .bl (isSub (11 + k) 18), .bl (isSub (11 + k) 19), .bl (isSub (11 + k) 20), .bl (isSub (11 + k) 21), .bl (isSub (11 + k) 22), .bl (isSub (11 + k) 23)] = flagL k := by
  intro k hk
  match k, hk with
  | 0, _ => rfl
  | 1, _ => rfl
  | 2, _ => rfl
  | 3, _ => rfl
  | 4, _ => rfl
  | 5, _ => rfl
  | 6, _ => rfl
  | 7, _ => rfl
  | 8, _ => rfl
  | 9, _ => rfl
  | 10, _ => rfl
  | 11, _ => rfl
  | 12, _ => rfl
  | k + 13, hk => omega
theorem flags_run {T : Sto} {n : Nat} {one two : D} (h : Hs T n one two) {k : Nat} (hk : k < 13) : fn_law_flags.run [.ref (n + k)] T = .ok (.lst (flagL k)) T := by
  have I := isX_at h hk
  have ad : ∀ (S : Sto) (x y : List D), (decide (x.length + y.length ≤ 1000000)) = true → dAdd S (.lst x) (.lst y) = some (.lst (x ++ y)) := fun S x y h => add_lst (of_decide_eq_true h)
  have B : D.bel T.length (.lst (flagL k)) := by
    simp only [D.bel, flagL]
    generalize List.range 13 = l
    induction l with
    | nil => trivial
    | cons a l ih => simp only [List.map_cons, D.bels, D.bel, true_and]; exact ih
  rw [← flagL_eq k hk] at B ⊢
  unfold fn_law_flags ms_law_flags
  clear h hk
  walk_at "evs"
theorem dNe_bls (S : Sto) (bs : List Bool) : dNe S (.lst (bs.map D.bl)) (.lst (bs.map D.bl)) = some (.bl false) := by
  have p : ∀ l : List Bool, ∃ ps, pds (l.map D.bl) = some ps ∧ PyData.canLayAll0 ps = true ∧ PyData.depthAll ps ≤ 8 ∧ PyData.eqvAll ps ps = true := by
    intro l
    induction l with
    | nil => exact ⟨[], rfl, rfl, by simp [PyData.depthAll], rfl⟩
    | cons b l ih =>
      obtain ⟨ps, e, a, d, q⟩ := ih
      refine ⟨.bool b :: ps, by simp only [List.map_cons, pds, pd, e], by simp only [PyData.canLayAll0, PyData.canLay0, a, Bool.and_self], ?_, ?_⟩
      · simp only [PyData.depthAll, PyData.depth]
        omega
      · have : PyData.eqv (.bool b) (.bool b) = true := by cases b <;> rfl
        simp only [PyData.eqvAll, this, q, Bool.and_self]
  obtain ⟨ps, e, a, d, q⟩ := p bs
  have e' : pdv S (.lst (bs.map D.bl)) = some (.list ps) := by rw [pdv_lst, e]; rfl
  have sh : SeqAt.shaped (.list ps) = true := by
    simp only [SeqAt.shaped, PyData.canLay0, a, PyData.depth, Bool.true_and]
    exact decide_eq_true (by omega)
  unfold dNe dEqB
  simp only [e', sh, and_self, if_true, PyData.eqv, q, Option.map_some, Bool.not_true]
theorem dNe_flag (S : Sto) (k : Nat) : dNe S (.lst (flagL k)) (.lst (flagL k)) = some (.bl false) := by
  have := dNe_bls S ((List.range 13).map fun p => decide (p = k))
  rwa [List.map_map] at this
theorem dNe_b3 (S : Sto) (a b c : Bool) : dNe S (.lst [.bl a, .bl b, .bl c]) (.lst [.bl a, .bl b, .bl c]) = some (.bl false) := dNe_bls S [a, b, c]
theorem kinds_lo : ∀ k < 12, isSub (11 + k) 10 = true ∧ isSubB (11 + k) "ValueError" = true ∧ isSubB (11 + k) "LookupError" = false := by decide
theorem kinds_hi : isSub (11 + 12) 10 = false ∧ isSubB (11 + 12) "ValueError" = false ∧ isSubB (11 + 12) "LookupError" = true := by decide
end Q
namespace Q
def evQ257_0 := And.intro @mExcV_ap (And.intro @excK_ok (And.intro @mFldX_ap (And.intro @mIsX_ap (True.intro))))
end Q
end
section
open PySem L2 G P
open Q
local macro_rules | `(tactic| walk_at "ev") => `(tactic| simp (config := { decide := false }) only [seval, G.evB0, G.evB1, G.evB2, G.evB3, G.evB4, List.getElem?_set_self, List.length_set, List.set_set, List.map_cons, List.map_nil, List.length_cons, List.length_nil, List.replicate, List.cons_append, List.nil_append, List.getElem?_cons_zero, List.getElem?_cons_succ, List.set_cons_zero, List.set_cons_succ, Option.map_some, Option.map_none, Option.bind_some, Bool.not_true, Bool.not_false, if_true, if_false, decide_true, decide_false, Bool.false_eq_true, true_and, and_true, false_and, and_false, List.foldl_cons, List.foldl_nil, List.all_cons, List.all_nil, id_eq, Bool.and_true, Bool.true_and, eq_self, Bool.or_true, Bool.true_or, Bool.or_false, Bool.false_or, G.isNon, G.startE, G.bls, G.wipeE, Q.evSVG2_0, Q.evSVG3_0, Q.evSVG4_0, Q.evSVG5_0, Q.evSVG6_0, Q.evSVG7_0, P.evN0, Bool.false_and, Q.evQ257_0])
local macro_rules | `(tactic| walk_at "evs") => `(tactic| simp (config := { decide := false }) only [seval, G.evB0, G.evB1, G.evB2, G.evB3, G.evB4, List.getElem?_set_self, List.length_set, List.set_set, List.map_cons, List.map_nil, List.length_cons, List.length_nil, List.replicate, List.cons_append, List.nil_append, List.getElem?_cons_zero, List.getElem?_cons_succ, List.set_cons_zero, List.set_cons_succ, Option.map_some, Option.map_none, Option.bind_some, Bool.not_true, Bool.not_false, if_true, if_false, decide_true, decide_false, Bool.false_eq_true, true_and, and_true, false_and, and_false, List.foldl_cons, List.foldl_nil, List.all_cons, List.all_nil, id_eq, Bool.and_true, Bool.true_and, eq_self, Bool.or_true, Bool.true_or, Bool.or_false, Bool.false_or, G.isNon, G.startE, G.bls, G.wipeE, Q.evSVG2_0, Q.evSVG3_0, Q.evSVG4_0, Q.evSVG5_0, Q.evSVG6_0, Q.evSVG7_0, P.evN0, Bool.false_and, Q.evQ257_0, *])
namespace Q
theorem oddW_bel {d : D} (h : d ∈ oddW) (k : Nat) : d.bel k := by rw [(vz_oddW d h).bel k]; trivial
theorem Ls.bel {S : Sto} {j : Nat} {d : D} (h : Ls S j d) : d.bel S.length := by
  rcases h with h | ⟨i, es, _, _, rfl, hi, _⟩
  · exact oddW_bel h _
  · simp only [D.bel]
    exact (List.getElem?_eq_some_iff.mp hi).1
theorem odd_ls {S : Sto} (hS : HasLk S 0) : Wp (fn_law_oddX.run [.ref 0] S) fun d S' => Ls S' 0 d ∧ LkTo (S ++ twoL) 0 S' := by
  refine (odd56 hS).mono ?_
  rintro d S' ⟨hd, t⟩
  have h0 := hS.lt
  refine ⟨?_, t⟩
  rcases hd with h | rfl | rfl
  · exact .inl h
  · refine .inr ⟨_, _, h0, by omega, rfl, (by rw [t.get (by omega)]; exact getA0 S twoL), by simp, fun y hy => ?_⟩
    simp only [List.mem_cons, List.not_mem_nil, or_false] at hy
    rcases hy with rfl | rfl <;> simp [oddW, oddA]
  · exact .inr ⟨_, [], by omega, by omega, rfl, (by rw [t.get (by omega), List.getElem?_append_right (by omega), show S.length + 1 - S.length = 1 by omega]; rfl), by simp, fun y hy => absurd hy List.not_mem_nil⟩
theorem Ls.re {S : Sto} {d : D} (h : Ls S 0 d) : Ls S S.length d := by
  rcases h with h | ⟨i, es, h0, hn, rfl, hi, hl, hv⟩
  · exact .inl h
  · exact .inr ⟨i, es, h0, by have := (List.getElem?_eq_some_iff.mp hi).1; omega, rfl, hi, hl, hv⟩
theorem Ls.tw {S : Sto} {d : D} (h : Ls S 0 d) : Tw S d := by
  rcases h with h | ⟨i, es, h0, hn, rfl, hi, hl, hv⟩
  · exact .inl h
  · exact .inr ⟨i, es, h0, rfl, hi, hl, fun x hx => .inl (hv x hx)⟩
theorem isi_oddW : ∀ d ∈ oddW, ∀ S, dIsi S [d, .ty "list"] = some (.bl false) := by
  intro d hd S
  simp only [oddW, oddA, oddX2, oddC, List.mem_append, List.mem_cons, List.not_mem_nil, or_false] at hd
  rcases hd with ((rfl | rfl | rfl | rfl | rfl | rfl | rfl | rfl | rfl | rfl | rfl | rfl | rfl | rfl | rfl | rfl | rfl) | rfl | rfl | rfl | rfl | rfl | rfl | rfl | rfl) | rfl | rfl | rfl | rfl <;> rfl
theorem isi_refL {S : Sto} {j : Nat} {ds : List D} (h : S[j]? = some (.lst ds)) : dIsi S [.ref j, .ty "list"] = some (.bl true) := by
  unfold dIsi
  simp only [tyN, h]
  rfl
theorem mul_8 (S : Sto) (v : D) : dMul S (.lst [v]) (.int 8) = some (.lst [v, v, v, v, v, v, v, v]) := by
  unfold dMul
  simp only [plL]
  exact if_pos ⟨by decide, by decide, (by decide : 1 * 8 ≤ sizeLine)⟩
def madeL (n : Nat) : List D := (List.range 13).map fun k => .ref (n + k)
theorem made_at (S : Sto) (n : Nat) : dIdxA S (.lst (madeL n)) (.int 0) = some (.ref n) ∧ dIdxA S (.lst (madeL n)) (.int 1) = some (.ref (n + 1)) ∧ dIdxA S (.lst (madeL n)) (.int 2) = some (.ref (n + 2)) ∧ dIdxA S (.lst (madeL n)) (.int 3) = some (.ref (n + 3)) ∧
    dIdxA S (.lst (madeL n)) (.int 4) = some (.ref (n + 4)) ∧ dIdxA S (.lst (madeL n)) (.int 5) = some (.ref (n + 5)) ∧ dIdxA S (.lst (madeL n)) (.int 10) = some (.ref (n + 10)) ∧ dIdxA S (.lst (madeL n)) (.int 12) = some (.ref (n + 12)) := by
  refine ⟨?_, ?_, ?_, ?_, ?_, ?_, ?_, ?_⟩ <;> (rw [dIdxA_lst]; rfl)
def itE (n : Nat) (k : Nat) : D := .tup [.int (k : Nat), .ref (n + k)]
theorem enum_made (n : Nat) : enumD 0 (madeL n) = (List.range 13).map (itE n) := rfl
def pairL : List D := [.int 6, .int 9, .int 24, .int 10, .int 240, .int 4, .int 7, .int 10, .int 24]
theorem shz_bounds : Shz (.lst pairL) := shz_pd (p := .list [.int 6, .int 9, .int 24, .int 10, .int 240, .int 4, .int 7, .int 10, .int 24]) (fun S => rfl) (by decide +kernel)
theorem two_run {S : Sto} {K : Fl → Sto → Prop} {x0 x2 x3 x4 x5 x6 x7 x8 x9 x10 x11 : Option D} (hS : HasLk S 0)
    (hK : ∀ (one two : D) (S' : Sto), Ls S' 0 one → Tw S' two → HasLk S' 0 → K (.nx [x0, some (.ref 0), x2, x3, some one, some two, x6, x7, x8, x9, x10, x11]) S') :
    Wp (sPar 4 5 (aCons (mCall fn_law_oddX (aCons (mVar 1) aNil)) (aCons (mCall fn_law_pick (aCons (mVar 1) (aCons (mLst (aCons (mNew (aCons (mCall fn_law_oddX (aCons (mVar 1) aNil)) aNil)) (aCons (mCall fn_law_oddX (aCons (mVar 1) aNil)) aNil))) aNil))) aNil))
      [x0, some (.ref 0), x2, x3, x4, x5, x6, x7, x8, x9, x10, x11] S) K := by
  replace hK := show Hid _ from hK
  walk_at "ev"
  refine (odd_ls hS).mono ?_
  rintro d1 S1 ⟨l1, t1⟩
  have h1 : HasLk S1 0 := t1.has (by have := hS.lt; simp [twoL])
  try walk_at "ev"
  refine (odd_ls h1).mono ?_
  rintro d2 S2 ⟨l2, t2⟩
  have h2 : HasLk S2 0 := t2.has (by have := h1.lt; simp [twoL])
  have l1 := (l1.app twoL).lk t2
  try walk_at "ev"
  have h2' : HasLk (S2 ++ [.lst [d2]]) 0 := h2.app _
  refine (odd_ls h2').mono ?_
  rintro d3 S3 ⟨l3, t3⟩
  have h3 : HasLk S3 0 := t3.has (by have := h2'.lt; simp [twoL])
  have l1 := ((l1.app [.lst [d2]]).app twoL).lk t3
  have p0 := h2.lt
  have at2 : S3[S2.length]? = some (.lst [d2]) := by
    rw [t3.get (by omega), List.getElem?_append_left (by simp)]
    exact getA0 S2 [.lst [d2]]
  have l2 := ((l2.re.app [.lst [d2]]).app twoL).lk t3
  have lt3 : S2.length < S3.length := (List.getElem?_eq_some_iff.mp at2).1
  try walk_at "ev"
  refine (pick_lst1 (ds := [.ref S2.length, d3]) h3 (by simp) (by simp) fun d hd => ?_).mono ?_
  · simp only [List.mem_cons, List.not_mem_nil, or_false] at hd
    rcases hd with rfl | rfl
    · simp only [D.bel]; exact lt3
    · exact l3.bel
  rintro two S4 ⟨hd, t4⟩
  have h4 : HasLk S4 0 := t4.has h3.lt
  have l1 := l1.lk t4
  have w : Tw S4 two := by
    simp only [List.mem_cons, List.not_mem_nil, or_false] at hd
    rcases hd with rfl | rfl
    · refine .inr ⟨_, _, p0, rfl, (by rw [t4.get (by omega)]; exact at2), by simp, fun x hx => ?_⟩
      rw [List.mem_singleton.mp hx]
      exact l2.lk t4
    · exact (l3.lk t4).tw
  try walk_at "ev"
  exact hK _ _ _ l1 w h4
theorem Hs.apart {T : Sto} {n j : Nat} {one two : D} {ds : List D} (h : Hs T n one two) (e : T[j]? = some (.lst ds)) : j < n ∨ n + 13 ≤ j := by
  by_cases h1 : j < n
  · exact .inl h1
  · by_cases h2 : n + 13 ≤ j
    · exact .inr h2
    · obtain ⟨ns, es, q⟩ := h.cls (k := j - n) (by omega)
      rw [show n + (j - n) = j by omega, e] at q
      cases q
end Q
end
section
open PySem L2 G P
open Q
local macro_rules | `(tactic| walk_at "ev") => `(tactic| simp (config := { decide := false }) only [seval, G.evB0, G.evB1, G.evB2, G.evB3, G.evB4, List.getElem?_set_self, List.length_set, List.set_set, List.map_cons, List.map_nil, List.length_cons, List.length_nil, List.replicate, List.cons_append, List.nil_append, List.getElem?_cons_zero, List.getElem?_cons_succ, List.set_cons_zero, List.set_cons_succ, Option.map_some, Option.map_none, Option.bind_some, Bool.not_true, Bool.not_false, if_true, if_false, decide_true, decide_false, Bool.false_eq_true, true_and, and_true, false_and, and_false, List.foldl_cons, List.foldl_nil, List.all_cons, List.all_nil, id_eq, Bool.and_true, Bool.true_and, eq_self, Bool.or_true, Bool.true_or, Bool.or_false, Bool.false_or, G.isNon, G.startE, G.bls, G.wipeE, Q.evSVG2_0, Q.evSVG3_0, Q.evSVG4_0, Q.evSVG5_0, Q.evSVG6_0, Q.evSVG7_0, P.evN0, Bool.false_and, Q.evQ257_0])
local macro_rules | `(tactic| walk_at "evs") => `(tactic| simp (config := { decide := false }) only [seval, G.evB0, G.evB1, G.evB2, G.evB3, G.evB4, List.getElem?_set_self, List.length_set, List.set_set, List.map_cons, List.map_nil, List.length_cons, List.length_nil, List.replicate, List.cons_append, List.nil_append, List.getElem?_cons_zero, List.getElem?_cons_succ, List.set_cons_zero, List.set_cons_succ, Option.map_some, Option.map_none, Option.bind_some, Bool.not_true, Bool.not_false, if_true, if_false, decide_true, decide_false, Bool.false_eq_true, true_and, and_true, false_and, and_false, List.foldl_cons, List.foldl_nil, List.all_cons, List.all_nil, id_eq, Bool.and_true, Bool.true_and, eq_self, Bool.or_true, Bool.true_or, Bool.or_false, Bool.false_or, G.isNon, G.startE, G.bls, G.wipeE, Q.evSVG2_0, Q.evSVG3_0, Q.evSVG4_0, Q.evSVG5_0, Q.evSVG6_0, Q.evSVG7_0, P.evN0, Bool.false_and, Q.evQ257_0, *])
namespace Q
theorem k56_main (ns : List Int) (hl : ns.length ≤ 63) : ∃ S, fn_law_k56.run [.scr (ns.map .int)] [] = .ok (.bl true) S := by
  have key : Wp (fn_law_k56.run [.scr (ns.map .int)] []) fun d _ => d = .bl true := by
    unfold fn_law_k56 ms_law_k56
    rw [fnB_run, Wp_bind]
    refine Wp_cut fun K hK => ?_
    walk_at "ev"
    refine (deck2_run hl).mono ?_
    rintro _ S1 ⟨rfl, g, sm, rfl, hk⟩
    try walk_at "ev"
    refine hK _ _ ?_
    clear hK K
    have d0 : HasLk [LkO g sm 0] 0 := ⟨g, sm, 0, rfl, hk⟩
    generalize ([LkO g sm 0] : Sto) = S0 at *
    refine Wp_cut fun K hK => ?_
    walk_at "ev"
    refine hK _ _ ?_
    clear hK K
    obtain ⟨z, hz⟩ := shz_bounds
    have hz0 : dReprZ S0 [.lst [.int 6, .int 9, .int 24, .int 10, .int 240, .int 4, .int 7, .int 10, .int 24]] = some (.str z) := hz S0
    clear hz
    refine Wp_cut fun K hK => ?_
    walk_at "ev"
    rw [hz0]
    walk_at "ev"
    rw [hz0]
    walk_at "ev"
    refine hK _ _ ?_
    clear hK K hz0
    refine Wp_cut fun K0 hK0 => ?_
    walk_at "ev"
    refine Wp_for (fun pre en S' => ∃ x2 x3 x4 x5 x6 x7 x8 x9 x10 x11, en = [some (.scr (ns.map .int)), some (.ref 0), x2, x3, x4, x5, x6, x7, x8, x9, x10, x11] ∧ HasLk S' 0) ⟨_, _, _, _, _, _, _, _, _, _, rfl, d0⟩ ?_ ?_
    rotate_left
    · rintro en S' ⟨x2, x3, x4, x5, x6, x7, x8, x9, x10, x11, rfl, hd⟩
      refine hK0 _ _ ?_
      walk_at "ev"
    clear hK0 d0
    rintro pre a suf en S' hl' ⟨x2, x3, x4, x5, x6, x7, x8, x9, x10, x11, rfl, hd⟩
    clear hl'
    refine ⟨_, rfl, ?_⟩
    refine Wp_cut fun K hK => ?_
    refine two_run hd fun one two S h1 h2 h0 => ?_
    refine hK _ _ ?_
    clear hK K hd
    refine Wp_cut fun K hK => ?_
    walk_at "ev"
    refine hK _ _ ?_
    clear hK K
    refine Wp_cut fun K hK => ?_
    walk_at "ev"
    rw [add_lst (by simp only [List.length_cons, List.length_nil]; omega)]
    walk_at "ev"
    refine hK [some (.scr (ns.map .int)), some (.ref 0), x2, some (.int (0 + (a : Nat))), some one, some two, some (.lst (madeL S.length)), x7, x8, x9, x10, x11] (S ++ (excsA one two ++ excsB two)) ?_
    clear hK K
    have H : Hs (S ++ (excsA one two ++ excsB two)) S.length one two := exc_new
    have l1 := h1.app (excsA one two ++ excsB two)
    have w2 := h2.app (excsA one two ++ excsB two)
    have k0 := h0.app (excsA one two ++ excsB two)
    clear h1 h2 h0
    generalize S ++ (excsA one two ++ excsB two) = T at H l1 w2 k0 ⊢
    generalize S.length = n at H ⊢
    clear S
    refine Wp_cut fun K hK => ?_
    have M := made_at T n
    have F := H.flds
    obtain ⟨m0, m1, m2, m3, m4, m5, m10, m12⟩ := M
    obtain ⟨⟨f0, f1, f2, f3⟩, ⟨f4, f5, f10, f12⟩, g2, g4⟩ := F
    replace H := show Hid _ from H
    replace l1 := show Hid _ from l1
    replace w2 := show Hid _ from w2
    replace k0 := show Hid _ from k0
    walk_at "evs"
    refine hK _ _ ?_
    clear hK K f0 f1 f2 f3 f4 f5 f10 f12 g2 g4 m0 m1 m2 m3 m4 m5 m10 m12
    replace H := show Hs T n one two from H
    have H1 := H.app [.lst [two, two, two, two, two, two, two]]
    refine Wp_cut fun K hK => ?_
    have M := made_at (T ++ [.lst [two, two, two, two, two, two, two]]) n
    have F := H1.flds
    clear H1
    replace H := show Hid _ from H
    obtain ⟨m0, m1, m2, m3, m4, m5, m10, m12⟩ := M
    obtain ⟨⟨f0, f1, f2, f3⟩, ⟨f4, f5, f10, f12⟩, g2, g4⟩ := F
    walk_at "evs"
    refine hK _ _ ?_
    clear hK K f0 f1 f2 f3 f4 f5 f10 f12 g2 g4 m0 m1 m2 m3 m4 m5 m10 m12
    replace H := (show Hs T n one two from H).app [.lst [two, two, two, two, two, two, two, two]]
    replace l1 := (show Ls T 0 one from l1).app [.lst [two, two, two, two, two, two, two, two]]
    replace w2 := (show Tw T two from w2).app [.lst [two, two, two, two, two, two, two, two]]
    replace k0 := (show HasLk T 0 from k0).app [.lst [two, two, two, two, two, two, two, two]]
    have at7 : (T ++ [Ob.lst [two, two, two, two, two, two, two, two]])[T.length]? = some (.lst [two, two, two, two, two, two, two, two]) := getA0 T _
    generalize T ++ [Ob.lst [two, two, two, two, two, two, two, two]] = U at *
    generalize T.length = q at *
    refine Wp_cut fun K hK => ?_
    obtain ⟨z8, za, zb⟩ := repr_both (S := U) (k := 2) (w := 2712) (dp := 7) (ds := [two, two, two, two, two, two, two, two]) (fun d hd => by
      have e : d = two := by simpa using hd
      rw [e]; exact w2.zs) (by decide) (show 8 * 2713 ≤ 190000 by decide) (by decide)
    replace zb := zb q at7
    obtain ⟨z1, zc, -⟩ := repr_both (S := U) (k := 1) (w := 903) (dp := 6) (ds := [one, one]) (fun d hd => by
      have e : d = one := by simpa using hd
      rw [e]; exact l1.zs) (by decide) (show 2 * 904 ≤ 190000 by decide) (by decide)
    have M := made_at U n
    have F := H.flds
    have M8 := mul_8 U two
    obtain ⟨m0, m1, m2, m3, m4, m5, m10, m12⟩ := M
    obtain ⟨⟨f0, f1, f2, f3⟩, ⟨f4, f5, f10, f12⟩, g2, g4⟩ := F
    clear l1 at7
    replace H := show Hid _ from H
    replace w2 := show Hid _ from w2
    replace k0 := show Hid _ from k0
    walk_at "evs"
    refine hK _ _ ?_
    clear hK K f0 f1 f2 f3 f4 f5 f10 f12 g2 g4 m0 m1 m2 m3 m4 m5 m10 m12 za zb zc M8 z1 z8
    replace H := show Hs U n one two from H
    replace w2 := show Tw U two from w2
    replace k0 := show HasLk U 0 from k0
    refine Wp_seq (fun en V => en = [some (.scr (ns.map .int)), some (.ref 0), x2, some (.int (0 + (a : Nat))), some one, some two, some (.lst (madeL n)), some (.ref q), x8, x9, x10, x11] ∧ Hs V n one two ∧ HasLk V 0) ?_ ?_
    · rcases w2 with hw | ⟨j, ds, j0, rfl, hj, lj, vj⟩
      · have I := isi_oddW two hw U
        replace H := show Hid _ from H
        replace k0 := show Hid _ from k0
        clear hw
        walk_at "evs"
        exact ⟨_, rfl, rfl, H, k0⟩
      · have I := isi_refL hj
        have ap := H.apart hj
        have H2 := H.put (.lst (ds ++ [.int 7])) ap
        have k2 := k0.put (j := j) (by omega) (.lst (ds ++ [.int 7]))
        have hV : (U.set j (.lst (ds ++ [.int 7])))[j]? = some (.lst (ds ++ [.int 7])) := List.getElem?_set_self (List.getElem?_eq_some_iff.mp hj).1
        have zj : Zs (U.set j (.lst (ds ++ [.int 7]))) 2 3616 7 (.ref j) := zs_ref (n := 4) hV (w := 903) (dp := 6) (k := 1) (fun d hd => by
          rcases List.mem_append.mp hd with h | h
          · exact ((vj d h).put _).zs
          · rw [List.mem_singleton.mp h]
            exact (vz_nat (n := 7) (by decide)).zs.mono (by decide) (by decide) (by decide)) (by simp; omega)
        obtain ⟨z3, za, -⟩ := repr_both (S := U.set j (.lst (ds ++ [.int 7]))) (k := 2) (w := 3616) (dp := 7) (ds := [.ref j, .ref j, .ref j]) (fun d hd => by
          have e : d = .ref j := by simpa using hd
          rw [e]; exact zj) (by decide) (show 3 * 3617 ≤ 190000 by decide) (by decide)
        have M := made_at (U.set j (.lst (ds ++ [.int 7]))) n
        have F := H2.flds
        have M3 := mul_3 (U.set j (.lst (ds ++ [.int 7]))) (.ref j)
        obtain ⟨m0, _, _, _, _, m5, _, m12⟩ := M
        obtain ⟨⟨f0, _, _, _⟩, ⟨_, f5, _, f12⟩, _, _⟩ := F
        have AP := appO2_lst (en := [some (.scr (ns.map .int)), some (.ref 0), x2, some (.int (0 + (a : Nat))), some one, some (.ref j), some (.lst (madeL n)), some (.ref q), x8, x9, x10, x11]) (i := j) (d := .int 7) (S := U) (ds := ds) (by omega)
        clear H k0 zj hV vj lj ap
        replace H2 := show Hid _ from H2
        replace k2 := show Hid _ from k2
        walk_at "evs"
        exact ⟨_, rfl, rfl, H2, k2⟩
    clear H w2 k0 U
    rintro en V ⟨rfl, H, k0⟩
    walk_at "ev"
    rw [enum_made]
    refine Wp_for (f0 := itE n) (l := List.range 13) (fun pre en V' => ∃ x8 x9 x10 x11, en = [some (.scr (ns.map .int)), some (.ref 0), x2, some (.int (0 + (a : Nat))), some one, some two, some (.lst (madeL n)), some (.ref q), x8, x9, x10, x11] ∧ V' = V) ⟨_, _, _, _, rfl, rfl⟩ ?_ ?_
    rotate_left
    · rintro en V' ⟨y8, y9, y10, y11, rfl, rfl⟩
      exact ⟨_, _, _, _, _, _, _, _, _, _, rfl, k0⟩
    rintro pr k suf en V' hl' ⟨y8, y9, y10, y11, rfl, rfl⟩
    have hk : k < 13 := List.mem_range.mp (by rw [hl']; simp)
    clear hl' k0
    refine ⟨_, rfl, ?_⟩
    have FR := flags_run H hk
    have I : ∀ g : Nat → Bool, isXK [11, 12, 13, 14, 15, 16, 17, 18, 19, 20, 21, 22, 23] g (.ref (n + k)) V' = .ok (.bl (g (11 + k))) V' := fun g => isX_at H hk g
    have NF := dNe_flag V' k
    clear H
    refine Wp_cut fun K hK => ?_
    walk_at "ev"
    rw [FR]
    walk_at "ev"
    rw [show rangeD 0 13 = (List.range 13).map fun p => D.int (p : Nat) from rangeD_map 13, comp_all (f := fun p : Nat => D.bl (decide (p = k))) (List.range 13) (fun p hp => ⟨_, rfl, ?_⟩) (by decide)]
    rotate_left
    · have e : decide (((p : Nat) : Int) = (k : Int)) = decide (p = k) := decide_eq_decide.mpr (by omega)
      clear NF I FR hK
      walk_at "ev"
      rw [e]
    replace NF : dNe V' (.lst (flagL k)) (.lst ((List.range 13).map fun p : Nat => D.bl (decide (p = k)))) = some (.bl false) := NF
    walk_at "ev"
    rw [NF]
    walk_at "ev"
    refine hK _ _ ?_
    clear hK K NF FR
    refine Wp_cut fun K hK => ?_
    walk_at "evs"
    refine hK _ _ ?_
    clear hK K I
    by_cases h12 : k < 12
    · obtain ⟨b1, b2, b3⟩ := kinds_lo k h12
      have e : decide ((k : Int) < 12) = true := decide_eq_true (by omega)
      have B := dNe_b3 V' true true false
      rw [b1, b2, b3]
      clear h12 hk
      walk_at "evs"
      exact ⟨_, _, _, _, rfl⟩
    · obtain rfl : k = 12 := by omega
      obtain ⟨b1, b2, b3⟩ := kinds_hi
      have B := dNe_b3 V' false false true
      rw [b1, b2, b3]
      have e : decide (((12 : Nat) : Int) < 12) = false := by decide
      clear h12 hk
      walk_at "evs"
      exact ⟨_, _, _, _, rfl⟩
  obtain ⟨d, S, e, rfl⟩ := key.ok_of
  exact ⟨S, e⟩
end Q
end
section
set_option maxHeartbeats 0
namespace T56
open PySem L2 G P
section
variable {P : Program} {w : World} {K : PySem.W.Frag} {mg : Str → Option Value} {base : Heap} {cl fc : Nat → Addr}
abbrev N_BadGrant_init : List Str := ["self", "value"]
theorem sc_BadGrant_init : FnScope N_BadGrant_init ["self", "value"] (defScope s_BadGrant_init) := ⟨rfl, rfl, rfl, by decide +kernel, rfl, by decide +kernel, by decide +kernel⟩
theorem ok_BadGrant_init {C f : Addr} {fd : FuncData} (F : Fun K "__init__" "BadGrant.__init__" s_BadGrant_init f fd) (T : OexC K C) (hn0 : PySem.W.findIn K (.ref C) "value" = some none) : FnOk P w K mg base (L2.CX P w) 1 f fd ["self", "value"] (spI1 C "value") := by
  exact init1_ok F sc_BadGrant_init rfl T hn0 (by decide) fun cdv A outer s H E => (pss_one (ps_ost (pv 0) (pv 1)))
abbrev N_BadMarks_init : List Str := ["self", "word"]
theorem sc_BadMarks_init : FnScope N_BadMarks_init ["self", "word"] (defScope s_BadMarks_init) := ⟨rfl, rfl, rfl, by decide +kernel, rfl, by decide +kernel, by decide +kernel⟩
theorem ok_BadMarks_init {C f : Addr} {fd : FuncData} (F : Fun K "__init__" "BadMarks.__init__" s_BadMarks_init f fd) (T : OexC K C) (hn0 : PySem.W.findIn K (.ref C) "word" = some none) : FnOk P w K mg base (L2.CX P w) 1 f fd ["self", "word"] (spI1 C "word") := by
  exact init1_ok F sc_BadMarks_init rfl T hn0 (by decide) fun cdv A outer s H E => (pss_one (ps_ost (pv 0) (pv 1)))
abbrev N_BadPolicy_init : List Str := ["self", "number", "word"]
theorem sc_BadPolicy_init : FnScope N_BadPolicy_init ["self", "number", "word"] (defScope s_BadPolicy_init) := ⟨rfl, rfl, rfl, by decide +kernel, rfl, by decide +kernel, by decide +kernel⟩
theorem ok_BadPolicy_init {C f : Addr} {fd : FuncData} (F : Fun K "__init__" "BadPolicy.__init__" s_BadPolicy_init f fd) (T : OexC K C) (hn0 : PySem.W.findIn K (.ref C) "number" = some none) (hn1 : PySem.W.findIn K (.ref C) "word" = some none) : FnOk P w K mg base (L2.CX P w) 1 f fd ["self", "number", "word"] (spI2 C "number" "word") := by
  exact init2_ok F sc_BadPolicy_init rfl T hn0 hn1 (by decide) fun cdv A outer s H E => (pss_cons (ps_ost (pv 0) (pv 1)) (pss_one (ps_ost (pv 0) (pv 2))))
abbrev N_BadRole_init : List Str := ["self", "mark"]
theorem sc_BadRole_init : FnScope N_BadRole_init ["self", "mark"] (defScope s_BadRole_init) := ⟨rfl, rfl, rfl, by decide +kernel, rfl, by decide +kernel, by decide +kernel⟩
theorem ok_BadRole_init {C f : Addr} {fd : FuncData} (F : Fun K "__init__" "BadRole.__init__" s_BadRole_init f fd) (T : OexC K C) (hn0 : PySem.W.findIn K (.ref C) "mark" = some none) : FnOk P w K mg base (L2.CX P w) 1 f fd ["self", "mark"] (spI1 C "mark") := by
  exact init1_ok F sc_BadRole_init rfl T hn0 (by decide) fun cdv A outer s H E => (pss_one (ps_ost (pv 0) (pv 1)))
abbrev N_BadText_init : List Str := ["self", "line", "number"]
theorem sc_BadText_init : FnScope N_BadText_init ["self", "line", "number"] (defScope s_BadText_init) := ⟨rfl, rfl, rfl, by decide +kernel, rfl, by decide +kernel, by decide +kernel⟩
theorem ok_BadText_init {C f : Addr} {fd : FuncData} (F : Fun K "__init__" "BadText.__init__" s_BadText_init f fd) (T : OexC K C) (hn0 : PySem.W.findIn K (.ref C) "line" = some none) (hn1 : PySem.W.findIn K (.ref C) "number" = some none) : FnOk P w K mg base (L2.CX P w) 1 f fd ["self", "line", "number"] (spI2 C "line" "number") := by
  exact init2_ok F sc_BadText_init rfl T hn0 hn1 (by decide) fun cdv A outer s H E => (pss_cons (ps_ost (pv 0) (pv 1)) (pss_one (ps_ost (pv 0) (pv 2))))
abbrev N_Barred_init : List Str := ["self", "role"]
theorem sc_Barred_init : FnScope N_Barred_init ["self", "role"] (defScope s_Barred_init) := ⟨rfl, rfl, rfl, by decide +kernel, rfl, by decide +kernel, by decide +kernel⟩
theorem ok_Barred_init {C f : Addr} {fd : FuncData} (F : Fun K "__init__" "Barred.__init__" s_Barred_init f fd) (T : OexC K C) (hn0 : PySem.W.findIn K (.ref C) "role" = some none) : FnOk P w K mg base (L2.CX P w) 1 f fd ["self", "role"] (spI1 C "role") := by
  exact init1_ok F sc_Barred_init rfl T hn0 (by decide) fun cdv A outer s H E => (pss_one (ps_ost (pv 0) (pv 1)))
abbrev N_TooMany_init : List Str := ["self", "limit"]
theorem sc_TooMany_init : FnScope N_TooMany_init ["self", "limit"] (defScope s_TooMany_init) := ⟨rfl, rfl, rfl, by decide +kernel, rfl, by decide +kernel, by decide +kernel⟩
theorem ok_TooMany_init {C f : Addr} {fd : FuncData} (F : Fun K "__init__" "TooMany.__init__" s_TooMany_init f fd) (T : OexC K C) (hn0 : PySem.W.findIn K (.ref C) "limit" = some none) : FnOk P w K mg base (L2.CX P w) 1 f fd ["self", "limit"] (spI1 C "limit") := by
  exact init1_ok F sc_TooMany_init rfl T hn0 (by decide) fun cdv A outer s H E => (pss_one (ps_ost (pv 0) (pv 1)))
abbrev N_NoGrant_init : List Str := ["self", "number"]
theorem sc_NoGrant_init : FnScope N_NoGrant_init ["self", "number"] (defScope s_NoGrant_init) := ⟨rfl, rfl, rfl, by decide +kernel, rfl, by decide +kernel, by decide +kernel⟩
theorem ok_NoGrant_init {C f : Addr} {fd : FuncData} (F : Fun K "__init__" "NoGrant.__init__" s_NoGrant_init f fd) (T : OexL K C) (hn0 : PySem.W.takerIn K C "number" = some none) : FnOk P w K mg base (L2.CX P w) 1 f fd ["self", "number"] (spI1 C "number") := by
  exact initL_ok F sc_NoGrant_init rfl T hn0 (by decide) fun cdv A outer s H E => (pss_one (ps_osL (pv 0) (pv 1)))
abbrev N_law_deck_v2 : List Str := ["_law_script", "_law_great", "_law_small", "_law_cell", "_law_mixed"]
theorem sc_law_deck_v2 : FnScope N_law_deck_v2 ["_law_script"] (defScope s_law_deck_v2) := ⟨rfl, rfl, rfl, by decide +kernel, rfl, by decide +kernel, by decide +kernel⟩
theorem ok_law_deck_v2 {f : Addr} {fd : FuncData} (F : Fun K "_law_deck" "_law_deck" s_law_deck_v2 f fd) (b_abs : mg "abs" = none) (b_int : mg "int" = none) (b_len : mg "len" = none) :
    FnOk P w K mg base (L2.CX P w) 1 f fd ["_law_script"] (spF ⟨K, cl, fc, P, w⟩ fn_law_deck_v2) := by
  refine (fn_ok (N := N_law_deck_v2) (ms := ms_law_deck_v2) F sc_law_deck_v2 rfl fun cdv A outer s H E hr => ?_)
  exact (ds_cons wi_E (ds_par rfl sc_law_deck_v2.nd rfl rfl (by decide) rfl rfl (da_cons de_int (da_cons (de_op op_addU op2_add de_int (de_op op_mulU op2_mul de_int (de_callB call_lenU opn_len b_len PySem.boot_len (da_cons (de_var (pv 0)) da_nil)))) da_nil)) (by rfl))
    (ds_cons wi_E (ds_for wi_E (passes_of rfl) rfl tg_name (di_seq (hl := (de_slice (he := (de_var (pv 0))) (hl := do_none) (hu := (do_some de_int))))) (pg_name (i := 3) sc_law_deck_v2.nd rfl (Or.inl rfl))
    (ds_one (ds_if (dt_cmp op_ge op2_ge0 (de_var (pv 3)) (de_op op_pow op2_pow de_int de_int) (nomark _)) (ds_one (ds_set (i := 1) sc_law_deck_v2.nd rfl (Or.inl rfl) (de_op op_sub op2_sub (de_op op_addU op2_add (de_op op_mulU op2_mul (de_var (pv 1)) de_int) (de_var (pv 3))) (de_op op_pow op2_pow de_int de_int)))) (ds_cons wi_E (ds_set (i := 4) sc_law_deck_v2.nd rfl (Or.inl rfl) (de_op op_addU op2_add (de_op op_mulU op2_mul (de_var (pv 2)) de_int) (de_op op_mulU op2_mul de_int (de_callB call_abs opn_abs b_abs (by decide +kernel) (da_cons (de_var (pv 3)) da_nil)))))
    (ds_one (ds_set (i := 2) sc_law_deck_v2.nd rfl (Or.inl rfl) (de_op op_mod op2_mod (de_callTy call_intU opn_int b_int (by decide +kernel) (da_cons (de_op op_addU op2_add (de_var (pv 4)) (de_callTy call_intU opn_int b_int (by decide +kernel) (da_cons (de_cmp (op_ltP (hu64 hr)) op2_lt (de_var (pv 3)) de_int (nomark _)) da_nil))) da_nil)) de_int)))))))
    (ds_one (ds_ret (de_new (da_cons (de_var (pv 1)) (da_cons (de_var (pv 2)) (da_cons de_int da_nil))))))))
abbrev N_law_take_v2 : List Str := ["_law_deck_here", "_law_many", "_law_digit", "_law_mixed"]
theorem sc_law_take_v2 : FnScope N_law_take_v2 ["_law_deck_here", "_law_many"] (defScope s_law_take_v2) := ⟨rfl, rfl, rfl, by decide +kernel, rfl, by decide +kernel, by decide +kernel⟩
theorem ok_law_take_v2 {f : Addr} {fd : FuncData} (F : Fun K "_law_take" "_law_take" s_law_take_v2 f fd) (b_int : mg "int" = none) :
    FnOk P w K mg base (L2.CX P w) 1 f fd ["_law_deck_here", "_law_many"] (spF ⟨K, cl, fc, P, w⟩ fn_law_take_v2) := by
  refine fn_drop (fn_ok (N := N_law_take_v2) (ms := ms_law_take_v2) F sc_law_take_v2 rfl fun cdv A outer s H E hr => ?_)
  exact (ds_cons wi_E (ds_if (dt_cmp op_gt op2_gt0 (de_idx (ix_all (hu1 hr)) op2_idxA (de_var (pv 0)) de_int) de_int (nomark _)) (ds_cons wi_E (ds_set (i := 2) sc_law_take_v2.nd rfl (Or.inl rfl) (de_op op_mod op2_mod (de_callTy call_intU opn_int b_int (by decide +kernel) (da_cons (de_idx (ix_all (hu1 hr)) op2_idxA (de_var (pv 0)) de_int) da_nil)) (de_var (pv 1))))
    (ds_cons wi_E (ds_ix (de_var (pv 0)) de_int (de_op op_fdiv op2_div (de_idx (ix_all (hu1 hr)) op2_idxA (de_var (pv 0)) de_int) (de_var (pv 1))) (pg_sub (de_var (pv 0)) de_int set_list))
    (ds_one (ds_ret (de_var (pv 2)))))) ds_nil)
    (ds_cons wi_E (ds_ix (de_var (pv 0)) de_int (de_op op_addU op2_add (de_idx (ix_all (hu1 hr)) op2_idxA (de_var (pv 0)) de_int) de_int) (pg_sub (de_var (pv 0)) de_int set_list))
    (ds_cons wi_E (ds_set (i := 3) sc_law_take_v2.nd rfl (Or.inl rfl) (de_op op_addU op2_add (de_op op_mulU op2_mul (de_idx (ix_all (hu1 hr)) op2_idxA (de_var (pv 0)) de_int) de_int) (de_op op_mulU op2_mul de_int (de_idx (ix_all (hu1 hr)) op2_idxA (de_var (pv 0)) de_int))))
    (ds_cons wi_E (ds_ix (de_var (pv 0)) de_int (de_op op_mod op2_mod (de_callTy call_intU opn_int b_int (by decide +kernel) (da_cons (de_var (pv 3)) da_nil)) de_int) (pg_sub (de_var (pv 0)) de_int set_list))
    (ds_one (ds_ret (de_op op_mod op2_mod (de_op op_fdiv op2_div (de_op op_mod op2_mod (de_callTy call_intU opn_int b_int (by decide +kernel) (da_cons (de_op op_mulU op2_mul (de_idx (ix_all (hu1 hr)) op2_idxA (de_var (pv 0)) de_int) (de_idx (ix_all (hu1 hr)) op2_idxA (de_var (pv 0)) de_int)) da_nil)) de_int) de_int) (de_var (pv 1)))))))))
abbrev N_law_pick : List Str := ["_law_deck_here", "_law_some"]
theorem sc_law_pick : FnScope N_law_pick ["_law_deck_here", "_law_some"] (defScope s_law_pick) := ⟨rfl, rfl, rfl, by decide +kernel, rfl, by decide +kernel, by decide +kernel⟩
theorem ok_law_pick {f : Addr} {fd : FuncData} (F : Fun K "_law_pick" "_law_pick" s_law_pick f fd) (b_len : mg "len" = none) (c_law_take_v2 : Cal P w K mg base ⟨K, cl, fc, P, w⟩ "_law_take" 1 fn_law_take_v2) :
    FnOk P w K mg base (L2.CX P w) 2 f fd ["_law_deck_here", "_law_some"] (spF ⟨K, cl, fc, P, w⟩ fn_law_pick) := by
  refine fn_drop (fn_ok (N := N_law_pick) (ms := ms_law_pick) F sc_law_pick rfl fun cdv A outer s H E hr => ?_)
  exact (ds_one (ds_ret (de_idx (ix_all (hu1 hr)) op2_idxA (de_var (pv 1)) (de_fn c_law_take_v2 hr (by decide) (takes_of rfl rfl rfl rfl) (da_cons (de_var (pv 0)) (da_cons (de_callB call_lenU opn_len b_len PySem.boot_len (da_cons (de_var (pv 1)) da_nil)) da_nil))))))
abbrev N_law_oddX : List Str := ["_law_deck_here", "_law_some"]
theorem sc_law_oddX : FnScope N_law_oddX ["_law_deck_here"] (defScope s_law_oddX) := ⟨rfl, rfl, rfl, by decide +kernel, rfl, by decide +kernel, by decide +kernel⟩
theorem ok_law_oddX {f : Addr} {fd : FuncData} (F : Fun K "_law_odd" "_law_odd" s_law_oddX f fd) (c_law_pick : Cal P w K mg base ⟨K, cl, fc, P, w⟩ "_law_pick" 2 fn_law_pick) :
    FnOk P w K mg base (L2.CX P w) 3 f fd ["_law_deck_here"] (spF ⟨K, cl, fc, P, w⟩ fn_law_oddX) := by
  refine (fn_ok (N := N_law_oddX) (ms := ms_law_oddX) F sc_law_oddX rfl fun cdv A outer s H E hr => ?_)
  exact (ds_cons wi_E (ds_set (i := 1) sc_law_oddX.nd rfl (Or.inl rfl) (de_lst (da_cons de_non (da_cons de_bl (da_cons de_bl (da_cons de_int (da_cons de_int (da_cons de_int (da_cons (de_un un_neg op1_neg de_int) (da_cons (de_op op_pow op2_pow de_int de_int) (da_cons de_str (da_cons de_str (da_cons de_str (da_cons de_str (da_cons (de_tup da_nil) (da_cons (de_tup (da_cons de_int da_nil)) (da_cons (de_tup (da_cons de_int (da_cons de_int da_nil))) (da_cons (de_tup (da_cons de_int (da_cons de_bl da_nil))) (da_cons (de_tup (da_cons de_bl (da_cons de_int da_nil))) da_nil)))))))))))))))))))
    (ds_cons wi_E (ds_set (i := 1) sc_law_oddX.nd rfl (Or.inl rfl) (de_op op_addU op2_add (de_var (pv 1)) (de_lst (da_cons (de_tup (da_cons de_int (da_cons de_int da_nil))) (da_cons (de_tup (da_cons (de_un un_neg op1_neg de_int) (da_cons de_int da_nil))) (da_cons (de_new (da_cons de_int (da_cons de_int da_nil))) (da_cons (de_new da_nil) (da_cons de_demp (da_cons (de_dispD (.cons de_int .nil) (by decide +kernel) (by decide) (by decide) (by rfl) (by rfl) (by simp) (by decide)) (da_cons (de_tup (da_cons (de_tup (da_cons de_int (da_cons de_int da_nil))) da_nil)) (da_cons (de_tup (da_cons (de_tup (da_cons de_int (da_cons de_int da_nil))) (da_cons (de_tup (da_cons de_str da_nil)) da_nil))) (da_cons (de_tup (da_cons (de_tup (da_cons de_int (da_cons de_int da_nil))) (da_cons (de_tup (da_cons de_str (da_cons de_int da_nil))) da_nil))) (da_cons (de_tup (da_cons (de_lst (da_cons de_int da_nil)) (da_cons de_int da_nil))) da_nil)))))))))))))
    (ds_one (ds_ret (de_fn c_law_pick hr (by decide) (takes_of rfl rfl rfl rfl) (da_cons (de_var (pv 0)) (da_cons (de_op op_addU op2_add (de_var (pv 1)) (de_lst (da_cons (de_tup (da_cons (de_tup (da_cons de_int (da_cons de_int da_nil))) (da_cons (de_lst (da_cons de_str (da_cons de_int da_nil))) da_nil))) (da_cons (de_tup (da_cons (de_tup (da_cons de_int (da_cons de_int da_nil))) (da_cons (de_tup (da_cons de_str (da_cons de_int da_nil))) da_nil))) (da_cons (de_tup (da_cons (de_tup (da_cons de_int (da_cons de_int da_nil))) (da_cons (de_tup (da_cons de_str (da_cons (de_tup (da_cons de_int (da_cons de_int da_nil))) (da_cons (de_tup (da_cons de_int (da_cons de_int da_nil))) da_nil)))) da_nil))) (da_cons (de_tup (da_cons (de_tup (da_cons de_str da_nil)) da_nil)) da_nil)))))) da_nil)))))))
abbrev N_law_flags : List Str := ["_law_error", "_law_found"]
theorem sc_law_flags : FnScope N_law_flags ["_law_error"] (defScope s_law_flags) := ⟨rfl, rfl, rfl, by decide +kernel, rfl, by decide +kernel, by decide +kernel⟩
theorem ok_law_flags {f : Addr} {fd : FuncData} (F : Fun K "_law_flags" "_law_flags" s_law_flags f fd) (b_isinstance : mg "isinstance" = none) (x_BadGrant : mg "BadGrant" = some (.ref (cl 11))) (x_BadMarks : mg "BadMarks" = some (.ref (cl 12))) (x_BadPolicy : mg "BadPolicy" = some (.ref (cl 13))) (x_BadRole : mg "BadRole" = some (.ref (cl 14))) (x_BadText : mg "BadText" = some (.ref (cl 15))) (x_Barred : mg "Barred" = some (.ref (cl 16))) (x_Full : mg "Full" = some (.ref (cl 17))) (x_NoGrant : mg "NoGrant" = some (.ref (cl 23))) (x_NotHeld : mg "NotHeld" = some (.ref (cl 18))) (x_NotPlain : mg "NotPlain" = some (.ref (cl 20))) (x_NothingToUndo : mg "NothingToUndo" = some (.ref (cl 19))) (x_TooMany : mg "TooMany" = some (.ref (cl 21))) (x_Unlike : mg "Unlike" = some (.ref (cl 22))) (yo_11 : IsXOk K ⟨K, cl, fc, P, w⟩ [11, 12, 13, 14, 15, 16, 17, 18, 19, 20, 21, 22, 23] (.ref (cl 11)) (fun c => isSub c 11)) (yo_12 : IsXOk K ⟨K, cl, fc, P, w⟩ [11, 12, 13, 14, 15, 16, 17, 18, 19, 20, 21, 22, 23] (.ref (cl 12)) (fun c => isSub c 12)) (yo_13 : IsXOk K ⟨K, cl, fc, P, w⟩ [11, 12, 13, 14, 15, 16, 17, 18, 19, 20, 21, 22, 23] (.ref (cl 13)) (fun c => isSub c 13)) (yo_14 : IsXOk K ⟨K, cl, fc, P, w⟩ [11, 12, 13, 14, 15, 16, 17, 18, 19, 20, 21, 22, 23] (.ref (cl 14)) (fun c => isSub c 14)) (yo_15 : IsXOk K ⟨K, cl, fc, P, w⟩ [11, 12, 13, 14, 15, 16, 17, 18, 19, 20, 21, 22, 23] (.ref (cl 15)) (fun c => isSub c 15)) (yo_16 : IsXOk K ⟨K, cl, fc, P, w⟩ [11, 12, 13, 14, 15, 16, 17, 18, 19, 20, 21, 22, 23] (.ref (cl 16)) (fun c => isSub c 16)) (yo_17 : IsXOk K ⟨K, cl, fc, P, w⟩ [11, 12, 13, 14, 15, 16, 17, 18, 19, 20, 21, 22, 23] (.ref (cl 17)) (fun c => isSub c 17)) (yo_18 : IsXOk K ⟨K, cl, fc, P, w⟩ [11, 12, 13, 14, 15, 16, 17, 18, 19, 20, 21, 22, 23] (.ref (cl 18)) (fun c => isSub c 18)) (yo_19 : IsXOk K ⟨K, cl, fc, P, w⟩ [11, 12, 13, 14, 15, 16, 17, 18, 19, 20, 21, 22, 23] (.ref (cl 19)) (fun c => isSub c 19)) (yo_20 : IsXOk K ⟨K, cl, fc, P, w⟩ [11, 12, 13, 14, 15, 16, 17, 18, 19, 20, 21, 22, 23] (.ref (cl 20)) (fun c => isSub c 20)) (yo_21 : IsXOk K ⟨K, cl, fc, P, w⟩ [11, 12, 13, 14, 15, 16, 17, 18, 19, 20, 21, 22, 23] (.ref (cl 21)) (fun c => isSub c 21)) (yo_22 : IsXOk K ⟨K, cl, fc, P, w⟩ [11, 12, 13, 14, 15, 16, 17, 18, 19, 20, 21, 22, 23] (.ref (cl 22)) (fun c => isSub c 22)) (yo_23 : IsXOk K ⟨K, cl, fc, P, w⟩ [11, 12, 13, 14, 15, 16, 17, 18, 19, 20, 21, 22, 23] (.ref (cl 23)) (fun c => isSub c 23)) :
    FnOk P w K mg base (L2.CX P w) 1 f fd ["_law_error"] (spF ⟨K, cl, fc, P, w⟩ fn_law_flags) := by
  refine fn_drop (fn_ok (N := N_law_flags) (ms := ms_law_flags) F sc_law_flags rfl fun cdv A outer s H E hr => ?_)
  exact (ds_cons wi_E (ds_set (i := 1) sc_law_flags.nd rfl (Or.inl rfl) (de_lst (da_cons (de_isX (v := .ref (cl 11)) (cv := .ref (cl 11)) yo_11 b_isinstance (de_var (pv 0)) (pe_glob rfl x_BadGrant rfl) (fun _ r => r)) (da_cons (de_isX (v := .ref (cl 12)) (cv := .ref (cl 12)) yo_12 b_isinstance (de_var (pv 0)) (pe_glob rfl x_BadMarks rfl) (fun _ r => r)) (da_cons (de_isX (v := .ref (cl 13)) (cv := .ref (cl 13)) yo_13 b_isinstance (de_var (pv 0)) (pe_glob rfl x_BadPolicy rfl) (fun _ r => r)) da_nil)))))
    (ds_cons wi_E (ds_set (i := 1) sc_law_flags.nd rfl (Or.inl rfl) (de_op op_addU op2_add (de_var (pv 1)) (de_lst (da_cons (de_isX (v := .ref (cl 14)) (cv := .ref (cl 14)) yo_14 b_isinstance (de_var (pv 0)) (pe_glob rfl x_BadRole rfl) (fun _ r => r)) (da_cons (de_isX (v := .ref (cl 15)) (cv := .ref (cl 15)) yo_15 b_isinstance (de_var (pv 0)) (pe_glob rfl x_BadText rfl) (fun _ r => r)) (da_cons (de_isX (v := .ref (cl 16)) (cv := .ref (cl 16)) yo_16 b_isinstance (de_var (pv 0)) (pe_glob rfl x_Barred rfl) (fun _ r => r)) da_nil))))))
    (ds_cons wi_E (ds_set (i := 1) sc_law_flags.nd rfl (Or.inl rfl) (de_op op_addU op2_add (de_var (pv 1)) (de_lst (da_cons (de_isX (v := .ref (cl 17)) (cv := .ref (cl 17)) yo_17 b_isinstance (de_var (pv 0)) (pe_glob rfl x_Full rfl) (fun _ r => r)) (da_cons (de_isX (v := .ref (cl 18)) (cv := .ref (cl 18)) yo_18 b_isinstance (de_var (pv 0)) (pe_glob rfl x_NotHeld rfl) (fun _ r => r)) (da_cons (de_isX (v := .ref (cl 19)) (cv := .ref (cl 19)) yo_19 b_isinstance (de_var (pv 0)) (pe_glob rfl x_NothingToUndo rfl) (fun _ r => r)) da_nil))))))
    (ds_cons wi_E (ds_set (i := 1) sc_law_flags.nd rfl (Or.inl rfl) (de_op op_addU op2_add (de_var (pv 1)) (de_lst (da_cons (de_isX (v := .ref (cl 20)) (cv := .ref (cl 20)) yo_20 b_isinstance (de_var (pv 0)) (pe_glob rfl x_NotPlain rfl) (fun _ r => r)) (da_cons (de_isX (v := .ref (cl 21)) (cv := .ref (cl 21)) yo_21 b_isinstance (de_var (pv 0)) (pe_glob rfl x_TooMany rfl) (fun _ r => r)) (da_cons (de_isX (v := .ref (cl 22)) (cv := .ref (cl 22)) yo_22 b_isinstance (de_var (pv 0)) (pe_glob rfl x_Unlike rfl) (fun _ r => r)) da_nil))))))
    (ds_one (ds_ret (de_op op_addU op2_add (de_var (pv 1)) (de_lst (da_cons (de_isX (v := .ref (cl 23)) (cv := .ref (cl 23)) yo_23 b_isinstance (de_var (pv 0)) (pe_glob rfl x_NoGrant rfl) (fun _ r => r)) da_nil)))))))))
abbrev N_law_k56 : List Str := ["_law_script", "_law_deck_here", "_law_bounds", "_law_turn", "_law_one", "_law_two", "_law_made", "_law_kept", "_law_number", "_law_error", "_law_told", "_law_place"]
theorem sc_law_k56 : FnScope N_law_k56 ["_law_script"] (defScope s_law_k56) := ⟨rfl, rfl, rfl, by decide +kernel, rfl, by decide +kernel, by decide +kernel⟩
theorem ok_law_k56 {f : Addr} {fd : FuncData} (F : Fun K "law" "law" s_law_k56 f fd) (b_LookupError : mg "LookupError" = none) (b_ValueError : mg "ValueError" = none) (b_enumerate : mg "enumerate" = none) (b_isinstance : mg "isinstance" = none) (b_list : mg "list" = none) (b_range : mg "range" = none) (b_repr : mg "repr" = none) (c_law_deck_v2 : Cal P w K mg base ⟨K, cl, fc, P, w⟩ "_law_deck" 1 fn_law_deck_v2) (c_law_flags : Cal P w K mg base ⟨K, cl, fc, P, w⟩ "_law_flags" 1 fn_law_flags) (c_law_oddX : Cal P w K mg base ⟨K, cl, fc, P, w⟩ "_law_odd" 3 fn_law_oddX) (c_law_pick : Cal P w K mg base ⟨K, cl, fc, P, w⟩ "_law_pick" 2 fn_law_pick) (e_BadGrant : CalE1 P w K mg base ⟨K, cl, fc, P, w⟩ "BadGrant" 11 1 "value") (e_BadMarks : CalE1 P w K mg base ⟨K, cl, fc, P, w⟩ "BadMarks" 12 1 "word") (e_BadPolicy : CalE2 P w K mg base ⟨K, cl, fc, P, w⟩ "BadPolicy" 13 1 "number" "word") (e_BadRole : CalE1 P w K mg base ⟨K, cl, fc, P, w⟩ "BadRole" 14 1 "mark") (e_BadText : CalE2 P w K mg base ⟨K, cl, fc, P, w⟩ "BadText" 15 1 "line" "number") (e_Barred : CalE1 P w K mg base ⟨K, cl, fc, P, w⟩ "Barred" 16 1 "role") (e_Full : CalE0 K mg ⟨K, cl, fc, P, w⟩ "Full" 17) (e_NoGrant : CalL1 P w K mg base ⟨K, cl, fc, P, w⟩ "NoGrant" 23 1 "number") (e_NotHeld : CalE0 K mg ⟨K, cl, fc, P, w⟩ "NotHeld" 18) (e_NotPlain : CalE0 K mg ⟨K, cl, fc, P, w⟩ "NotPlain" 20) (e_NothingToUndo : CalE0 K mg ⟨K, cl, fc, P, w⟩ "NothingToUndo" 19) (e_TooMany : CalE1 P w K mg base ⟨K, cl, fc, P, w⟩ "TooMany" 21 1 "limit") (e_Unlike : CalE0 K mg ⟨K, cl, fc, P, w⟩ "Unlike" 22) (g_MAX_ASKED : ∃ t, mg "MAX_ASKED" = some (.int 6 t)) (g_MAX_CUT : ∃ t, mg "MAX_CUT" = some (.int 9 t)) (g_MAX_EDITS : ∃ t, mg "MAX_EDITS" = some (.int 24 t)) (g_MAX_FREED : ∃ t, mg "MAX_FREED" = some (.int 10 t)) (g_MAX_GRANTS : ∃ t, mg "MAX_GRANTS" = some (.int 240 t)) (g_MAX_LABELS : ∃ t, mg "MAX_LABELS" = some (.int 4 t)) (g_MAX_OWNERS : ∃ t, mg "MAX_OWNERS" = some (.int 7 t)) (g_MAX_PLAIN : ∃ t, mg "MAX_PLAIN" = some (.int 10 t)) (g_MAX_SETTLED : ∃ t, mg "MAX_SETTLED" = some (.int 24 t)) (hsm : smB K = true) (x_GrantError : mg "GrantError" = some (.ref (cl 10))) (yb_LookupError : IsXOk K ⟨K, cl, fc, P, w⟩ [11, 12, 13, 14, 15, 16, 17, 18, 19, 20, 21, 22, 23] (.type "LookupError") (fun c => isSubB c "LookupError")) (yb_ValueError : IsXOk K ⟨K, cl, fc, P, w⟩ [11, 12, 13, 14, 15, 16, 17, 18, 19, 20, 21, 22, 23] (.type "ValueError") (fun c => isSubB c "ValueError")) (yf_limit : XvOk K ⟨K, cl, fc, P, w⟩ [21] "limit") (yf_line : XvOk K ⟨K, cl, fc, P, w⟩ [15] "line") (yf_mark : XvOk K ⟨K, cl, fc, P, w⟩ [14] "mark") (yf_number : XvOk K ⟨K, cl, fc, P, w⟩ [13, 15, 23] "number") (yf_role : XvOk K ⟨K, cl, fc, P, w⟩ [16] "role") (yf_value : XvOk K ⟨K, cl, fc, P, w⟩ [11] "value") (yf_word : XvOk K ⟨K, cl, fc, P, w⟩ [12, 13] "word") (yo_10 : IsXOk K ⟨K, cl, fc, P, w⟩ [11, 12, 13, 14, 15, 16, 17, 18, 19, 20, 21, 22, 23] (.ref (cl 10)) (fun c => isSub c 10)) :
    FnG P w K mg base (L2.CX P w) 4 f fd ["_law_script"] (spF ⟨K, cl, fc, P, w⟩ fn_law_k56) := by
  refine fnG_ok (N := N_law_k56) (ms := ms_law_k56) F sc_law_k56 rfl fun cdv A outer s H E hgd hr => ?_
  exact (ds_cons wi_E (ds_set (i := 1) sc_law_k56.nd rfl (Or.inl rfl) (de_fn c_law_deck_v2 hr (by decide) (takes_of rfl rfl rfl rfl) (da_cons (de_var (pv 0)) da_nil)))
    (ds_cons wi_E (ds_set (i := 2) sc_law_k56.nd rfl (Or.inl rfl) (de_lst (da_cons (de_gint g_MAX_ASKED) (da_cons (de_gint g_MAX_CUT) (da_cons (de_gint g_MAX_EDITS) (da_cons (de_gint g_MAX_FREED) (da_cons (de_gint g_MAX_GRANTS) (da_cons (de_gint g_MAX_LABELS) (da_cons (de_gint g_MAX_OWNERS) (da_cons (de_gint g_MAX_PLAIN) (da_cons (de_gint g_MAX_SETTLED) da_nil)))))))))))
    (ds_cons wi_E (ds_if (dt_cmp (op_neU (hu64 hr)) op2_ne (de_callB (call_reprZ hsm hgd (hu66 hr)) opn_reprZ b_repr (by decide +kernel) (da_cons (de_var (pv 2)) da_nil)) (de_callB (call_reprZ hsm hgd (hu66 hr)) opn_reprZ b_repr (by decide +kernel) (da_cons (de_lst (da_cons de_int (da_cons de_int (da_cons de_int (da_cons de_int (da_cons de_int (da_cons de_int (da_cons de_int (da_cons de_int (da_cons de_int da_nil)))))))))) da_nil)) (nomark _)) (ds_one (ds_ret de_bl)) ds_nil)
    (ds_cons wi_E (ds_for wi_E (passes_of rfl) rfl tg_name (di_rg1 b_range (da_cons de_int da_nil)) (pg_name (i := 3) sc_law_k56.nd rfl (Or.inl rfl))
    (ds_cons wi_E (ds_par rfl sc_law_k56.nd rfl rfl (by decide) rfl rfl (da_cons (de_fn c_law_oddX hr (by decide) (takes_of rfl rfl rfl rfl) (da_cons (de_var (pv 1)) da_nil)) (da_cons (de_fn c_law_pick hr (by decide) (takes_of rfl rfl rfl rfl) (da_cons (de_var (pv 1)) (da_cons (de_lst (da_cons (de_new (da_cons (de_fn c_law_oddX hr (by decide) (takes_of rfl rfl rfl rfl) (da_cons (de_var (pv 1)) da_nil)) da_nil)) (da_cons (de_fn c_law_oddX hr (by decide) (takes_of rfl rfl rfl rfl) (da_cons (de_var (pv 1)) da_nil)) da_nil))) da_nil))) da_nil)) (by rfl))
    (ds_cons wi_E (ds_set (i := 6) sc_law_k56.nd rfl (Or.inl rfl) (de_lst (da_cons (de_excV1 e_BadGrant hr (by decide) (da_cons (de_var (pv 5)) da_nil)) (da_cons (de_excV1 e_BadMarks hr (by decide) (da_cons (de_var (pv 5)) da_nil)) (da_cons (de_excV2 e_BadPolicy hr (by decide) (da_cons (de_var (pv 4)) (da_cons (de_var (pv 5)) da_nil))) (da_cons (de_excV1 e_BadRole hr (by decide) (da_cons (de_var (pv 5)) da_nil)) (da_cons (de_excV2 e_BadText hr (by decide) (da_cons (de_var (pv 4)) (da_cons (de_var (pv 5)) da_nil))) (da_cons (de_excV1 e_Barred hr (by decide) (da_cons (de_var (pv 5)) da_nil)) (da_cons (de_excV0 e_Full) da_nil)))))))))
    (ds_cons wi_E (ds_set (i := 6) sc_law_k56.nd rfl (Or.inl rfl) (de_op op_addU op2_add (de_var (pv 6)) (de_lst (da_cons (de_excV0 e_NotHeld) (da_cons (de_excV0 e_NothingToUndo) (da_cons (de_excV0 e_NotPlain) (da_cons (de_excV1 e_TooMany hr (by decide) (da_cons (de_var (pv 5)) da_nil)) (da_cons (de_excV0 e_Unlike) (da_cons (de_excVL e_NoGrant hr (by decide) (da_cons (de_var (pv 5)) da_nil)) da_nil)))))))))
    (ds_cons wi_E (ds_set (i := 7) sc_law_k56.nd rfl (Or.inl rfl) (de_new (da_cons (de_fldX yf_value (de_idx (ix_all (hu1 hr)) op2_idxA (de_var (pv 6)) de_int)) (da_cons (de_fldX yf_word (de_idx (ix_all (hu1 hr)) op2_idxA (de_var (pv 6)) de_int)) (da_cons (de_fldX yf_word (de_idx (ix_all (hu1 hr)) op2_idxA (de_var (pv 6)) de_int)) (da_cons (de_fldX yf_mark (de_idx (ix_all (hu1 hr)) op2_idxA (de_var (pv 6)) de_int)) (da_cons (de_fldX yf_number (de_idx (ix_all (hu1 hr)) op2_idxA (de_var (pv 6)) de_int)) (da_cons (de_fldX yf_role (de_idx (ix_all (hu1 hr)) op2_idxA (de_var (pv 6)) de_int)) (da_cons (de_fldX yf_limit (de_idx (ix_all (hu1 hr)) op2_idxA (de_var (pv 6)) de_int)) da_nil)))))))))
    (ds_cons wi_E (ds_app (ho := (de_var (pv 7))) (he := (de_fldX yf_number (de_idx (ix_all (hu1 hr)) op2_idxA (de_var (pv 6)) de_int))))
    (ds_cons wi_E (ds_if (PW.pt (dw_or (dt_cmp (op_neU (hu64 hr)) op2_ne (de_callB (call_reprZ hsm hgd (hu66 hr)) opn_reprZ b_repr (by decide +kernel) (da_cons (de_var (pv 7)) da_nil)) (de_callB (call_reprZ hsm hgd (hu66 hr)) opn_reprZ b_repr (by decide +kernel) (da_cons (de_op op_mulU op2_mul (de_lst (da_cons (de_var (pv 5)) da_nil)) de_int) da_nil)) (nomark _)) (dw_or1 (dt_cmp (op_neU (hu64 hr)) op2_ne (de_callB (call_reprZ hsm hgd (hu66 hr)) opn_reprZ b_repr (by decide +kernel) (da_cons (de_lst (da_cons (de_fldX yf_number (de_idx (ix_all (hu1 hr)) op2_idxA (de_var (pv 6)) de_int)) (da_cons (de_fldX yf_line (de_idx (ix_all (hu1 hr)) op2_idxA (de_var (pv 6)) de_int)) da_nil))) da_nil)) (de_callB (call_reprZ hsm hgd (hu66 hr)) opn_reprZ b_repr (by decide +kernel) (da_cons (de_lst (da_cons (de_var (pv 4)) (da_cons (de_var (pv 4)) da_nil))) da_nil)) (nomark _))))) (ds_one (ds_ret de_bl)) ds_nil)
    (ds_cons wi_E (ds_if (dt_val (de_callB call_isi opn_isi b_isinstance (by decide +kernel) (da_cons (de_var (pv 5)) (da_cons (de_ty b_list (by decide +kernel)) da_nil)))) (ds_cons wi_E (ds_app (ho := (de_var (pv 5))) (he := de_int))
    (ds_one (ds_if (dt_cmp (op_neU (hu64 hr)) op2_ne (de_callB (call_reprZ hsm hgd (hu66 hr)) opn_reprZ b_repr (by decide +kernel) (da_cons (de_lst (da_cons (de_fldX yf_value (de_idx (ix_all (hu1 hr)) op2_idxA (de_var (pv 6)) de_int)) (da_cons (de_fldX yf_role (de_idx (ix_all (hu1 hr)) op2_idxA (de_var (pv 6)) de_int)) (da_cons (de_fldX yf_number (de_idx (ix_all (hu1 hr)) op2_idxA (de_var (pv 6)) de_int)) da_nil)))) da_nil)) (de_callB (call_reprZ hsm hgd (hu66 hr)) opn_reprZ b_repr (by decide +kernel) (da_cons (de_op op_mulU op2_mul (de_lst (da_cons (de_var (pv 5)) da_nil)) de_int) da_nil)) (nomark _)) (ds_one (ds_ret de_bl)) ds_nil))) ds_nil)
    (ds_one (ds_for wi_E (passes_of rfl) rfl (tg_tup (tgs_cons tg_name (tgs_cons tg_name tgs_nil))) (di_enum b_enumerate (de_var (pv 6))) (pg_tup rfl (pgs_cons (pg_name (i := 8) sc_law_k56.nd rfl (Or.inr rfl)) (pgs_cons (pg_name (i := 9) sc_law_k56.nd rfl (Or.inl rfl)) pgs_nil)))
    (ds_cons wi_E (ds_if (dt_cmp (op_neU (hu64 hr)) op2_ne (de_fn c_law_flags hr (by decide) (takes_of rfl rfl rfl rfl) (da_cons (de_var (pv 9)) da_nil)) (de_lc (ow := [("_law_place", 11)]) rfl sc_law_k56.nd tg_name (by decide) (di_rg1 b_range (da_cons de_int da_nil)) (blkOk_by (N := N_law_k56) (sc := defScope s_law_k56) (by decide +kernel)) (fun _ _ _ _ _ => (pg_name (i := 11) sc_law_k56.nd rfl (Or.inl rfl))) (fun _ _ _ _ _ => dts_nil) (fun _ _ _ _ _ => (de_cmp (op_eqU (hu64 hr)) op2_eq (de_var (pv 11)) (de_var (pv 8)) (nomark _)))) (nomark _)) (ds_one (ds_ret de_bl)) ds_nil)
    (ds_cons wi_E (ds_set (i := 10) sc_law_k56.nd rfl (Or.inl rfl) (de_lst (da_cons (de_isX (v := .ref (cl 10)) (cv := .ref (cl 10)) yo_10 b_isinstance (de_var (pv 9)) (pe_glob rfl x_GrantError rfl) (fun _ r => r)) (da_cons (de_isX (v := .ty "ValueError") (cv := .type "ValueError") yb_ValueError b_isinstance (de_var (pv 9)) (pe_bltn rfl b_ValueError (by decide +kernel) rfl) (fun _ r => r)) (da_cons (de_isX (v := .ty "LookupError") (cv := .type "LookupError") yb_LookupError b_isinstance (de_var (pv 9)) (pe_bltn rfl b_LookupError (by decide +kernel) rfl) (fun _ r => r)) da_nil)))))
    (ds_one (ds_if (dt_cmp (op_neU (hu64 hr)) op2_ne (de_var (pv 10)) (de_if (dt_cmp (op_ltP (hu64 hr)) op2_lt (de_var (pv 8)) de_int (nomark _)) (de_lst (da_cons de_bl (da_cons de_bl (da_cons de_bl da_nil)))) (de_lst (da_cons de_bl (da_cons de_bl (da_cons de_bl da_nil))))) (nomark _)) (ds_one (ds_ret de_bl)) ds_nil))))))))))))))
    (ds_one (ds_ret de_bl))))))
end
theorem facts {P : Program} {w : World} {K : PySem.W.Frag} {h : Heap} {mg : Str → Option Value} {f : Addr} (X : K.In h) (Gm : h.Ns mainGlobals mg) (hfa : mg ("law" : Str) = some (.ref f)) (c : SaysP fal fnl gel (fun K => exAll K exl) K) :
    ∃ (fd : FuncData) (sp : Sp), (∀ (s : Shared) (u : Value), BindsTo s fd ⟨[u], []⟩ [("_law_script", u)]) ∧ (∀ (H : Hp) (a : Addr) (ns : List Int), ns.length ≤ 63 → L2.Only H → SqL K H a (ns.map V.int) → sp [.ref a] H (fun v _ => v = .bl true) fun _ _ _ => False) ∧
      ∀ base : Heap, K.In base → base.Ns mainGlobals mg → FnG P w K mg base (L2.CX P w) 4 f fd ["_law_script"] sp := by
  have D := c.d
  obtain ⟨fd_law_deck_v2, F_law_deck_v2⟩ := D.def_ 0 (d := d_law_deck_v2) rfl
  obtain ⟨fd_law_take_v2, F_law_take_v2⟩ := D.def_ 1 (d := d_law_take_v2) rfl
  obtain ⟨fd_law_pick, F_law_pick⟩ := D.def_ 2 (d := d_law_pick) rfl
  obtain ⟨fd_law_oddX, F_law_oddX⟩ := D.def_ 3 (d := d_law_oddX) rfl
  obtain ⟨fd_law_flags, F_law_flags⟩ := D.def_ 4 (d := d_law_flags) rfl
  obtain ⟨fd_law_k56, F_law_k56⟩ := D.def_ 5 (d := d_law_k56) rfl
  have B_law_deck_v2 := F_law_deck_v2.bindsN (ps := ["_law_script"]) fun _ _ _ _ _ _ us hl => match us, hl with | [_], _ => rfl
  have B_law_take_v2 := F_law_take_v2.bindsN (ps := ["_law_deck_here", "_law_many"]) fun _ _ _ _ _ _ us hl => match us, hl with | [_, _], _ => rfl
  have B_law_pick := F_law_pick.bindsN (ps := ["_law_deck_here", "_law_some"]) fun _ _ _ _ _ _ us hl => match us, hl with | [_, _], _ => rfl
  have B_law_oddX := F_law_oddX.bindsN (ps := ["_law_deck_here"]) fun _ _ _ _ _ _ us hl => match us, hl with | [_], _ => rfl
  have B_law_flags := F_law_flags.bindsN (ps := ["_law_error"]) fun _ _ _ _ _ _ us hl => match us, hl with | [_], _ => rfl
  have B_law_k56 := F_law_k56.bindsA (ps := ["_law_script"]) fun _ _ _ _ _ _ us hl => match us, hl with | [_], _ => rfl
  have G_law_deck_v2 := He.glo_ok X Gm (D.fact 0 (f := .glo "_law_deck") rfl)
  have G_law_take_v2 := He.glo_ok X Gm (D.fact 1 (f := .glo "_law_take") rfl)
  have G_law_pick := He.glo_ok X Gm (D.fact 2 (f := .glo "_law_pick") rfl)
  have G_law_oddX := He.glo_ok X Gm (D.fact 3 (f := .glo "_law_odd") rfl)
  have G_law_flags := He.glo_ok X Gm (D.fact 4 (f := .glo "_law_flags") rfl)
  have G_law_k56 := He.glo_ok X Gm (D.fact 5 (f := .glo "law") rfl)
  have b_LookupError := He.free_ok X Gm (D.fact 6 (f := .free "LookupError") rfl)
  have b_ValueError := He.free_ok X Gm (D.fact 7 (f := .free "ValueError") rfl)
  have b_abs := He.free_ok X Gm (D.fact 8 (f := .free "abs") rfl)
  have b_enumerate := He.free_ok X Gm (D.fact 9 (f := .free "enumerate") rfl)
  have b_int := He.free_ok X Gm (D.fact 10 (f := .free "int") rfl)
  have b_isinstance := He.free_ok X Gm (D.fact 11 (f := .free "isinstance") rfl)
  have b_len := He.free_ok X Gm (D.fact 12 (f := .free "len") rfl)
  have b_list := He.free_ok X Gm (D.fact 13 (f := .free "list") rfl)
  have b_range := He.free_ok X Gm (D.fact 14 (f := .free "range") rfl)
  have b_repr := He.free_ok X Gm (D.fact 15 (f := .free "repr") rfl)
  obtain ⟨fd_BadGrant_init, F_BadGrant_init⟩ := D.def_ 6 (d := d_BadGrant_init) rfl
  have B_BadGrant_init := F_BadGrant_init.bindsN (ps := ["self", "value"]) fun _ _ _ _ _ _ us hl => match us, hl with | [_, _], _ => rfl
  have I_BadGrant := iniB_ok (x := "BadGrant") (ex_0 c.more)
  have e := hfa.symm.trans G_law_k56
  cases e
  refine ⟨fd_law_k56, spF ⟨K, clA K, fun _ => 0, P, w⟩ fn_law_k56, fun s v => B_law_k56 s [v] rfl, fun H a ns hl hO hS => law_sp rfl hO hS (Q.k56_main ns hl), fun base _ _ => ?_⟩
  have e_BadGrant : CalE1 P w K mg base ⟨K, clA K, fun _ => 0, P, w⟩ "BadGrant" 11 1 "value" := ⟨_, _, _, ok_BadGrant_init (toFun F_BadGrant_init) I_BadGrant.1 (He.noat_ok (D.fact 17 (f := .noat "BadGrant" "value") rfl)), I_BadGrant.1, I_BadGrant.2.1, I_BadGrant.2.2, B_BadGrant_init, He.glo_ok X Gm (D.fact 16 (f := .glo "BadGrant") rfl)⟩
  obtain ⟨fd_BadMarks_init, F_BadMarks_init⟩ := D.def_ 7 (d := d_BadMarks_init) rfl
  have B_BadMarks_init := F_BadMarks_init.bindsN (ps := ["self", "word"]) fun _ _ _ _ _ _ us hl => match us, hl with | [_, _], _ => rfl
  have I_BadMarks := iniB_ok (x := "BadMarks") (ex_1 c.more)
  have e_BadMarks : CalE1 P w K mg base ⟨K, clA K, fun _ => 0, P, w⟩ "BadMarks" 12 1 "word" := ⟨_, _, _, ok_BadMarks_init (toFun F_BadMarks_init) I_BadMarks.1 (He.noat_ok (D.fact 19 (f := .noat "BadMarks" "word") rfl)), I_BadMarks.1, I_BadMarks.2.1, I_BadMarks.2.2, B_BadMarks_init, He.glo_ok X Gm (D.fact 18 (f := .glo "BadMarks") rfl)⟩
  obtain ⟨fd_BadPolicy_init, F_BadPolicy_init⟩ := D.def_ 8 (d := d_BadPolicy_init) rfl
  have B_BadPolicy_init := F_BadPolicy_init.bindsN (ps := ["self", "number", "word"]) fun _ _ _ _ _ _ us hl => match us, hl with | [_, _, _], _ => rfl
  have I_BadPolicy := iniB_ok (x := "BadPolicy") (ex_2 c.more)
  have e_BadPolicy : CalE2 P w K mg base ⟨K, clA K, fun _ => 0, P, w⟩ "BadPolicy" 13 1 "number" "word" := ⟨_, _, _, ok_BadPolicy_init (toFun F_BadPolicy_init) I_BadPolicy.1 (He.noat_ok (D.fact 21 (f := .noat "BadPolicy" "number") rfl)) (He.noat_ok (D.fact 22 (f := .noat "BadPolicy" "word") rfl)), I_BadPolicy.1, I_BadPolicy.2.1, I_BadPolicy.2.2, B_BadPolicy_init, He.glo_ok X Gm (D.fact 20 (f := .glo "BadPolicy") rfl)⟩
  obtain ⟨fd_BadRole_init, F_BadRole_init⟩ := D.def_ 9 (d := d_BadRole_init) rfl
  have B_BadRole_init := F_BadRole_init.bindsN (ps := ["self", "mark"]) fun _ _ _ _ _ _ us hl => match us, hl with | [_, _], _ => rfl
  have I_BadRole := iniB_ok (x := "BadRole") (ex_3 c.more)
  have e_BadRole : CalE1 P w K mg base ⟨K, clA K, fun _ => 0, P, w⟩ "BadRole" 14 1 "mark" := ⟨_, _, _, ok_BadRole_init (toFun F_BadRole_init) I_BadRole.1 (He.noat_ok (D.fact 24 (f := .noat "BadRole" "mark") rfl)), I_BadRole.1, I_BadRole.2.1, I_BadRole.2.2, B_BadRole_init, He.glo_ok X Gm (D.fact 23 (f := .glo "BadRole") rfl)⟩
  obtain ⟨fd_BadText_init, F_BadText_init⟩ := D.def_ 10 (d := d_BadText_init) rfl
  have B_BadText_init := F_BadText_init.bindsN (ps := ["self", "line", "number"]) fun _ _ _ _ _ _ us hl => match us, hl with | [_, _, _], _ => rfl
  have I_BadText := iniB_ok (x := "BadText") (ex_4 c.more)
  have e_BadText : CalE2 P w K mg base ⟨K, clA K, fun _ => 0, P, w⟩ "BadText" 15 1 "line" "number" := ⟨_, _, _, ok_BadText_init (toFun F_BadText_init) I_BadText.1 (He.noat_ok (D.fact 26 (f := .noat "BadText" "line") rfl)) (He.noat_ok (D.fact 27 (f := .noat "BadText" "number") rfl)), I_BadText.1, I_BadText.2.1, I_BadText.2.2, B_BadText_init, He.glo_ok X Gm (D.fact 25 (f := .glo "BadText") rfl)⟩
  obtain ⟨fd_Barred_init, F_Barred_init⟩ := D.def_ 11 (d := d_Barred_init) rfl
  have B_Barred_init := F_Barred_init.bindsN (ps := ["self", "role"]) fun _ _ _ _ _ _ us hl => match us, hl with | [_, _], _ => rfl
  have I_Barred := iniB_ok (x := "Barred") (ex_5 c.more)
  have e_Barred : CalE1 P w K mg base ⟨K, clA K, fun _ => 0, P, w⟩ "Barred" 16 1 "role" := ⟨_, _, _, ok_Barred_init (toFun F_Barred_init) I_Barred.1 (He.noat_ok (D.fact 29 (f := .noat "Barred" "role") rfl)), I_Barred.1, I_Barred.2.1, I_Barred.2.2, B_Barred_init, He.glo_ok X Gm (D.fact 28 (f := .glo "Barred") rfl)⟩
  have e_Full : CalE0 K mg ⟨K, clA K, fun _ => 0, P, w⟩ "Full" 17 := by
    obtain ⟨h1, h2, h3, h4⟩ := He.exc_ok (D.fact 31 (f := .exc "Full") rfl)
    exact ⟨h1, h2, h3, h4, He.glo_ok X Gm (D.fact 30 (f := .glo "Full") rfl)⟩
  obtain ⟨fd_NoGrant_init, F_NoGrant_init⟩ := D.def_ 13 (d := d_NoGrant_init) rfl
  have B_NoGrant_init := F_NoGrant_init.bindsN (ps := ["self", "number"]) fun _ _ _ _ _ _ us hl => match us, hl with | [_, _], _ => rfl
  have I_NoGrant := iniLB_ok (x := "NoGrant") (f := "number") (ex_6 c.more)
  have e_NoGrant : CalL1 P w K mg base ⟨K, clA K, fun _ => 0, P, w⟩ "NoGrant" 23 1 "number" := ⟨_, _, _, ok_NoGrant_init (toFun F_NoGrant_init) I_NoGrant.1 I_NoGrant.2.2.2, I_NoGrant.1, I_NoGrant.2.1, I_NoGrant.2.2.1, B_NoGrant_init, He.glo_ok X Gm (D.fact 32 (f := .glo "NoGrant") rfl)⟩
  have e_NotHeld : CalE0 K mg ⟨K, clA K, fun _ => 0, P, w⟩ "NotHeld" 18 := by
    obtain ⟨h1, h2, h3, h4⟩ := He.exc_ok (D.fact 35 (f := .exc "NotHeld") rfl)
    exact ⟨h1, h2, h3, h4, He.glo_ok X Gm (D.fact 34 (f := .glo "NotHeld") rfl)⟩
  have e_NotPlain : CalE0 K mg ⟨K, clA K, fun _ => 0, P, w⟩ "NotPlain" 20 := by
    obtain ⟨h1, h2, h3, h4⟩ := He.exc_ok (D.fact 37 (f := .exc "NotPlain") rfl)
    exact ⟨h1, h2, h3, h4, He.glo_ok X Gm (D.fact 36 (f := .glo "NotPlain") rfl)⟩
  have e_NothingToUndo : CalE0 K mg ⟨K, clA K, fun _ => 0, P, w⟩ "NothingToUndo" 19 := by
    obtain ⟨h1, h2, h3, h4⟩ := He.exc_ok (D.fact 39 (f := .exc "NothingToUndo") rfl)
    exact ⟨h1, h2, h3, h4, He.glo_ok X Gm (D.fact 38 (f := .glo "NothingToUndo") rfl)⟩
  obtain ⟨fd_TooMany_init, F_TooMany_init⟩ := D.def_ 12 (d := d_TooMany_init) rfl
  have B_TooMany_init := F_TooMany_init.bindsN (ps := ["self", "limit"]) fun _ _ _ _ _ _ us hl => match us, hl with | [_, _], _ => rfl
  have I_TooMany := iniB_ok (x := "TooMany") (ex_7 c.more)
  have e_TooMany : CalE1 P w K mg base ⟨K, clA K, fun _ => 0, P, w⟩ "TooMany" 21 1 "limit" := ⟨_, _, _, ok_TooMany_init (toFun F_TooMany_init) I_TooMany.1 (He.noat_ok (D.fact 41 (f := .noat "TooMany" "limit") rfl)), I_TooMany.1, I_TooMany.2.1, I_TooMany.2.2, B_TooMany_init, He.glo_ok X Gm (D.fact 40 (f := .glo "TooMany") rfl)⟩
  have e_Unlike : CalE0 K mg ⟨K, clA K, fun _ => 0, P, w⟩ "Unlike" 22 := by
    obtain ⟨h1, h2, h3, h4⟩ := He.exc_ok (D.fact 43 (f := .exc "Unlike") rfl)
    exact ⟨h1, h2, h3, h4, He.glo_ok X Gm (D.fact 42 (f := .glo "Unlike") rfl)⟩
  have g_MAX_ASKED := He.int_ok X Gm (D.fact 44 (f := .int "MAX_ASKED" 6) rfl)
  have g_MAX_CUT := He.int_ok X Gm (D.fact 45 (f := .int "MAX_CUT" 9) rfl)
  have g_MAX_EDITS := He.int_ok X Gm (D.fact 46 (f := .int "MAX_EDITS" 24) rfl)
  have g_MAX_FREED := He.int_ok X Gm (D.fact 47 (f := .int "MAX_FREED" 10) rfl)
  have g_MAX_GRANTS := He.int_ok X Gm (D.fact 48 (f := .int "MAX_GRANTS" 240) rfl)
  have g_MAX_LABELS := He.int_ok X Gm (D.fact 49 (f := .int "MAX_LABELS" 4) rfl)
  have g_MAX_OWNERS := He.int_ok X Gm (D.fact 50 (f := .int "MAX_OWNERS" 7) rfl)
  have g_MAX_PLAIN := He.int_ok X Gm (D.fact 51 (f := .int "MAX_PLAIN" 10) rfl)
  have g_MAX_SETTLED := He.int_ok X Gm (D.fact 52 (f := .int "MAX_SETTLED" 24) rfl)
  have hsm : smB K = true := ex_8 c.more
  have x_BadGrant : mg "BadGrant" = some (.ref (clA K 11)) := He.glo_ok X Gm (D.fact 16 (f := .glo "BadGrant") rfl)
  have x_BadMarks : mg "BadMarks" = some (.ref (clA K 12)) := He.glo_ok X Gm (D.fact 18 (f := .glo "BadMarks") rfl)
  have x_BadPolicy : mg "BadPolicy" = some (.ref (clA K 13)) := He.glo_ok X Gm (D.fact 20 (f := .glo "BadPolicy") rfl)
  have x_BadRole : mg "BadRole" = some (.ref (clA K 14)) := He.glo_ok X Gm (D.fact 23 (f := .glo "BadRole") rfl)
  have x_BadText : mg "BadText" = some (.ref (clA K 15)) := He.glo_ok X Gm (D.fact 25 (f := .glo "BadText") rfl)
  have x_Barred : mg "Barred" = some (.ref (clA K 16)) := He.glo_ok X Gm (D.fact 28 (f := .glo "Barred") rfl)
  have x_Full : mg "Full" = some (.ref (clA K 17)) := He.glo_ok X Gm (D.fact 30 (f := .glo "Full") rfl)
  have x_GrantError : mg "GrantError" = some (.ref (clA K 10)) := He.glo_ok X Gm (D.fact 53 (f := .glo "GrantError") rfl)
  have x_NoGrant : mg "NoGrant" = some (.ref (clA K 23)) := He.glo_ok X Gm (D.fact 32 (f := .glo "NoGrant") rfl)
  have x_NotHeld : mg "NotHeld" = some (.ref (clA K 18)) := He.glo_ok X Gm (D.fact 34 (f := .glo "NotHeld") rfl)
  have x_NotPlain : mg "NotPlain" = some (.ref (clA K 20)) := He.glo_ok X Gm (D.fact 36 (f := .glo "NotPlain") rfl)
  have x_NothingToUndo : mg "NothingToUndo" = some (.ref (clA K 19)) := He.glo_ok X Gm (D.fact 38 (f := .glo "NothingToUndo") rfl)
  have x_TooMany : mg "TooMany" = some (.ref (clA K 21)) := He.glo_ok X Gm (D.fact 40 (f := .glo "TooMany") rfl)
  have x_Unlike : mg "Unlike" = some (.ref (clA K 22)) := He.glo_ok X Gm (D.fact 42 (f := .glo "Unlike") rfl)
  have yb_LookupError : IsXOk K ⟨K, clA K, fun _ => 0, P, w⟩ [11, 12, 13, 14, 15, 16, 17, 18, 19, 20, 21, 22, 23] (.type "LookupError") (fun c => isSubB c "LookupError") := fun k hk => by
    replace hk : k ∈ ([11, 12, 13, 14, 15, 16, 17, 18, 19, 20, 21, 22, 23] : List Nat) := hk
    rcases List.mem_cons.mp hk with e | hk
    · subst e
      exact ⟨xcB_ok (ex_9 c.more), of_decide_eq_true (ex_10 c.more)⟩
    rcases List.mem_cons.mp hk with e | hk
    · subst e
      exact ⟨xcB_ok (ex_11 c.more), of_decide_eq_true (ex_12 c.more)⟩
    rcases List.mem_cons.mp hk with e | hk
    · subst e
      exact ⟨xcB_ok (ex_13 c.more), of_decide_eq_true (ex_14 c.more)⟩
    rcases List.mem_cons.mp hk with e | hk
    · subst e
      exact ⟨xcB_ok (ex_15 c.more), of_decide_eq_true (ex_16 c.more)⟩
    rcases List.mem_cons.mp hk with e | hk
    · subst e
      exact ⟨xcB_ok (ex_17 c.more), of_decide_eq_true (ex_18 c.more)⟩
    rcases List.mem_cons.mp hk with e | hk
    · subst e
      exact ⟨xcB_ok (ex_19 c.more), of_decide_eq_true (ex_20 c.more)⟩
    rcases List.mem_cons.mp hk with e | hk
    · subst e
      exact ⟨xcB_ok (ex_21 c.more), of_decide_eq_true (ex_22 c.more)⟩
    rcases List.mem_cons.mp hk with e | hk
    · subst e
      exact ⟨xcB_ok (ex_23 c.more), of_decide_eq_true (ex_24 c.more)⟩
    rcases List.mem_cons.mp hk with e | hk
    · subst e
      exact ⟨xcB_ok (ex_25 c.more), of_decide_eq_true (ex_26 c.more)⟩
    rcases List.mem_cons.mp hk with e | hk
    · subst e
      exact ⟨xcB_ok (ex_27 c.more), of_decide_eq_true (ex_28 c.more)⟩
    rcases List.mem_cons.mp hk with e | hk
    · subst e
      exact ⟨xcB_ok (ex_29 c.more), of_decide_eq_true (ex_30 c.more)⟩
    rcases List.mem_cons.mp hk with e | hk
    · subst e
      exact ⟨xcB_ok (ex_31 c.more), of_decide_eq_true (ex_32 c.more)⟩
    rcases List.mem_cons.mp hk with e | hk
    · subst e
      exact ⟨xcB_ok (ex_33 c.more), of_decide_eq_true (ex_34 c.more)⟩
    exact absurd hk List.not_mem_nil
  have yb_ValueError : IsXOk K ⟨K, clA K, fun _ => 0, P, w⟩ [11, 12, 13, 14, 15, 16, 17, 18, 19, 20, 21, 22, 23] (.type "ValueError") (fun c => isSubB c "ValueError") := fun k hk => by
    replace hk : k ∈ ([11, 12, 13, 14, 15, 16, 17, 18, 19, 20, 21, 22, 23] : List Nat) := hk
    rcases List.mem_cons.mp hk with e | hk
    · subst e
      exact ⟨xcB_ok (ex_9 c.more), of_decide_eq_true (ex_35 c.more)⟩
    rcases List.mem_cons.mp hk with e | hk
    · subst e
      exact ⟨xcB_ok (ex_11 c.more), of_decide_eq_true (ex_36 c.more)⟩
    rcases List.mem_cons.mp hk with e | hk
    · subst e
      exact ⟨xcB_ok (ex_13 c.more), of_decide_eq_true (ex_37 c.more)⟩
    rcases List.mem_cons.mp hk with e | hk
    · subst e
      exact ⟨xcB_ok (ex_15 c.more), of_decide_eq_true (ex_38 c.more)⟩
    rcases List.mem_cons.mp hk with e | hk
    · subst e
      exact ⟨xcB_ok (ex_17 c.more), of_decide_eq_true (ex_39 c.more)⟩
    rcases List.mem_cons.mp hk with e | hk
    · subst e
      exact ⟨xcB_ok (ex_19 c.more), of_decide_eq_true (ex_40 c.more)⟩
    rcases List.mem_cons.mp hk with e | hk
    · subst e
      exact ⟨xcB_ok (ex_21 c.more), of_decide_eq_true (ex_41 c.more)⟩
    rcases List.mem_cons.mp hk with e | hk
    · subst e
      exact ⟨xcB_ok (ex_23 c.more), of_decide_eq_true (ex_42 c.more)⟩
    rcases List.mem_cons.mp hk with e | hk
    · subst e
      exact ⟨xcB_ok (ex_25 c.more), of_decide_eq_true (ex_43 c.more)⟩
    rcases List.mem_cons.mp hk with e | hk
    · subst e
      exact ⟨xcB_ok (ex_27 c.more), of_decide_eq_true (ex_44 c.more)⟩
    rcases List.mem_cons.mp hk with e | hk
    · subst e
      exact ⟨xcB_ok (ex_29 c.more), of_decide_eq_true (ex_45 c.more)⟩
    rcases List.mem_cons.mp hk with e | hk
    · subst e
      exact ⟨xcB_ok (ex_31 c.more), of_decide_eq_true (ex_46 c.more)⟩
    rcases List.mem_cons.mp hk with e | hk
    · subst e
      exact ⟨xcB_ok (ex_33 c.more), of_decide_eq_true (ex_47 c.more)⟩
    exact absurd hk List.not_mem_nil
  have yf_limit : XvOk K ⟨K, clA K, fun _ => 0, P, w⟩ [21] "limit" := fun k hk => by
    replace hk : k ∈ ([21] : List Nat) := hk
    rcases List.mem_cons.mp hk with e | hk
    · subst e
      exact ⟨xcB_ok (ex_29 c.more), of_decide_eq_true (ex_48 c.more)⟩
    exact absurd hk List.not_mem_nil
  have yf_line : XvOk K ⟨K, clA K, fun _ => 0, P, w⟩ [15] "line" := fun k hk => by
    replace hk : k ∈ ([15] : List Nat) := hk
    rcases List.mem_cons.mp hk with e | hk
    · subst e
      exact ⟨xcB_ok (ex_17 c.more), of_decide_eq_true (ex_49 c.more)⟩
    exact absurd hk List.not_mem_nil
  have yf_mark : XvOk K ⟨K, clA K, fun _ => 0, P, w⟩ [14] "mark" := fun k hk => by
    replace hk : k ∈ ([14] : List Nat) := hk
    rcases List.mem_cons.mp hk with e | hk
    · subst e
      exact ⟨xcB_ok (ex_15 c.more), of_decide_eq_true (ex_50 c.more)⟩
    exact absurd hk List.not_mem_nil
  have yf_number : XvOk K ⟨K, clA K, fun _ => 0, P, w⟩ [13, 15, 23] "number" := fun k hk => by
    replace hk : k ∈ ([13, 15, 23] : List Nat) := hk
    rcases List.mem_cons.mp hk with e | hk
    · subst e
      exact ⟨xcB_ok (ex_13 c.more), of_decide_eq_true (ex_51 c.more)⟩
    rcases List.mem_cons.mp hk with e | hk
    · subst e
      exact ⟨xcB_ok (ex_17 c.more), of_decide_eq_true (ex_52 c.more)⟩
    rcases List.mem_cons.mp hk with e | hk
    · subst e
      exact ⟨xcB_ok (ex_33 c.more), of_decide_eq_true (ex_53 c.more)⟩
    exact absurd hk List.not_mem_nil
  have yf_role : XvOk K ⟨K, clA K, fun _ => 0, P, w⟩ [16] "role" := fun k hk => by
    replace hk : k ∈ ([16] : List Nat) := hk
    rcases List.mem_cons.mp hk with e | hk
    · subst e
      exact ⟨xcB_ok (ex_19 c.more), of_decide_eq_true (ex_54 c.more)⟩
    exact absurd hk List.not_mem_nil
  have yf_value : XvOk K ⟨K, clA K, fun _ => 0, P, w⟩ [11] "value" := fun k hk => by
    replace hk : k ∈ ([11] : List Nat) := hk
    rcases List.mem_cons.mp hk with e | hk
    · subst e
      exact ⟨xcB_ok (ex_9 c.more), of_decide_eq_true (ex_55 c.more)⟩
    exact absurd hk List.not_mem_nil
  have yf_word : XvOk K ⟨K, clA K, fun _ => 0, P, w⟩ [12, 13] "word" := fun k hk => by
    replace hk : k ∈ ([12, 13] : List Nat) := hk
    rcases List.mem_cons.mp hk with e | hk
    · subst e
      exact ⟨xcB_ok (ex_11 c.more), of_decide_eq_true (ex_56 c.more)⟩
    rcases List.mem_cons.mp hk with e | hk
    · subst e
      exact ⟨xcB_ok (ex_13 c.more), of_decide_eq_true (ex_57 c.more)⟩
    exact absurd hk List.not_mem_nil
  have yo_10 : IsXOk K ⟨K, clA K, fun _ => 0, P, w⟩ [11, 12, 13, 14, 15, 16, 17, 18, 19, 20, 21, 22, 23] (.ref (clA K 10)) (fun c => isSub c 10) := fun k hk => by
    replace hk : k ∈ ([11, 12, 13, 14, 15, 16, 17, 18, 19, 20, 21, 22, 23] : List Nat) := hk
    rcases List.mem_cons.mp hk with e | hk
    · subst e
      exact ⟨xcB_ok (ex_9 c.more), of_decide_eq_true (ex_58 c.more)⟩
    rcases List.mem_cons.mp hk with e | hk
    · subst e
      exact ⟨xcB_ok (ex_11 c.more), of_decide_eq_true (ex_59 c.more)⟩
    rcases List.mem_cons.mp hk with e | hk
    · subst e
      exact ⟨xcB_ok (ex_13 c.more), of_decide_eq_true (ex_60 c.more)⟩
    rcases List.mem_cons.mp hk with e | hk
    · subst e
      exact ⟨xcB_ok (ex_15 c.more), of_decide_eq_true (ex_61 c.more)⟩
    rcases List.mem_cons.mp hk with e | hk
    · subst e
      exact ⟨xcB_ok (ex_17 c.more), of_decide_eq_true (ex_62 c.more)⟩
    rcases List.mem_cons.mp hk with e | hk
    · subst e
      exact ⟨xcB_ok (ex_19 c.more), of_decide_eq_true (ex_63 c.more)⟩
    rcases List.mem_cons.mp hk with e | hk
    · subst e
      exact ⟨xcB_ok (ex_21 c.more), of_decide_eq_true (ex_64 c.more)⟩
    rcases List.mem_cons.mp hk with e | hk
    · subst e
      exact ⟨xcB_ok (ex_23 c.more), of_decide_eq_true (ex_65 c.more)⟩
    rcases List.mem_cons.mp hk with e | hk
    · subst e
      exact ⟨xcB_ok (ex_25 c.more), of_decide_eq_true (ex_66 c.more)⟩
    rcases List.mem_cons.mp hk with e | hk
    · subst e
      exact ⟨xcB_ok (ex_27 c.more), of_decide_eq_true (ex_67 c.more)⟩
    rcases List.mem_cons.mp hk with e | hk
    · subst e
      exact ⟨xcB_ok (ex_29 c.more), of_decide_eq_true (ex_68 c.more)⟩
    rcases List.mem_cons.mp hk with e | hk
    · subst e
      exact ⟨xcB_ok (ex_31 c.more), of_decide_eq_true (ex_69 c.more)⟩
    rcases List.mem_cons.mp hk with e | hk
    · subst e
      exact ⟨xcB_ok (ex_33 c.more), of_decide_eq_true (ex_70 c.more)⟩
    exact absurd hk List.not_mem_nil
  have yo_11 : IsXOk K ⟨K, clA K, fun _ => 0, P, w⟩ [11, 12, 13, 14, 15, 16, 17, 18, 19, 20, 21, 22, 23] (.ref (clA K 11)) (fun c => isSub c 11) := fun k hk => by
    replace hk : k ∈ ([11, 12, 13, 14, 15, 16, 17, 18, 19, 20, 21, 22, 23] : List Nat) := hk
    rcases List.mem_cons.mp hk with e | hk
    · subst e
      exact ⟨xcB_ok (ex_9 c.more), of_decide_eq_true (ex_71 c.more)⟩
    rcases List.mem_cons.mp hk with e | hk
    · subst e
      exact ⟨xcB_ok (ex_11 c.more), of_decide_eq_true (ex_72 c.more)⟩
    rcases List.mem_cons.mp hk with e | hk
    · subst e
      exact ⟨xcB_ok (ex_13 c.more), of_decide_eq_true (ex_73 c.more)⟩
    rcases List.mem_cons.mp hk with e | hk
    · subst e
      exact ⟨xcB_ok (ex_15 c.more), of_decide_eq_true (ex_74 c.more)⟩
    rcases List.mem_cons.mp hk with e | hk
    · subst e
      exact ⟨xcB_ok (ex_17 c.more), of_decide_eq_true (ex_75 c.more)⟩
    rcases List.mem_cons.mp hk with e | hk
    · subst e
      exact ⟨xcB_ok (ex_19 c.more), of_decide_eq_true (ex_76 c.more)⟩
    rcases List.mem_cons.mp hk with e | hk
    · subst e
      exact ⟨xcB_ok (ex_21 c.more), of_decide_eq_true (ex_77 c.more)⟩
    rcases List.mem_cons.mp hk with e | hk
    · subst e
      exact ⟨xcB_ok (ex_23 c.more), of_decide_eq_true (ex_78 c.more)⟩
    rcases List.mem_cons.mp hk with e | hk
    · subst e
      exact ⟨xcB_ok (ex_25 c.more), of_decide_eq_true (ex_79 c.more)⟩
    rcases List.mem_cons.mp hk with e | hk
    · subst e
      exact ⟨xcB_ok (ex_27 c.more), of_decide_eq_true (ex_80 c.more)⟩
    rcases List.mem_cons.mp hk with e | hk
    · subst e
      exact ⟨xcB_ok (ex_29 c.more), of_decide_eq_true (ex_81 c.more)⟩
    rcases List.mem_cons.mp hk with e | hk
    · subst e
      exact ⟨xcB_ok (ex_31 c.more), of_decide_eq_true (ex_82 c.more)⟩
    rcases List.mem_cons.mp hk with e | hk
    · subst e
      exact ⟨xcB_ok (ex_33 c.more), of_decide_eq_true (ex_83 c.more)⟩
    exact absurd hk List.not_mem_nil
  have yo_12 : IsXOk K ⟨K, clA K, fun _ => 0, P, w⟩ [11, 12, 13, 14, 15, 16, 17, 18, 19, 20, 21, 22, 23] (.ref (clA K 12)) (fun c => isSub c 12) := fun k hk => by
    replace hk : k ∈ ([11, 12, 13, 14, 15, 16, 17, 18, 19, 20, 21, 22, 23] : List Nat) := hk
    rcases List.mem_cons.mp hk with e | hk
    · subst e
      exact ⟨xcB_ok (ex_9 c.more), of_decide_eq_true (ex_84 c.more)⟩
    rcases List.mem_cons.mp hk with e | hk
    · subst e
      exact ⟨xcB_ok (ex_11 c.more), of_decide_eq_true (ex_85 c.more)⟩
    rcases List.mem_cons.mp hk with e | hk
    · subst e
      exact ⟨xcB_ok (ex_13 c.more), of_decide_eq_true (ex_86 c.more)⟩
    rcases List.mem_cons.mp hk with e | hk
    · subst e
      exact ⟨xcB_ok (ex_15 c.more), of_decide_eq_true (ex_87 c.more)⟩
    rcases List.mem_cons.mp hk with e | hk
    · subst e
      exact ⟨xcB_ok (ex_17 c.more), of_decide_eq_true (ex_88 c.more)⟩
    rcases List.mem_cons.mp hk with e | hk
    · subst e
      exact ⟨xcB_ok (ex_19 c.more), of_decide_eq_true (ex_89 c.more)⟩
    rcases List.mem_cons.mp hk with e | hk
    · subst e
      exact ⟨xcB_ok (ex_21 c.more), of_decide_eq_true (ex_90 c.more)⟩
    rcases List.mem_cons.mp hk with e | hk
    · subst e
      exact ⟨xcB_ok (ex_23 c.more), of_decide_eq_true (ex_91 c.more)⟩
    rcases List.mem_cons.mp hk with e | hk
    · subst e
      exact ⟨xcB_ok (ex_25 c.more), of_decide_eq_true (ex_92 c.more)⟩
    rcases List.mem_cons.mp hk with e | hk
    · subst e
      exact ⟨xcB_ok (ex_27 c.more), of_decide_eq_true (ex_93 c.more)⟩
    rcases List.mem_cons.mp hk with e | hk
    · subst e
      exact ⟨xcB_ok (ex_29 c.more), of_decide_eq_true (ex_94 c.more)⟩
    rcases List.mem_cons.mp hk with e | hk
    · subst e
      exact ⟨xcB_ok (ex_31 c.more), of_decide_eq_true (ex_95 c.more)⟩
    rcases List.mem_cons.mp hk with e | hk
    · subst e
      exact ⟨xcB_ok (ex_33 c.more), of_decide_eq_true (ex_96 c.more)⟩
    exact absurd hk List.not_mem_nil
  have yo_13 : IsXOk K ⟨K, clA K, fun _ => 0, P, w⟩ [11, 12, 13, 14, 15, 16, 17, 18, 19, 20, 21, 22, 23] (.ref (clA K 13)) (fun c => isSub c 13) := fun k hk => by
    replace hk : k ∈ ([11, 12, 13, 14, 15, 16, 17, 18, 19, 20, 21, 22, 23] : List Nat) := hk
    rcases List.mem_cons.mp hk with e | hk
    · subst e
      exact ⟨xcB_ok (ex_9 c.more), of_decide_eq_true (ex_97 c.more)⟩
    rcases List.mem_cons.mp hk with e | hk
    · subst e
      exact ⟨xcB_ok (ex_11 c.more), of_decide_eq_true (ex_98 c.more)⟩
    rcases List.mem_cons.mp hk with e | hk
    · subst e
      exact ⟨xcB_ok (ex_13 c.more), of_decide_eq_true (ex_99 c.more)⟩
    rcases List.mem_cons.mp hk with e | hk
    · subst e
      exact ⟨xcB_ok (ex_15 c.more), of_decide_eq_true (ex_100 c.more)⟩
    rcases List.mem_cons.mp hk with e | hk
    · subst e
      exact ⟨xcB_ok (ex_17 c.more), of_decide_eq_true (ex_101 c.more)⟩
    rcases List.mem_cons.mp hk with e | hk
    · subst e
      exact ⟨xcB_ok (ex_19 c.more), of_decide_eq_true (ex_102 c.more)⟩
    rcases List.mem_cons.mp hk with e | hk
    · subst e
      exact ⟨xcB_ok (ex_21 c.more), of_decide_eq_true (ex_103 c.more)⟩
    rcases List.mem_cons.mp hk with e | hk
    · subst e
      exact ⟨xcB_ok (ex_23 c.more), of_decide_eq_true (ex_104 c.more)⟩
    rcases List.mem_cons.mp hk with e | hk
    · subst e
      exact ⟨xcB_ok (ex_25 c.more), of_decide_eq_true (ex_105 c.more)⟩
    rcases List.mem_cons.mp hk with e | hk
    · subst e
      exact ⟨xcB_ok (ex_27 c.more), of_decide_eq_true (ex_106 c.more)⟩
    rcases List.mem_cons.mp hk with e | hk
    · subst e
      exact ⟨xcB_ok (ex_29 c.more), of_decide_eq_true (ex_107 c.more)⟩
    rcases List.mem_cons.mp hk with e | hk
    · subst e
      exact ⟨xcB_ok (ex_31 c.more), of_decide_eq_true (ex_108 c.more)⟩
    rcases List.mem_cons.mp hk with e | hk
    · subst e
      exact ⟨xcB_ok (ex_33 c.more), of_decide_eq_true (ex_109 c.more)⟩
    exact absurd hk List.not_mem_nil
  have yo_14 : IsXOk K ⟨K, clA K, fun _ => 0, P, w⟩ [11, 12, 13, 14, 15, 16, 17, 18, 19, 20, 21, 22, 23] (.ref (clA K 14)) (fun c => isSub c 14) := fun k hk => by
    replace hk : k ∈ ([11, 12, 13, 14, 15, 16, 17, 18, 19, 20, 21, 22, 23] : List Nat) := hk
    rcases List.mem_cons.mp hk with e | hk
    · subst e
      exact ⟨xcB_ok (ex_9 c.more), of_decide_eq_true (ex_110 c.more)⟩
    rcases List.mem_cons.mp hk with e | hk
    · subst e
      exact ⟨xcB_ok (ex_11 c.more), of_decide_eq_true (ex_111 c.more)⟩
    rcases List.mem_cons.mp hk with e | hk
    · subst e
      exact ⟨xcB_ok (ex_13 c.more), of_decide_eq_true (ex_112 c.more)⟩
    rcases List.mem_cons.mp hk with e | hk
    · subst e
      exact ⟨xcB_ok (ex_15 c.more), of_decide_eq_true (ex_113 c.more)⟩
    rcases List.mem_cons.mp hk with e | hk
    · subst e
      exact ⟨xcB_ok (ex_17 c.more), of_decide_eq_true (ex_114 c.more)⟩
    rcases List.mem_cons.mp hk with e | hk
    · subst e
      exact ⟨xcB_ok (ex_19 c.more), of_decide_eq_true (ex_115 c.more)⟩
    rcases List.mem_cons.mp hk with e | hk
    · subst e
      exact ⟨xcB_ok (ex_21 c.more), of_decide_eq_true (ex_116 c.more)⟩
    rcases List.mem_cons.mp hk with e | hk
    · subst e
      exact ⟨xcB_ok (ex_23 c.more), of_decide_eq_true (ex_117 c.more)⟩
    rcases List.mem_cons.mp hk with e | hk
    · subst e
      exact ⟨xcB_ok (ex_25 c.more), of_decide_eq_true (ex_118 c.more)⟩
    rcases List.mem_cons.mp hk with e | hk
    · subst e
      exact ⟨xcB_ok (ex_27 c.more), of_decide_eq_true (ex_119 c.more)⟩
    rcases List.mem_cons.mp hk with e | hk
    · subst e
      exact ⟨xcB_ok (ex_29 c.more), of_decide_eq_true (ex_120 c.more)⟩
    rcases List.mem_cons.mp hk with e | hk
    · subst e
      exact ⟨xcB_ok (ex_31 c.more), of_decide_eq_true (ex_121 c.more)⟩
    rcases List.mem_cons.mp hk with e | hk
    · subst e
      exact ⟨xcB_ok (ex_33 c.more), of_decide_eq_true (ex_122 c.more)⟩
    exact absurd hk List.not_mem_nil
  have yo_15 : IsXOk K ⟨K, clA K, fun _ => 0, P, w⟩ [11, 12, 13, 14, 15, 16, 17, 18, 19, 20, 21, 22, 23] (.ref (clA K 15)) (fun c => isSub c 15) := fun k hk => by
    replace hk : k ∈ ([11, 12, 13, 14, 15, 16, 17, 18, 19, 20, 21, 22, 23] : List Nat) := hk
    rcases List.mem_cons.mp hk with e | hk
    · subst e
      exact ⟨xcB_ok (ex_9 c.more), of_decide_eq_true (ex_123 c.more)⟩
    rcases List.mem_cons.mp hk with e | hk
    · subst e
      exact ⟨xcB_ok (ex_11 c.more), of_decide_eq_true (ex_124 c.more)⟩
    rcases List.mem_cons.mp hk with e | hk
    · subst e
      exact ⟨xcB_ok (ex_13 c.more), of_decide_eq_true (ex_125 c.more)⟩
    rcases List.mem_cons.mp hk with e | hk
    · subst e
      exact ⟨xcB_ok (ex_15 c.more), of_decide_eq_true (ex_126 c.more)⟩
    rcases List.mem_cons.mp hk with e | hk
    · subst e
      exact ⟨xcB_ok (ex_17 c.more), of_decide_eq_true (ex_127 c.more)⟩
    rcases List.mem_cons.mp hk with e | hk
    · subst e
      exact ⟨xcB_ok (ex_19 c.more), of_decide_eq_true (ex_128 c.more)⟩
    rcases List.mem_cons.mp hk with e | hk
    · subst e
      exact ⟨xcB_ok (ex_21 c.more), of_decide_eq_true (ex_129 c.more)⟩
    rcases List.mem_cons.mp hk with e | hk
    · subst e
      exact ⟨xcB_ok (ex_23 c.more), of_decide_eq_true (ex_130 c.more)⟩
    rcases List.mem_cons.mp hk with e | hk
    · subst e
      exact ⟨xcB_ok (ex_25 c.more), of_decide_eq_true (ex_131 c.more)⟩
    rcases List.mem_cons.mp hk with e | hk
    · subst e
      exact ⟨xcB_ok (ex_27 c.more), of_decide_eq_true (ex_132 c.more)⟩
    rcases List.mem_cons.mp hk with e | hk
    · subst e
      exact ⟨xcB_ok (ex_29 c.more), of_decide_eq_true (ex_133 c.more)⟩
    rcases List.mem_cons.mp hk with e | hk
    · subst e
      exact ⟨xcB_ok (ex_31 c.more), of_decide_eq_true (ex_134 c.more)⟩
    rcases List.mem_cons.mp hk with e | hk
    · subst e
      exact ⟨xcB_ok (ex_33 c.more), of_decide_eq_true (ex_135 c.more)⟩
    exact absurd hk List.not_mem_nil
  have yo_16 : IsXOk K ⟨K, clA K, fun _ => 0, P, w⟩ [11, 12, 13, 14, 15, 16, 17, 18, 19, 20, 21, 22, 23] (.ref (clA K 16)) (fun c => isSub c 16) := fun k hk => by
    replace hk : k ∈ ([11, 12, 13, 14, 15, 16, 17, 18, 19, 20, 21, 22, 23] : List Nat) := hk
    rcases List.mem_cons.mp hk with e | hk
    · subst e
      exact ⟨xcB_ok (ex_9 c.more), of_decide_eq_true (ex_136 c.more)⟩
    rcases List.mem_cons.mp hk with e | hk
    · subst e
      exact ⟨xcB_ok (ex_11 c.more), of_decide_eq_true (ex_137 c.more)⟩
    rcases List.mem_cons.mp hk with e | hk
    · subst e
      exact ⟨xcB_ok (ex_13 c.more), of_decide_eq_true (ex_138 c.more)⟩
    rcases List.mem_cons.mp hk with e | hk
    · subst e
      exact ⟨xcB_ok (ex_15 c.more), of_decide_eq_true (ex_139 c.more)⟩
    rcases List.mem_cons.mp hk with e | hk
    · subst e
      exact ⟨xcB_ok (ex_17 c.more), of_decide_eq_true (ex_140 c.more)⟩
    rcases List.mem_cons.mp hk with e | hk
    · subst e
      exact ⟨xcB_ok (ex_19 c.more), of_decide_eq_true (ex_141 c.more)⟩
    rcases List.mem_cons.mp hk with e | hk
    · subst e
      exact ⟨xcB_ok (ex_21 c.more), of_decide_eq_true (ex_142 c.more)⟩
    rcases List.mem_cons.mp hk with e | hk
    · subst e
      exact ⟨xcB_ok (ex_23 c.more), of_decide_eq_true (ex_143 c.more)⟩
    rcases List.mem_cons.mp hk with e | hk
    · subst e
      exact ⟨xcB_ok (ex_25 c.more), of_decide_eq_true (ex_144 c.more)⟩
    rcases List.mem_cons.mp hk with e | hk
    · subst e
      exact ⟨xcB_ok (ex_27 c.more), of_decide_eq_true (ex_145 c.more)⟩
    rcases List.mem_cons.mp hk with e | hk
    · subst e
      exact ⟨xcB_ok (ex_29 c.more), of_decide_eq_true (ex_146 c.more)⟩
    rcases List.mem_cons.mp hk with e | hk
    · subst e
      exact ⟨xcB_ok (ex_31 c.more), of_decide_eq_true (ex_147 c.more)⟩
    rcases List.mem_cons.mp hk with e | hk
    · subst e
      exact ⟨xcB_ok (ex_33 c.more), of_decide_eq_true (ex_148 c.more)⟩
    exact absurd hk List.not_mem_nil
  have yo_17 : IsXOk K ⟨K, clA K, fun _ => 0, P, w⟩ [11, 12, 13, 14, 15, 16, 17, 18, 19, 20, 21, 22, 23] (.ref (clA K 17)) (fun c => isSub c 17) := fun k hk => by
    replace hk : k ∈ ([11, 12, 13, 14, 15, 16, 17, 18, 19, 20, 21, 22, 23] : List Nat) := hk
    rcases List.mem_cons.mp hk with e | hk
    · subst e
      exact ⟨xcB_ok (ex_9 c.more), of_decide_eq_true (ex_149 c.more)⟩
    rcases List.mem_cons.mp hk with e | hk
    · subst e
      exact ⟨xcB_ok (ex_11 c.more), of_decide_eq_true (ex_150 c.more)⟩
    rcases List.mem_cons.mp hk with e | hk
    · subst e
      exact ⟨xcB_ok (ex_13 c.more), of_decide_eq_true (ex_151 c.more)⟩
    rcases List.mem_cons.mp hk with e | hk
    · subst e
      exact ⟨xcB_ok (ex_15 c.more), of_decide_eq_true (ex_152 c.more)⟩
    rcases List.mem_cons.mp hk with e | hk
    · subst e
      exact ⟨xcB_ok (ex_17 c.more), of_decide_eq_true (ex_153 c.more)⟩
    rcases List.mem_cons.mp hk with e | hk
    · subst e
      exact ⟨xcB_ok (ex_19 c.more), of_decide_eq_true (ex_154 c.more)⟩
    rcases List.mem_cons.mp hk with e | hk
    · subst e
      exact ⟨xcB_ok (ex_21 c.more), of_decide_eq_true (ex_155 c.more)⟩
    rcases List.mem_cons.mp hk with e | hk
    · subst e
      exact ⟨xcB_ok (ex_23 c.more), of_decide_eq_true (ex_156 c.more)⟩
    rcases List.mem_cons.mp hk with e | hk
    · subst e
      exact ⟨xcB_ok (ex_25 c.more), of_decide_eq_true (ex_157 c.more)⟩
    rcases List.mem_cons.mp hk with e | hk
    · subst e
      exact ⟨xcB_ok (ex_27 c.more), of_decide_eq_true (ex_158 c.more)⟩
    rcases List.mem_cons.mp hk with e | hk
    · subst e
      exact ⟨xcB_ok (ex_29 c.more), of_decide_eq_true (ex_159 c.more)⟩
    rcases List.mem_cons.mp hk with e | hk
    · subst e
      exact ⟨xcB_ok (ex_31 c.more), of_decide_eq_true (ex_160 c.more)⟩
    rcases List.mem_cons.mp hk with e | hk
    · subst e
      exact ⟨xcB_ok (ex_33 c.more), of_decide_eq_true (ex_161 c.more)⟩
    exact absurd hk List.not_mem_nil
  have yo_18 : IsXOk K ⟨K, clA K, fun _ => 0, P, w⟩ [11, 12, 13, 14, 15, 16, 17, 18, 19, 20, 21, 22, 23] (.ref (clA K 18)) (fun c => isSub c 18) := fun k hk => by
    replace hk : k ∈ ([11, 12, 13, 14, 15, 16, 17, 18, 19, 20, 21, 22, 23] : List Nat) := hk
    rcases List.mem_cons.mp hk with e | hk
    · subst e
      exact ⟨xcB_ok (ex_9 c.more), of_decide_eq_true (ex_162 c.more)⟩
    rcases List.mem_cons.mp hk with e | hk
    · subst e
      exact ⟨xcB_ok (ex_11 c.more), of_decide_eq_true (ex_163 c.more)⟩
    rcases List.mem_cons.mp hk with e | hk
    · subst e
      exact ⟨xcB_ok (ex_13 c.more), of_decide_eq_true (ex_164 c.more)⟩
    rcases List.mem_cons.mp hk with e | hk
    · subst e
      exact ⟨xcB_ok (ex_15 c.more), of_decide_eq_true (ex_165 c.more)⟩
    rcases List.mem_cons.mp hk with e | hk
    · subst e
      exact ⟨xcB_ok (ex_17 c.more), of_decide_eq_true (ex_166 c.more)⟩
    rcases List.mem_cons.mp hk with e | hk
    · subst e
      exact ⟨xcB_ok (ex_19 c.more), of_decide_eq_true (ex_167 c.more)⟩
    rcases List.mem_cons.mp hk with e | hk
    · subst e
      exact ⟨xcB_ok (ex_21 c.more), of_decide_eq_true (ex_168 c.more)⟩
    rcases List.mem_cons.mp hk with e | hk
    · subst e
      exact ⟨xcB_ok (ex_23 c.more), of_decide_eq_true (ex_169 c.more)⟩
    rcases List.mem_cons.mp hk with e | hk
    · subst e
      exact ⟨xcB_ok (ex_25 c.more), of_decide_eq_true (ex_170 c.more)⟩
    rcases List.mem_cons.mp hk with e | hk
    · subst e
      exact ⟨xcB_ok (ex_27 c.more), of_decide_eq_true (ex_171 c.more)⟩
    rcases List.mem_cons.mp hk with e | hk
    · subst e
      exact ⟨xcB_ok (ex_29 c.more), of_decide_eq_true (ex_172 c.more)⟩
    rcases List.mem_cons.mp hk with e | hk
    · subst e
      exact ⟨xcB_ok (ex_31 c.more), of_decide_eq_true (ex_173 c.more)⟩
    rcases List.mem_cons.mp hk with e | hk
    · subst e
      exact ⟨xcB_ok (ex_33 c.more), of_decide_eq_true (ex_174 c.more)⟩
    exact absurd hk List.not_mem_nil
  have yo_19 : IsXOk K ⟨K, clA K, fun _ => 0, P, w⟩ [11, 12, 13, 14, 15, 16, 17, 18, 19, 20, 21, 22, 23] (.ref (clA K 19)) (fun c => isSub c 19) := fun k hk => by
    replace hk : k ∈ ([11, 12, 13, 14, 15, 16, 17, 18, 19, 20, 21, 22, 23] : List Nat) := hk
    rcases List.mem_cons.mp hk with e | hk
    · subst e
      exact ⟨xcB_ok (ex_9 c.more), of_decide_eq_true (ex_175 c.more)⟩
    rcases List.mem_cons.mp hk with e | hk
    · subst e
      exact ⟨xcB_ok (ex_11 c.more), of_decide_eq_true (ex_176 c.more)⟩
    rcases List.mem_cons.mp hk with e | hk
    · subst e
      exact ⟨xcB_ok (ex_13 c.more), of_decide_eq_true (ex_177 c.more)⟩
    rcases List.mem_cons.mp hk with e | hk
    · subst e
      exact ⟨xcB_ok (ex_15 c.more), of_decide_eq_true (ex_178 c.more)⟩
    rcases List.mem_cons.mp hk with e | hk
    · subst e
      exact ⟨xcB_ok (ex_17 c.more), of_decide_eq_true (ex_179 c.more)⟩
    rcases List.mem_cons.mp hk with e | hk
    · subst e
      exact ⟨xcB_ok (ex_19 c.more), of_decide_eq_true (ex_180 c.more)⟩
    rcases List.mem_cons.mp hk with e | hk
    · subst e
      exact ⟨xcB_ok (ex_21 c.more), of_decide_eq_true (ex_181 c.more)⟩
    rcases List.mem_cons.mp hk with e | hk
    · subst e
      exact ⟨xcB_ok (ex_23 c.more), of_decide_eq_true (ex_182 c.more)⟩
    rcases List.mem_cons.mp hk with e | hk
    · subst e
      exact ⟨xcB_ok (ex_25 c.more), of_decide_eq_true (ex_183 c.more)⟩
    rcases List.mem_cons.mp hk with e | hk
    · subst e
      exact ⟨xcB_ok (ex_27 c.more), of_decide_eq_true (ex_184 c.more)⟩
    rcases List.mem_cons.mp hk with e | hk
    · subst e
      exact ⟨xcB_ok (ex_29 c.more), of_decide_eq_true (ex_185 c.more)⟩
    rcases List.mem_cons.mp hk with e | hk
    · subst e
      exact ⟨xcB_ok (ex_31 c.more), of_decide_eq_true (ex_186 c.more)⟩
    rcases List.mem_cons.mp hk with e | hk
    · subst e
      exact ⟨xcB_ok (ex_33 c.more), of_decide_eq_true (ex_187 c.more)⟩
    exact absurd hk List.not_mem_nil
  have yo_20 : IsXOk K ⟨K, clA K, fun _ => 0, P, w⟩ [11, 12, 13, 14, 15, 16, 17, 18, 19, 20, 21, 22, 23] (.ref (clA K 20)) (fun c => isSub c 20) := fun k hk => by
    replace hk : k ∈ ([11, 12, 13, 14, 15, 16, 17, 18, 19, 20, 21, 22, 23] : List Nat) := hk
    rcases List.mem_cons.mp hk with e | hk
    · subst e
      exact ⟨xcB_ok (ex_9 c.more), of_decide_eq_true (ex_188 c.more)⟩
    rcases List.mem_cons.mp hk with e | hk
    · subst e
      exact ⟨xcB_ok (ex_11 c.more), of_decide_eq_true (ex_189 c.more)⟩
    rcases List.mem_cons.mp hk with e | hk
    · subst e
      exact ⟨xcB_ok (ex_13 c.more), of_decide_eq_true (ex_190 c.more)⟩
    rcases List.mem_cons.mp hk with e | hk
    · subst e
      exact ⟨xcB_ok (ex_15 c.more), of_decide_eq_true (ex_191 c.more)⟩
    rcases List.mem_cons.mp hk with e | hk
    · subst e
      exact ⟨xcB_ok (ex_17 c.more), of_decide_eq_true (ex_192 c.more)⟩
    rcases List.mem_cons.mp hk with e | hk
    · subst e
      exact ⟨xcB_ok (ex_19 c.more), of_decide_eq_true (ex_193 c.more)⟩
    rcases List.mem_cons.mp hk with e | hk
    · subst e
      exact ⟨xcB_ok (ex_21 c.more), of_decide_eq_true (ex_194 c.more)⟩
    rcases List.mem_cons.mp hk with e | hk
    · subst e
      exact ⟨xcB_ok (ex_23 c.more), of_decide_eq_true (ex_195 c.more)⟩
    rcases List.mem_cons.mp hk with e | hk
    · subst e
      exact ⟨xcB_ok (ex_25 c.more), of_decide_eq_true (ex_196 c.more)⟩
    rcases List.mem_cons.mp hk with e | hk
    · subst e
      exact ⟨xcB_ok (ex_27 c.more), of_decide_eq_true (ex_197 c.more)⟩
    rcases List.mem_cons.mp hk with e | hk
    · subst e
      exact ⟨xcB_ok (ex_29 c.more), of_decide_eq_true (ex_198 c.more)⟩
    rcases List.mem_cons.mp hk with e | hk
    · subst e
      exact ⟨xcB_ok (ex_31 c.more), of_decide_eq_true (ex_199 c.more)⟩
    rcases List.mem_cons.mp hk with e | hk
    · subst e
      exact ⟨xcB_ok (ex_33 c.more), of_decide_eq_true (ex_200 c.more)⟩
    exact absurd hk List.not_mem_nil
  have yo_21 : IsXOk K ⟨K, clA K, fun _ => 0, P, w⟩ [11, 12, 13, 14, 15, 16, 17, 18, 19, 20, 21, 22, 23] (.ref (clA K 21)) (fun c => isSub c 21) := fun k hk => by
    replace hk : k ∈ ([11, 12, 13, 14, 15, 16, 17, 18, 19, 20, 21, 22, 23] : List Nat) := hk
    rcases List.mem_cons.mp hk with e | hk
    · subst e
      exact ⟨xcB_ok (ex_9 c.more), of_decide_eq_true (ex_201 c.more)⟩
    rcases List.mem_cons.mp hk with e | hk
    · subst e
      exact ⟨xcB_ok (ex_11 c.more), of_decide_eq_true (ex_202 c.more)⟩
    rcases List.mem_cons.mp hk with e | hk
    · subst e
      exact ⟨xcB_ok (ex_13 c.more), of_decide_eq_true (ex_203 c.more)⟩
    rcases List.mem_cons.mp hk with e | hk
    · subst e
      exact ⟨xcB_ok (ex_15 c.more), of_decide_eq_true (ex_204 c.more)⟩
    rcases List.mem_cons.mp hk with e | hk
    · subst e
      exact ⟨xcB_ok (ex_17 c.more), of_decide_eq_true (ex_205 c.more)⟩
    rcases List.mem_cons.mp hk with e | hk
    · subst e
      exact ⟨xcB_ok (ex_19 c.more), of_decide_eq_true (ex_206 c.more)⟩
    rcases List.mem_cons.mp hk with e | hk
    · subst e
      exact ⟨xcB_ok (ex_21 c.more), of_decide_eq_true (ex_207 c.more)⟩
    rcases List.mem_cons.mp hk with e | hk
    · subst e
      exact ⟨xcB_ok (ex_23 c.more), of_decide_eq_true (ex_208 c.more)⟩
    rcases List.mem_cons.mp hk with e | hk
    · subst e
      exact ⟨xcB_ok (ex_25 c.more), of_decide_eq_true (ex_209 c.more)⟩
    rcases List.mem_cons.mp hk with e | hk
    · subst e
      exact ⟨xcB_ok (ex_27 c.more), of_decide_eq_true (ex_210 c.more)⟩
    rcases List.mem_cons.mp hk with e | hk
    · subst e
      exact ⟨xcB_ok (ex_29 c.more), of_decide_eq_true (ex_211 c.more)⟩
    rcases List.mem_cons.mp hk with e | hk
    · subst e
      exact ⟨xcB_ok (ex_31 c.more), of_decide_eq_true (ex_212 c.more)⟩
    rcases List.mem_cons.mp hk with e | hk
    · subst e
      exact ⟨xcB_ok (ex_33 c.more), of_decide_eq_true (ex_213 c.more)⟩
    exact absurd hk List.not_mem_nil
  have yo_22 : IsXOk K ⟨K, clA K, fun _ => 0, P, w⟩ [11, 12, 13, 14, 15, 16, 17, 18, 19, 20, 21, 22, 23] (.ref (clA K 22)) (fun c => isSub c 22) := fun k hk => by
    replace hk : k ∈ ([11, 12, 13, 14, 15, 16, 17, 18, 19, 20, 21, 22, 23] : List Nat) := hk
    rcases List.mem_cons.mp hk with e | hk
    · subst e
      exact ⟨xcB_ok (ex_9 c.more), of_decide_eq_true (ex_214 c.more)⟩
    rcases List.mem_cons.mp hk with e | hk
    · subst e
      exact ⟨xcB_ok (ex_11 c.more), of_decide_eq_true (ex_215 c.more)⟩
    rcases List.mem_cons.mp hk with e | hk
    · subst e
      exact ⟨xcB_ok (ex_13 c.more), of_decide_eq_true (ex_216 c.more)⟩
    rcases List.mem_cons.mp hk with e | hk
    · subst e
      exact ⟨xcB_ok (ex_15 c.more), of_decide_eq_true (ex_217 c.more)⟩
    rcases List.mem_cons.mp hk with e | hk
    · subst e
      exact ⟨xcB_ok (ex_17 c.more), of_decide_eq_true (ex_218 c.more)⟩
    rcases List.mem_cons.mp hk with e | hk
    · subst e
      exact ⟨xcB_ok (ex_19 c.more), of_decide_eq_true (ex_219 c.more)⟩
    rcases List.mem_cons.mp hk with e | hk
    · subst e
      exact ⟨xcB_ok (ex_21 c.more), of_decide_eq_true (ex_220 c.more)⟩
    rcases List.mem_cons.mp hk with e | hk
    · subst e
      exact ⟨xcB_ok (ex_23 c.more), of_decide_eq_true (ex_221 c.more)⟩
    rcases List.mem_cons.mp hk with e | hk
    · subst e
      exact ⟨xcB_ok (ex_25 c.more), of_decide_eq_true (ex_222 c.more)⟩
    rcases List.mem_cons.mp hk with e | hk
    · subst e
      exact ⟨xcB_ok (ex_27 c.more), of_decide_eq_true (ex_223 c.more)⟩
    rcases List.mem_cons.mp hk with e | hk
    · subst e
      exact ⟨xcB_ok (ex_29 c.more), of_decide_eq_true (ex_224 c.more)⟩
    rcases List.mem_cons.mp hk with e | hk
    · subst e
      exact ⟨xcB_ok (ex_31 c.more), of_decide_eq_true (ex_225 c.more)⟩
    rcases List.mem_cons.mp hk with e | hk
    · subst e
      exact ⟨xcB_ok (ex_33 c.more), of_decide_eq_true (ex_226 c.more)⟩
    exact absurd hk List.not_mem_nil
  have yo_23 : IsXOk K ⟨K, clA K, fun _ => 0, P, w⟩ [11, 12, 13, 14, 15, 16, 17, 18, 19, 20, 21, 22, 23] (.ref (clA K 23)) (fun c => isSub c 23) := fun k hk => by
    replace hk : k ∈ ([11, 12, 13, 14, 15, 16, 17, 18, 19, 20, 21, 22, 23] : List Nat) := hk
    rcases List.mem_cons.mp hk with e | hk
    · subst e
      exact ⟨xcB_ok (ex_9 c.more), of_decide_eq_true (ex_227 c.more)⟩
    rcases List.mem_cons.mp hk with e | hk
    · subst e
      exact ⟨xcB_ok (ex_11 c.more), of_decide_eq_true (ex_228 c.more)⟩
    rcases List.mem_cons.mp hk with e | hk
    · subst e
      exact ⟨xcB_ok (ex_13 c.more), of_decide_eq_true (ex_229 c.more)⟩
    rcases List.mem_cons.mp hk with e | hk
    · subst e
      exact ⟨xcB_ok (ex_15 c.more), of_decide_eq_true (ex_230 c.more)⟩
    rcases List.mem_cons.mp hk with e | hk
    · subst e
      exact ⟨xcB_ok (ex_17 c.more), of_decide_eq_true (ex_231 c.more)⟩
    rcases List.mem_cons.mp hk with e | hk
    · subst e
      exact ⟨xcB_ok (ex_19 c.more), of_decide_eq_true (ex_232 c.more)⟩
    rcases List.mem_cons.mp hk with e | hk
    · subst e
      exact ⟨xcB_ok (ex_21 c.more), of_decide_eq_true (ex_233 c.more)⟩
    rcases List.mem_cons.mp hk with e | hk
    · subst e
      exact ⟨xcB_ok (ex_23 c.more), of_decide_eq_true (ex_234 c.more)⟩
    rcases List.mem_cons.mp hk with e | hk
    · subst e
      exact ⟨xcB_ok (ex_25 c.more), of_decide_eq_true (ex_235 c.more)⟩
    rcases List.mem_cons.mp hk with e | hk
    · subst e
      exact ⟨xcB_ok (ex_27 c.more), of_decide_eq_true (ex_236 c.more)⟩
    rcases List.mem_cons.mp hk with e | hk
    · subst e
      exact ⟨xcB_ok (ex_29 c.more), of_decide_eq_true (ex_237 c.more)⟩
    rcases List.mem_cons.mp hk with e | hk
    · subst e
      exact ⟨xcB_ok (ex_31 c.more), of_decide_eq_true (ex_238 c.more)⟩
    rcases List.mem_cons.mp hk with e | hk
    · subst e
      exact ⟨xcB_ok (ex_33 c.more), of_decide_eq_true (ex_239 c.more)⟩
    exact absurd hk List.not_mem_nil
  have c_law_deck_v2 : Cal P w K mg base ⟨K, clA K, fun _ => 0, P, w⟩ "_law_deck" 1 fn_law_deck_v2 := ⟨_, _, _, ok_law_deck_v2 (toFun F_law_deck_v2) b_abs b_int b_len, G_law_deck_v2, F_law_deck_v2.kp, B_law_deck_v2⟩
  have c_law_take_v2 : Cal P w K mg base ⟨K, clA K, fun _ => 0, P, w⟩ "_law_take" 1 fn_law_take_v2 := ⟨_, _, _, ok_law_take_v2 (toFun F_law_take_v2) b_int, G_law_take_v2, F_law_take_v2.kp, B_law_take_v2⟩
  have c_law_pick : Cal P w K mg base ⟨K, clA K, fun _ => 0, P, w⟩ "_law_pick" 2 fn_law_pick := ⟨_, _, _, ok_law_pick (toFun F_law_pick) b_len c_law_take_v2, G_law_pick, F_law_pick.kp, B_law_pick⟩
  have c_law_oddX : Cal P w K mg base ⟨K, clA K, fun _ => 0, P, w⟩ "_law_odd" 3 fn_law_oddX := ⟨_, _, _, ok_law_oddX (toFun F_law_oddX) c_law_pick, G_law_oddX, F_law_oddX.kp, B_law_oddX⟩
  have c_law_flags : Cal P w K mg base ⟨K, clA K, fun _ => 0, P, w⟩ "_law_flags" 1 fn_law_flags := ⟨_, _, _, ok_law_flags (toFun F_law_flags) b_isinstance x_BadGrant x_BadMarks x_BadPolicy x_BadRole x_BadText x_Barred x_Full x_NoGrant x_NotHeld x_NotPlain x_NothingToUndo x_TooMany x_Unlike yo_11 yo_12 yo_13 yo_14 yo_15 yo_16 yo_17 yo_18 yo_19 yo_20 yo_21 yo_22 yo_23, G_law_flags, F_law_flags.kp, B_law_flags⟩
  exact ok_law_k56 (toFun F_law_k56) b_LookupError b_ValueError b_enumerate b_isinstance b_list b_range b_repr c_law_deck_v2 c_law_flags c_law_oddX c_law_pick e_BadGrant e_BadMarks e_BadPolicy e_BadRole e_BadText e_Barred e_Full e_NoGrant e_NotHeld e_NotPlain e_NothingToUndo e_TooMany e_Unlike g_MAX_ASKED g_MAX_CUT g_MAX_EDITS g_MAX_FREED g_MAX_GRANTS g_MAX_LABELS g_MAX_OWNERS g_MAX_PLAIN g_MAX_SETTLED hsm x_GrantError yb_LookupError yb_ValueError yf_limit yf_line yf_mark yf_number yf_role yf_value yf_word yo_10
end T56
open PySem PySem.W PySem.Calls PyProof.Rows
theorem PySem.Challenge.cw_grantsgrow_k56_errors_and_bounds_holds : PySem.Challenge.rw_grantsgrow_k56_errors_and_bounds.Holds := by
  w_on; o_law
  refine HandSHeadRun.head_any (r := OpenLaw.row PySem.Challenge.rw_grantsgrow_k56_errors_and_bounds) (q := view (OpenLaw.row PySem.Challenge.rw_grantsgrow_k56_errors_and_bounds).prog [30]) (H := T56.hk) (ob := T56.ob) (M := 40000) (loose := T56.loose) (d := HandSHeadRun.topDef (OpenLaw.row PySem.Challenge.rw_grantsgrow_k56_errors_and_bounds).prog 30) (kwd := []) T56.ob_eq
    (by kernel_rfl) (fun s => by kernel_rfl) T56.run (by kernel_rfl) (by kernel_rfl) (by kernel_rfl) (by rfl) (by first | assumption | decide +kernel) (by decide +kernel) ⟨rfl, rfl, rfl, rfl, rfl, by decide +kernel⟩ ?hw ?hc
  case hw => w_witness2
  case hc =>
    refine G.walkG (l := PySem.Challenge.rw_grantsgrow_k56_errors_and_bounds) (n := 63) (k := 4) (x := "_law_script") (CX := fun w => L2.CX (PySem.Challenge.rw_grantsgrow_k56_errors_and_bounds).prog w) rfl (by decide) (by kernel_rfl) ⟨rfl, by decide, by decide⟩ ?F (fun w H s e s' z => G.noCX z)
    intro w mg fa h Y Gm hmg0
    obtain ⟨K, KX, c⟩ := Y
    have hmg : mg ("law" : PySem.Str) = some (.ref fa) := by
      have e : (HandSHeadRun.topDef (OpenLaw.row PySem.Challenge.rw_grantsgrow_k56_errors_and_bounds).prog 30).name = ("law" : PySem.Str) := by kernel_rfl
      rw [← e]
      exact hmg0
    obtain ⟨fd, sp, hb, hsp, hF⟩ := T56.facts (P := (PySem.Challenge.rw_grantsgrow_k56_errors_and_bounds).prog) (w := w) KX Gm hmg c
    exact ⟨K, fd, sp, KX, hb, hsp, hF⟩
end
