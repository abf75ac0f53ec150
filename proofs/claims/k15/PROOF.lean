import PyProof.Rows.All
import Wide.All
import OpenK.AllK
import Wide.FinOn
import HandS.Base
import HandS.Call
import HandS.List
import HandS.Comp
import HandS.Ends
import HandS.Dict
import HandS.Iter
import HandS.Text
import HandS.Words
import HandS.Exc
import HandS.HeadHook1
import HandS.TupAny
import HandS.IsInst
import PyProof.ListStr
import PyProof.StrOps2
import PyProof.NoPylong
import PyProof.Fits
import Flt.Len
import HandS.Deep
import HandS.Defaults
import HandS.EndBits
import HandS.Head0
import HandS.Head1
import HandS.Head2
import HandS.HeadEnd
import HandS.HeadHook2
import KE.GoesMore
import KE.KRevSl
import HandS.More
import HandS.Nested
import HandS.ExcInit
import HandS.ExcField
import HandS.ExcIs
import HandS.TryMany
import HandS.Property
import KE.KExcSuper
import KE.KSuper
import HandS.WordsExc
import HandS.Small
import HandS.CallSlots
import HandS.Strs
import HandS.Star
import HandS.OwnEq
import KE.KOpsOwn
import KE.KCallOwn
import HandS.ClsMeth
import HandS.Style
import HandS.MakeKw
import HandS.MakeKwOnly
import HandS.Gcd
import KE.KMathGC
import HandS.Flow
import KE.SortData
import HandS.OwnIter
import HandS.IterVal
import PyProof.WalksMore
import PyProof.CollectWalk
import HandS.Zip
import HandS.DictComp
import HandS.FStr
import HandS.SortKw
import KE.KStateDown
import PySem.Challenge.RW_ballotturns_k15_texts_read
set_option Elab.async false
set_option linter.all false
set_option maxRecDepth 100000
set_option maxHeartbeats 4000000
namespace Dn
open PySem PySem.Spec PyProof.Rows L2
abbrev Fg := PySem.W.Frag
/-- plain data: what never changes -/
inductive D where
  | non | bl (b : Bool) | int (i : Int) | str (x : Str)
  | tup (xs : List D) | lst (xs : List D) | obj (c : Str) (fs : List (Str × D))
  /-- the script | a built-in class | a class of the module -/
  | scr (ns : List Int) | ty (n : String) | cls (c : Str)
  /-- a caught exception | dicts that do not change any more -/
  | exn (c : Str) (fs : List (Str × D)) | dk (kvs : List (Key × D)) | dt (kvs : List (List Key × D))
  /-- a tuple made on the way: nothing is known of its dict -/
  | tupW (xs : List D)
def SqN (K : Fg) (H : Hp) (a : Addr) (xs : List V) : Prop :=
  (∃ o : Obj, H a = some (.frz o (.tup xs)) ∧ o.dict = none) ∨ ∃ (o : Obj) (its : Array Value) (n : Nat), K.lookup a = some o ∧ o.cls = .type "tuple" ∧ o.dict = none ∧ o.data = .seq its n ∧ its.size ≤ sizeLine ∧ Vals xs its.toList
theorem SqN.t {K : Fg} {H : Hp} {a : Addr} {xs : List V} (h : SqN K H a xs) : SqT K H a xs := by
  rcases h with ⟨o, h, _⟩ | ⟨o, its, n, h1, h2, _, h3, h4, h5⟩
  · exact .inl (.inr ⟨o, h⟩)
  · exact .inr ⟨o, its, n, h1, h2, h3, h4, h5⟩
theorem SqN.mono {K : Fg} {H H' : Hp} {a : Addr} {xs : List V} (e : Same H H') (h : SqN K H a xs) : SqN K H' a xs := by
  rcases h with ⟨o, h, z⟩ | h
  · exact .inl ⟨o, e _ _ h, z⟩
  · exact .inr h
/-- an exception object that a suite holds -/
def exw (a : Addr) (cls : Value) (d : Option Addr) : HO := .ext fun h => ∃ (oe : Obj) (vs : Array Value), h.get? a = some oe ∧ oe.cls = cls ∧ oe.dict = d ∧ oe.data = .fields vs
/-- the program and the world that a heap's hashes are of -/
class WD (K : Fg) where
  P : Program
  w : World
abbrev kK (K : Fg) [WD K] : KeyKind (WD.P K) (WD.w K) Key := mixKind (WD.P K) (WD.w K)
/-- an object that is known as it stands -/
def obO (a : Addr) (o : Obj) : HO := .ext fun h => h.get? a = some o
/-- o is a dict with these rows, the keys ints and texts -/
def DkF (K : Fg) [WD K] (a : Addr) (o : Obj) (vs : List (Key × Value)) : Prop := vs.length ≤ sizeLine ∧ (a == sysModules) = false ∧ o.ExactDict ∧ ∃ es ep, o.data = .dict es ep ∧ PySem.KeysOf (kK K) es ∧ Pairs (kK K) es.toList vs ∧ (vs.map (·.1)).Nodup
/-- .. the keys tuples, with their objects -/
def DtF (K : Fg) [WD K] (a : Addr) (o : Obj) (xs : List (List Key × Addr × Value)) : Prop := xs.length ≤ sizeLine ∧ (a == sysModules) = false ∧ o.ExactDict ∧ ∃ es ep, o.data = .dict es ep ∧ es.toList = xs.map (entryOfKey (tupleKind (kK K))) ∧ (xs.map (·.1)).Nodup
mutual
def Rep (K : Fg) [WD K] (M : Hp) : D → V → Prop
  | .non, v => v = .non
  | .bl b, v => v = .bl b
  | .int i, v => v = .int i
  | .str x, v => v = .str x
  | .tup xs, v => ∃ a vs, v = .ref a ∧ SqN K M a vs ∧ Reps K M xs vs
  | .lst xs, v => ∃ a vs, v = .ref a ∧ M a = some (.lst vs) ∧ Reps K M xs vs
  | .scr ns, v => ∃ a, v = .ref a ∧ SqL K M a (ns.map V.int)
  | .ty n, v => v = .ty n
  | .cls c, v => v = .ref (He.ga K c)
  | .obj c fs, v => ∃ a dx fvs, v = .ref a ∧ M a = some (.ins (He.ga K c) dx fvs) ∧ RepF K M fs fvs
  | .exn c fs, v => ∃ (a : Addr) (d : Option Addr), v = .ref a ∧ M a = some (exw a (.ref (He.ga K c)) d) ∧ ((fs = [] ∧ d = none) ∨ (fs ≠ [] ∧ ∃ dx fvs, d = some dx ∧ M dx = some (.xd fvs) ∧ RepF K M fs fvs))
  | .dk kvs, v => ∃ a o vs, v = .ref a ∧ M a = some (obO a o) ∧ DkF K a o vs ∧ RepG K M kvs vs
  | .dt kvs, v => ∃ a o vs, v = .ref a ∧ M a = some (obO a o) ∧ DtF K a o vs ∧ RepH K M kvs vs
  | .tupW xs, v => ∃ a vs, v = .ref a ∧ SqT K M a vs ∧ Reps K M xs vs
def Reps (K : Fg) [WD K] (M : Hp) : List D → List V → Prop
  | [], vs => vs = []
  | x :: xs, vs => ∃ v r, vs = v :: r ∧ Rep K M x v ∧ Reps K M xs r
def RepF (K : Fg) [WD K] (M : Hp) : List (Str × D) → List (Str × V) → Prop
  | [], vs => vs = []
  | (k, x) :: xs, vs => ∃ v r, vs = (k, v) :: r ∧ Rep K M x v ∧ RepF K M xs r
def RepG (K : Fg) [WD K] (M : Hp) : List (Key × D) → List (Key × Value) → Prop
  | [], vs => vs = []
  | (k, x) :: xs, vs => ∃ u v r, vs = (k, u) :: r ∧ RelV v u ∧ Rep K M x v ∧ RepG K M xs r
def RepH (K : Fg) [WD K] (M : Hp) : List (List Key × D) → List (List Key × Addr × Value) → Prop
  | [], vs => vs = []
  | (k, x) :: xs, vs => ∃ b u v r, vs = (k, b, u) :: r ∧ SqN K M b (k.map kV) ∧ RelV v u ∧ Rep K M x v ∧ RepH K M xs r
end
theorem sqT_mono {K : Fg} {H H' : Hp} {a : Addr} {xs : List V} (e : Same H H') (h : SqT K H a xs) : SqT K H' a xs := by
  rcases h with (h | ⟨o, h⟩) | h
  · exact .inl (.inl (e _ _ h))
  · exact .inl (.inr ⟨o, e _ _ h⟩)
  · exact .inr h
mutual
theorem Rep.mono {K : Fg} [WD K] {M M' : Hp} (e : Same M M') : ∀ (d : D) (v : V), Rep K M d v → Rep K M' d v
  | .non, _, h => by simpa [Rep] using h
  | .bl _, _, h => by simpa [Rep] using h
  | .int _, _, h => by simpa [Rep] using h
  | .str _, _, h => by simpa [Rep] using h
  | .tup xs, v, h => by
    simp only [Rep] at h ⊢
    obtain ⟨a, vs, h1, h2, h3⟩ := h
    exact ⟨a, vs, h1, h2.mono e, Reps.mono e xs vs h3⟩
  | .lst xs, v, h => by
    simp only [Rep] at h ⊢
    obtain ⟨a, vs, h1, h2, h3⟩ := h
    exact ⟨a, vs, h1, e _ _ h2, Reps.mono e xs vs h3⟩
  | .scr ns, v, h => by
    simp only [Rep] at h ⊢
    obtain ⟨a, h1, h2⟩ := h
    exact ⟨a, h1, e.seq h2⟩
  | .ty _, _, h => by simpa [Rep] using h
  | .cls _, _, h => by simpa [Rep] using h
  | .obj c fs, v, h => by
    simp only [Rep] at h ⊢
    obtain ⟨a, dx, fvs, h1, h2, h3⟩ := h
    exact ⟨a, dx, fvs, h1, e _ _ h2, RepF.mono e fs fvs h3⟩
  | .exn c fs, v, h => by
    simp only [Rep] at h ⊢
    obtain ⟨a, d, h1, h2, h3⟩ := h
    refine ⟨a, d, h1, e _ _ h2, ?_⟩
    rcases h3 with h3 | ⟨h3, dx, fvs, h4, h5, h6⟩
    · exact .inl h3
    · exact .inr ⟨h3, dx, fvs, h4, e _ _ h5, RepF.mono e fs fvs h6⟩
  | .dk kvs, v, h => by
    simp only [Rep] at h ⊢
    obtain ⟨a, o, vs, h1, h2, h4, h3⟩ := h
    exact ⟨a, o, vs, h1, e _ _ h2, h4, RepG.mono e kvs vs h3⟩
  | .dt kvs, v, h => by
    simp only [Rep] at h ⊢
    obtain ⟨a, o, vs, h1, h2, h4, h3⟩ := h
    exact ⟨a, o, vs, h1, e _ _ h2, h4, RepH.mono e kvs vs h3⟩
  | .tupW xs, v, h => by
    simp only [Rep] at h ⊢
    obtain ⟨a, vs, h1, h2, h3⟩ := h
    exact ⟨a, vs, h1, sqT_mono e h2, Reps.mono e xs vs h3⟩
theorem Reps.mono {K : Fg} [WD K] {M M' : Hp} (e : Same M M') : ∀ (xs : List D) (vs : List V), Reps K M xs vs → Reps K M' xs vs
  | [], _, h => by simpa [Reps] using h
  | x :: xs, vs, h => by
    simp only [Reps] at h ⊢
    obtain ⟨v, r, h1, h2, h3⟩ := h
    exact ⟨v, r, h1, Rep.mono e x v h2, Reps.mono e xs r h3⟩
theorem RepF.mono {K : Fg} [WD K] {M M' : Hp} (e : Same M M') : ∀ (xs : List (Str × D)) (vs : List (Str × V)), RepF K M xs vs → RepF K M' xs vs
  | [], _, h => by simpa [RepF] using h
  | (k, x) :: xs, vs, h => by
    simp only [RepF] at h ⊢
    obtain ⟨v, r, h1, h2, h3⟩ := h
    exact ⟨v, r, h1, Rep.mono e x v h2, RepF.mono e xs r h3⟩
theorem RepG.mono {K : Fg} [WD K] {M M' : Hp} (e : Same M M') : ∀ (xs : List (Key × D)) (vs : List (Key × Value)), RepG K M xs vs → RepG K M' xs vs
  | [], _, h => by simpa [RepG] using h
  | (k, x) :: xs, vs, h => by
    simp only [RepG] at h ⊢
    obtain ⟨u, v, r, h1, h3, h4, h5⟩ := h
    exact ⟨u, v, r, h1, h3, Rep.mono e x v h4, RepG.mono e xs r h5⟩
theorem RepH.mono {K : Fg} [WD K] {M M' : Hp} (e : Same M M') : ∀ (xs : List (List Key × D)) (vs : List (List Key × Addr × Value)), RepH K M xs vs → RepH K M' xs vs
  | [], _, h => by simpa [RepH] using h
  | (k, x) :: xs, vs, h => by
    simp only [RepH] at h ⊢
    obtain ⟨b, u, v, r, h1, h2, h3, h4, h5⟩ := h
    exact ⟨b, u, v, r, h1, h2.mono e, h3, Rep.mono e x v h4, RepH.mono e xs r h5⟩
end
theorem reps_iff {K : Fg} [WD K] {M : Hp} : ∀ {xs : List D} {vs : List V}, Reps K M xs vs ↔ Paired (Rep K M) xs vs
  | [], vs => by
    simp only [Reps]
    exact ⟨fun h => h ▸ .nil, fun h => by cases h; rfl⟩
  | x :: xs, vs => by
    simp only [Reps]
    constructor
    · rintro ⟨v, r, rfl, h1, h2⟩
      exact .cons h1 (reps_iff.mp h2)
    · intro h
      cases h with
      | cons h1 h2 => exact ⟨_, _, rfl, h1, reps_iff.mpr h2⟩
theorem Reps.nil {K : Fg} [WD K] {M : Hp} : Reps K M [] [] := by simp [Reps]
theorem Reps.cons {K : Fg} [WD K] {M : Hp} {x : D} {xs : List D} {v : V} {vs : List V} (h : Rep K M x v) (hs : Reps K M xs vs) : Reps K M (x :: xs) (v :: vs) := by
  simp only [Reps]
  exact ⟨v, vs, rfl, h, hs⟩
theorem Reps.length {K : Fg} [WD K] {M : Hp} {xs : List D} {vs : List V} (h : Reps K M xs vs) : xs.length = vs.length := Paired.length (reps_iff.mp h)
theorem Reps.get {K : Fg} [WD K] {M : Hp} : ∀ {xs : List D} {vs : List V} {i : Nat} {x : D}, Reps K M xs vs → xs[i]? = some x → ∃ v, vs[i]? = some v ∧ Rep K M x v
  | [], vs, i, x, _, e => by simp at e
  | y :: xs, vs, 0, x, h, e => by
    simp only [Reps] at h
    obtain ⟨v, r, rfl, h1, h2⟩ := h
    simp at e; subst e
    exact ⟨v, rfl, h1⟩
  | y :: xs, vs, i + 1, x, h, e => by
    simp only [Reps] at h
    obtain ⟨v, r, rfl, h1, h2⟩ := h
    simp at e
    obtain ⟨u, h3, h4⟩ := Reps.get (i := i) h2 e
    exact ⟨u, by simpa using h3, h4⟩
theorem Reps.append {K : Fg} [WD K] {M : Hp} : ∀ {xs ys : List D} {vs us : List V}, Reps K M xs vs → Reps K M ys us → Reps K M (xs ++ ys) (vs ++ us)
  | [], ys, vs, us, h, h' => by
    simp only [Reps] at h
    subst h
    exact h'
  | x :: xs, ys, vs, us, h, h' => by
    simp only [Reps] at h
    obtain ⟨v, r, rfl, h1, h2⟩ := h
    exact Reps.cons h1 (Reps.append h2 h')
theorem Reps.take {K : Fg} [WD K] {M : Hp} : ∀ (n : Nat) {xs : List D} {vs : List V}, Reps K M xs vs → Reps K M (xs.take n) (vs.take n)
  | 0, xs, vs, _ => by simpa using Reps.nil
  | n + 1, [], vs, h => by
    simp only [Reps] at h
    subst h
    simpa using Reps.nil
  | n + 1, x :: xs, vs, h => by
    simp only [Reps] at h
    obtain ⟨v, r, rfl, h1, h2⟩ := h
    exact Reps.cons h1 (Reps.take n h2)
theorem Reps.drop {K : Fg} [WD K] {M : Hp} : ∀ (n : Nat) {xs : List D} {vs : List V}, Reps K M xs vs → Reps K M (xs.drop n) (vs.drop n)
  | 0, xs, vs, h => h
  | n + 1, [], vs, h => by
    simp only [Reps] at h
    subst h
    simpa using Reps.nil
  | n + 1, x :: xs, vs, h => by
    simp only [Reps] at h
    obtain ⟨v, r, rfl, h1, h2⟩ := h
    exact Reps.drop n h2
theorem Reps.eraseIdx {K : Fg} [WD K] {M : Hp} : ∀ (n : Nat) {xs : List D} {vs : List V}, Reps K M xs vs → Reps K M (xs.eraseIdx n) (vs.eraseIdx n)
  | _, [], vs, h => by
    simp only [Reps] at h
    subst h
    simpa using Reps.nil
  | 0, x :: xs, vs, h => by
    simp only [Reps] at h
    obtain ⟨v, r, rfl, h1, h2⟩ := h
    simpa using h2
  | n + 1, x :: xs, vs, h => by
    simp only [Reps] at h
    obtain ⟨v, r, rfl, h1, h2⟩ := h
    simpa using Reps.cons h1 (Reps.eraseIdx n h2)
theorem Reps.set {K : Fg} [WD K] {M : Hp} {y : D} {u : V} (hy : Rep K M y u) : ∀ (n : Nat) {xs : List D} {vs : List V}, Reps K M xs vs → Reps K M (xs.set n y) (vs.set n u)
  | _, [], vs, h => by
    simp only [Reps] at h
    subst h
    simpa using Reps.nil
  | 0, x :: xs, vs, h => by
    simp only [Reps] at h
    obtain ⟨v, r, rfl, h1, h2⟩ := h
    simpa using Reps.cons hy h2
  | n + 1, x :: xs, vs, h => by
    simp only [Reps] at h
    obtain ⟨v, r, rfl, h1, h2⟩ := h
    simpa using Reps.cons h1 (Reps.set hy n h2)
theorem Reps.reverse {K : Fg} [WD K] {M : Hp} : ∀ {xs : List D} {vs : List V}, Reps K M xs vs → Reps K M xs.reverse vs.reverse
  | [], vs, h => by
    simp only [Reps] at h
    subst h
    simpa using Reps.nil
  | x :: xs, vs, h => by
    simp only [Reps] at h
    obtain ⟨v, r, rfl, h1, h2⟩ := h
    rw [List.reverse_cons, List.reverse_cons]
    exact (Reps.reverse h2).append (Reps.cons h1 Reps.nil)
/-- a row of a dict -/
def RowK (K : Fg) [WD K] (M : Hp) (p : Key × D) (q : Key × Value) : Prop := p.1 = q.1 ∧ ∃ v, RelV v q.2 ∧ Rep K M p.2 v
theorem repG_iff {K : Fg} [WD K] {M : Hp} : ∀ {xs : List (Key × D)} {vs : List (Key × Value)}, RepG K M xs vs ↔ Paired (RowK K M) xs vs
  | [], vs => by
    simp only [RepG]
    exact ⟨fun h => h ▸ .nil, fun h => by cases h; rfl⟩
  | (k, x) :: xs, vs => by
    simp only [RepG]
    constructor
    · rintro ⟨u, v, r, rfl, h2, h3, h4⟩
      exact .cons ⟨rfl, v, h2, h3⟩ (repG_iff.mp h4)
    · intro h
      cases h with
      | cons h1 h2 =>
        rename_i q _
        obtain ⟨k', u⟩ := q
        obtain ⟨e, v, h3, h4⟩ := h1
        cases e
        exact ⟨u, v, _, rfl, h3, h4, repG_iff.mpr h2⟩
/-- a row of a dict with tuples as keys -/
def RowT (K : Fg) [WD K] (M : Hp) (p : List Key × D) (q : List Key × Addr × Value) : Prop := p.1 = q.1 ∧ SqN K M q.2.1 (p.1.map kV) ∧ ∃ v, RelV v q.2.2 ∧ Rep K M p.2 v
theorem repH_iff {K : Fg} [WD K] {M : Hp} : ∀ {xs : List (List Key × D)} {vs : List (List Key × Addr × Value)}, RepH K M xs vs ↔ Paired (RowT K M) xs vs
  | [], vs => by
    simp only [RepH]
    exact ⟨fun h => h ▸ .nil, fun h => by cases h; rfl⟩
  | (k, x) :: xs, vs => by
    simp only [RepH]
    constructor
    · rintro ⟨b, u, v, r, rfl, h1, h2, h3, h4⟩
      exact .cons ⟨rfl, h1, v, h2, h3⟩ (repH_iff.mp h4)
    · intro h
      cases h with
      | cons h1 h2 =>
        rename_i q _
        obtain ⟨k', b, u⟩ := q
        obtain ⟨e, h1, v, h3, h4⟩ := h1
        cases e
        exact ⟨b, u, v, _, rfl, h1, h3, h4, repH_iff.mpr h2⟩
/-- an object that its one holder may change -/
inductive OD where
  | lst (xs : List D) | ob (c : Str) (fs : List (Str × D)) | dk (kvs : List (Key × D)) | dt (kvs : List (List Key × D))
theorem Paired.imp {α β : Type} {F G : α → β → Prop} (f : ∀ a b, F a b → G a b) : ∀ {xs : List α} {ys : List β}, Paired F xs ys → Paired G xs ys
  | _, _, .nil => .nil
  | _, _, .cons h t => .cons (f _ _ h) (Paired.imp f t)
abbrev RepK (K : Fg) [WD K] (M : Hp) (kvs : List (Key × D)) (vs : List (Key × Value)) : Prop := Paired (RowK K M) kvs vs
theorem RepK.mono {K : Fg} [WD K] {M M' : Hp} {kvs : List (Key × D)} {vs : List (Key × Value)} (e : Same M M') (h : RepK K M kvs vs) : RepK K M' kvs vs := Paired.imp (fun _ _ ⟨a, v, c, d⟩ => ⟨a, v, c, Rep.mono e _ _ d⟩) h
abbrev RepT (K : Fg) [WD K] (M : Hp) (kvs : List (List Key × D)) (vs : List (List Key × Addr × Value)) : Prop := Paired (RowT K M) kvs vs
theorem RepT.mono {K : Fg} [WD K] {M M' : Hp} {kvs : List (List Key × D)} {vs : List (List Key × Addr × Value)} (e : Same M M') (h : RepT K M kvs vs) : RepT K M' kvs vs := Paired.imp (fun _ _ ⟨a, b, v, c, d⟩ => ⟨a, b.mono e, v, c, Rep.mono e _ _ d⟩) h
def At (K : Fg) [WD K] (M H : Hp) (l : Addr) : OD → Prop
  | .lst xs => ∃ vs, H l = some (.lst vs) ∧ Reps K M xs vs
  | .ob c fs => ∃ dx fvs, H l = some (.ins (He.ga K c) dx fvs) ∧ RepF K M fs fvs
  | .dk kvs => ∃ o vs, H l = some (obO l o) ∧ DkF K l o vs ∧ RepK K M kvs vs
  | .dt kvs => ∃ o vs, H l = some (obO l o) ∧ DtF K l o vs ∧ RepT K M kvs vs
theorem At.there {K : Fg} [WD K] {M H : Hp} {l : Addr} {o : OD} (h : At K M H l o) : ∃ u, H l = some u := by
  cases o with
  | lst xs => obtain ⟨vs, e, _⟩ := h; exact ⟨_, e⟩
  | ob c fs => obtain ⟨_, vs, e, _⟩ := h; exact ⟨_, e⟩
  | dk xs => obtain ⟨_, vs, e, _⟩ := h; exact ⟨_, e⟩
  | dt xs => obtain ⟨_, vs, e, _⟩ := h; exact ⟨_, e⟩
theorem At.mono {K : Fg} [WD K] {M M' H H' : Hp} {l : Addr} {o : OD} (h : At K M H l o) (e : Same M M') (f : ∀ u, H l = some u → H' l = some u) : At K M' H' l o := by
  cases o with
  | lst xs => obtain ⟨vs, e1, e2⟩ := h; exact ⟨vs, f _ e1, Reps.mono e _ _ e2⟩
  | ob c fs => obtain ⟨dx, vs, e1, e2⟩ := h; exact ⟨dx, vs, f _ e1, RepF.mono e _ _ e2⟩
  | dk xs => obtain ⟨o, vs, e1, e3, e2⟩ := h; exact ⟨o, vs, f _ e1, e3, e2.mono e⟩
  | dt xs => obtain ⟨o, vs, e1, e3, e2⟩ := h; exact ⟨o, vs, f _ e1, e3, e2.mono e⟩
inductive Sl where
  | no | im (d : D) | ow (pin : Bool) (o : OD)
  /-- not to be touched: a loop walks it -/
  | hid
def Sl.kind : Sl → Sl
  | .ow p _ => .ow p (.lst [])
  | s => s
def Sl.pinned : Sl → Bool
  | .ow p _ => p
  | .hid => true
  | _ => false
abbrev Ev := List Sl
def SlOk (K : Fg) [WD K] (M H : Hp) (v : Option (Option V)) : Sl → Prop
  | .no => True
  | .hid => True
  | .im d => ∃ u, v = some (some u) ∧ Rep K M d u
  | .ow _ o => ∃ l, v = some (some (V.ref l)) ∧ At K M H l o ∧ M l = none
/-- the slot at i is the holder of the object at l -/
def Own (env : Ev) (σ : L2.St) (l : Addr) : Prop := ∃ (i : Nat) (p : Bool) (o : OD), env[i]? = some (Sl.ow p o) ∧ σ[i]? = some (some (V.ref l))
structure Holds (K : Fg) [WD K] (M : Hp) (env : Ev) (σ : L2.St) (H : Hp) : Prop where
  ex : Same M H
  len : σ.length = env.length
  slot : ∀ (i : Nat) s, env[i]? = some s → SlOk K M H σ[i]? s
  dj : ∀ (i j : Nat) (l : Addr) (p : Bool) (o : OD) (p' : Bool) (o' : OD), i ≠ j → env[i]? = some (Sl.ow p o) → env[j]? = some (Sl.ow p' o') → σ[i]? = some (some (V.ref l)) → σ[j]? = some (some (V.ref l)) → False
structure Grow (M : Hp) (env : Ev) (σ : L2.St) (H : Hp) (M' : Hp) (env' : Ev) (σ' : L2.St) (H' : Hp) : Prop where
  exM : Same M M'
  fr : ∀ l o, H l = some o → ¬ Own env σ l → H' l = some o
  new : ∀ l o, M' l = some o → M l = some o ∨ H l = none ∨ Own env σ l
  own : ∀ l, Own env' σ' l → Own env σ l ∨ H l = none
  pin : ∀ (i : Nat) s, env[i]? = some s → s.pinned = true → σ'[i]? = σ[i]? ∧ ∃ s', env'[i]? = some s' ∧ s'.kind = s.kind
  dom : ∀ l, H' l = none → H l = none
  len : env'.length = env.length
section
variable {K : Fg} [WD K] {M M1 M2 : Hp} {env env1 env2 : Ev} {σ σ1 σ2 : L2.St} {H H1 H2 : Hp}
theorem Holds.ownSome {l : Addr} (h : Holds K M env σ H) (o : Own env σ l) : ∃ u, H l = some u := by
  obtain ⟨i, p, od, e1, e2⟩ := o
  obtain ⟨l', e3, e5, e4⟩ := h.slot i _ e1
  rw [e2] at e3
  cases e3
  exact e5.there
theorem kind_pin {s s' : Sl} (h : s'.kind = s.kind) : s'.pinned = s.pinned := by
  cases s <;> cases s' <;> simp [Sl.kind, Sl.pinned] at h ⊢ <;> exact h
theorem Grow.refl : Grow M env σ H M env σ H := ⟨Same.refl M, fun _ _ h _ => h, fun _ _ h => .inl h, fun _ h => .inl h, fun _ s h _ => ⟨rfl, s, h, rfl⟩, fun _ h => h, rfl⟩
theorem Grow.trans (h : Holds K M env σ H) (a : Grow M env σ H M1 env1 σ1 H1) (b : Grow M1 env1 σ1 H1 M2 env2 σ2 H2) : Grow M env σ H M2 env2 σ2 H2 where
  exM := a.exM.trans b.exM
  fr := fun l o e n => b.fr l o (a.fr l o e n) fun z => by
    rcases a.own l z with q | q
    · exact n q
    · rw [e] at q; cases q
  new := fun l o e => by
    rcases b.new l o e with q | q | q
    · exact a.new l o q
    · exact .inr (.inl (a.dom l q))
    · rcases a.own l q with q | q
      · exact .inr (.inr q)
      · exact .inr (.inl q)
  own := fun l z => by
    rcases b.own l z with q | q
    · exact a.own l q
    · exact .inr (a.dom l q)
  pin := fun i s e p => by
    obtain ⟨e1, s1, e2, k1⟩ := a.pin i s e p
    obtain ⟨e3, s2, e4, k2⟩ := b.pin i s1 e2 ((kind_pin k1).trans p)
    exact ⟨e3.trans e1, s2, e4, k2.trans k1⟩
  dom := fun l e => a.dom l (b.dom l e)
  len := b.len.trans a.len
/-- nothing that stands is changed -/
structure Ext (M H M' H' : Hp) : Prop where
  exM : Same M M'
  exH : Same H H'
  new : ∀ l o, M' l = some o → M l = some o ∨ H l = none
  inn : Same M' H'
theorem Ext.refl (e : Same M H) : Ext M H M H := ⟨Same.refl _, Same.refl _, fun _ _ h => .inl h, e⟩
theorem Ext.grow (h : Holds K M env σ H) (e : Ext M H M1 H1) : Grow M env σ H M1 env σ H1 :=
  ⟨e.exM, fun _ _ q _ => e.exH _ _ q, fun l o q => (e.new l o q).imp id .inl, fun _ z => .inl z, fun _ s q _ => ⟨rfl, s, q, rfl⟩, fun l q => e.exH.free q, rfl⟩
theorem Ext.holds (h : Holds K M env σ H) (e : Ext M H M1 H1) : Holds K M1 env σ H1 where
  ex := e.inn
  len := h.len
  slot := fun i s q => by
    have := h.slot i s q
    cases s with
    | no => trivial
    | hid => trivial
    | im d => obtain ⟨u, e1, e2⟩ := this; exact ⟨u, e1, Rep.mono e.exM _ _ e2⟩
    | ow p o =>
      obtain ⟨l, e1, e2, e3⟩ := this
      refine ⟨l, e1, e2.mono e.exM fun u q => e.exH _ _ q, ?_⟩
      cases q2 : M1 l with
      | none => rfl
      | some u =>
        rcases e.new l u q2 with z | z
        · rw [e3] at z; cases z
        · obtain ⟨u2, z2⟩ := e2.there
          rw [z] at z2; cases z2
  dj := h.dj
theorem Ext.trans (a : Ext M H M1 H1) (b : Ext M1 H1 M2 H2) : Ext M H M2 H2 :=
  ⟨a.exM.trans b.exM, a.exH.trans b.exH, fun l o e => by
    rcases b.new l o e with q | q
    · exact a.new l o q
    · exact .inr (a.exH.free q), b.inn⟩
end
end Dn
namespace Dn
open PySem PySem.Spec PyProof.Rows L2
/-- plain data; the object that slot i holds; a new object, its own holder -/
inductive X where
  | im (d : D) | sl (i : Nat) | ow (o : OD)
/-- an exception: its class, its fields -/
abbrev Xn := Str × List (Str × D)
inductive RE (α : Type) where
  | ok (x : α) (env : Ev) | exc (e : Xn) (env : Ev) | bad
def Shape (env env' : Ev) : Prop := env'.map Sl.kind = env.map Sl.kind
theorem Shape.refl (env : Ev) : Shape env env := rfl
theorem Shape.trans {a b c : Ev} (h : Shape a b) (h' : Shape b c) : Shape a c := Eq.trans h' h
theorem Shape.ow {a b : Ev} (h : Shape a b) {i : Nat} {p : Bool} {o : OD} (e : a[i]? = some (Sl.ow p o)) : ∃ o', b[i]? = some (Sl.ow p o') := by
  have h1 : (b.map Sl.kind)[i]? = (a.map Sl.kind)[i]? := by rw [show b.map Sl.kind = a.map Sl.kind from h]
  rw [List.getElem?_map, List.getElem?_map, e] at h1
  cases q : b[i]? with
  | none => rw [q] at h1; cases h1
  | some s =>
    rw [q] at h1
    cases s with
    | no => cases h1
    | hid => cases h1
    | im d => cases h1
    | ow p' o' =>
      simp only [Option.map_some, Sl.kind, Option.some.injEq, Sl.ow.injEq, and_true] at h1
      subst h1
      exact ⟨o', rfl⟩
def RepX (K : Fg) [WD K] (M H : Hp) (env : Ev) (σ : L2.St) : X → V → Prop
  | .im d, v => Rep K M d v
  | .sl i, v => (∃ p o, env[i]? = some (Sl.ow p o)) ∧ σ[i]? = some (some v)
  | .ow o, v => ∃ l, v = V.ref l ∧ At K M H l o ∧ M l = none ∧ ¬ Own env σ l
/-- of a new thing, ahead of which M, H stood -/
def RepN (K : Fg) [WD K] (M H : Hp) : X → V → Prop
  | .im d, v => Rep K M d v
  | .sl _, _ => False
  | .ow o, v => ∃ l, v = V.ref l ∧ At K M H l o ∧ M l = none
def RepE (K : Fg) [WD K] (M H : Hp) (e : Xn) (cls : Value) (d : Option Addr) : Prop :=
  cls = .ref (He.ga K e.1) ∧ ((e.2 = [] ∧ d = none) ∨ (e.2 ≠ [] ∧ ∃ dx fvs, d = some dx ∧ M dx = some (.xd fvs) ∧ RepF K M e.2 fvs))
/-- an exception's wish at the slots -/
abbrev WS := L2.St → XK
/-- an outcome that is met: t, at the state, brings about what is wanted -/
def Sat {α β : Type} (K : Fg) [WD K] (W : WS) (M : Hp) (σ : L2.St) (H : Hp) (env : Ev) (r : RE α) (R : Hp → Hp → Hp → Ev → α → β → Prop) (t : (β → Hp → Prop) → Prop) : Prop := match r with
  | .ok x env' => ∀ Q : β → Hp → Prop, (∀ v M' H', Grow M env σ H M' env' σ H' → Shape env env' → Holds K M' env' σ H' → R H M' H' env' x v → Q v H') → t Q
  | .exc e env' => ∀ Q : β → Hp → Prop, (∀ cls d M' H', Grow M env σ H M' env' σ H' → Shape env env' → Holds K M' env' σ H' → RepE K M' H' e cls d → W σ cls d H') → t Q
  | .bad => True
/-- a new object was not there ahead -/
def NewX (H0 : Hp) (x : X) (v : V) : Prop := ∀ o, x = .ow o → ∀ l, v = V.ref l → H0 l = none
/-- of the heap ahead nothing but what is free is said -/
def Back {α β : Type} (R : Hp → Hp → Hp → Ev → α → β → Prop) : Prop := ∀ H0 H1 M' H' env' x v, (∀ l, H1 l = none → H0 l = none) → R H1 M' H' env' x v → R H0 M' H' env' x v
def RX (K : Fg) [WD K] (σ : L2.St) : Hp → Hp → Hp → Ev → X → V → Prop := fun H0 M' H' env' x v => RepX K M' H' env' σ x v ∧ NewX H0 x v
theorem back_x {K : Fg} [WD K] {σ : L2.St} : Back (RX K σ) := fun _ _ _ _ _ _ _ h ⟨a, b⟩ => ⟨a, fun o e l e2 => h l (b o e l e2)⟩
def RB : Hp → Hp → Hp → Ev → Bool → Bool → Prop := fun _ _ _ _ x v => x = v
theorem back_b : Back RB := fun _ _ _ _ _ _ _ _ h => h
def DE (K : Fg) [WD K] (W : WS) (te : TE) (de : Ev → RE X) : Prop := ∀ (M : Hp) (σ : L2.St) (H : Hp) (env : Ev), Holds K M env σ H → Sat K W M σ H env (de env) (RX K σ) (te σ H)
def DT (K : Fg) [WD K] (W : WS) (tt : TT) (dt : Ev → RE Bool) : Prop := ∀ (M : Hp) (σ : L2.St) (H : Hp) (env : Ev), Holds K M env σ H → Sat K W M σ H env (dt env) RB (tt σ H)
def RepXs (K : Fg) [WD K] (M H : Hp) (env : Ev) (σ : L2.St) (xs : List X) (vs : List V) : Prop := Paired (RepX K M H env σ) xs vs
def RA (K : Fg) [WD K] (σ : L2.St) : Hp → Hp → Hp → Ev → List X → List V → Prop := fun H0 M' H' env' xs vs => Paired (RX K σ H0 M' H' env') xs vs
theorem Paired.imp1 {α β : Type} {F G : α → β → Prop} (f : ∀ a b, F a b → G a b) : ∀ {xs : List α} {ys : List β}, Paired F xs ys → Paired G xs ys
  | _, _, .nil => .nil
  | _, _, .cons h t => .cons (f _ _ h) (Paired.imp1 f t)
theorem back_a {K : Fg} [WD K] {σ : L2.St} : Back (RA K σ) := fun H0 H1 M' H' env' xs vs h r => Paired.imp1 (fun x v q => back_x H0 H1 M' H' env' x v h q) r
def DA (K : Fg) [WD K] (W : WS) (ta : TA) (da : Ev → RE (List X)) : Prop := ∀ (M : Hp) (σ : L2.St) (H : Hp) (env : Ev), Holds K M env σ H → Sat K W M σ H env (da env) (RA K σ) (ta σ H)
section
variable {K : Fg} [WD K] {W : WS} {M M' M1 M2 : Hp} {env env' env1 env2 : Ev} {σ : L2.St} {H H' H1 H2 : Hp} {x y : X} {v u : V}
theorem own_shape (h : Shape env env') {l : Addr} : Own env' σ l → Own env σ l := fun ⟨i, p, o, e1, e2⟩ => by
  obtain ⟨o', e3⟩ := Shape.ow (show Shape env' env from Eq.symm h) e1
  exact ⟨i, p, o', e3, e2⟩
/-- what was got stays got -/
theorem RepX.grow (h : Holds K M env σ H) (r : RepX K M H env σ x v) (g : Grow M env σ H M' env' σ H') (s : Shape env env') : RepX K M' H' env' σ x v := by
  cases x with
  | im d => exact Rep.mono g.exM _ _ r
  | sl i =>
    obtain ⟨⟨p, o, e⟩, e2⟩ := r
    obtain ⟨o', e'⟩ := s.ow e
    exact ⟨⟨p, o', e'⟩, e2⟩
  | ow o =>
    obtain ⟨l, rfl, a, n, no⟩ := r
    refine ⟨l, rfl, a.mono g.exM fun u q => g.fr l u q no, ?_, fun z => no (own_shape s z)⟩
    cases q : M' l with
    | none => rfl
    | some u =>
      rcases g.new l u q with z | z | z
      · rw [n] at z; cases z
      · obtain ⟨u2, z2⟩ := a.there
        rw [z] at z2; cases z2
      · exact (no z).elim
theorem RepXs.grow (h : Holds K M env σ H) (g : Grow M env σ H M' env' σ H') (s : Shape env env') {xs : List X} {vs : List V} (r : RepXs K M H env σ xs vs) : RepXs K M' H' env' σ xs vs := Paired.imp (fun _ _ q => RepX.grow h q g s) r
/-- a value that is read: plain data, or an object as it stands -/
def OD.toD : OD → Option D
  | .lst xs => some (.lst xs)
  | .ob c fs => some (.obj c fs)
  | .dk kvs => some (.dk kvs)
  | .dt kvs => some (.dt kvs)
def Rd2 (K : Fg) [WD K] (M H : Hp) (d : D) (v : V) : Prop := Rep K M d v ∨ ∃ l o, v = V.ref l ∧ At K M H l o ∧ o.toD = some d
def rd (env : Ev) : X → Option D
  | .im d => some d
  | .sl i => match env[i]? with
    | some (.ow _ o) => o.toD
    | _ => none
  | .ow o => o.toD
theorem rd_ok (h : Holds K M env σ H) (r : RepX K M H env σ x v) {d : D} (e : rd env x = some d) : Rd2 K M H d v := by
  cases x with
  | im d' =>
    cases e
    exact .inl r
  | sl i =>
    obtain ⟨⟨p, o, e1⟩, e2⟩ := r
    have e3 : o.toD = some d := by
      have e' : (match env[i]? with
        | some (Sl.ow _ o) => o.toD
        | _ => none) = some d := e
      rw [e1] at e'
      exact e'
    obtain ⟨l, e4, a, _⟩ := h.slot i _ e1
    rw [e2] at e4
    cases e4
    exact .inr ⟨l, o, rfl, a, e3⟩
  | ow o =>
    obtain ⟨l, rfl, a, _⟩ := r
    exact .inr ⟨l, o, rfl, a, e⟩
theorem repN_x (h : Holds K M env σ H) (e : Ext M H M1 H1) (hn : ∀ o, x = .ow o → ∀ l, v = V.ref l → H l = none) (r : RepN K M1 H1 x v) : RepX K M1 H1 env σ x v := by
  cases x with
  | im d => exact r
  | sl i => exact r.elim
  | ow o =>
    obtain ⟨l, rfl, a, n⟩ := r
    refine ⟨l, rfl, a, n, fun z => ?_⟩
    obtain ⟨u, q⟩ := h.ownSome z
    rw [hn o rfl l rfl] at q
    cases q
/-- a rule's end: new things made, a value -/
def Fin (K : Fg) [WD K] (M H : Hp) (x : X) (Q : VK) : Prop := ∀ z M' H', Ext M H M' H' → (∀ o, x = .ow o → ∀ l, z = V.ref l → H l = none) → RepN K M' H' x z → Q z H'
def OpOk (K : Fg) [WD K] (r : R2) (f : D → D → Option X) : Prop := ∀ M H dx dy x v u, Same M H → Rd2 K M H dx v → Rd2 K M H dy u → f dx dy = some x → ∀ Q : VK, Fin K M H x Q → r v u H Q
def UnOk (K : Fg) [WD K] (r : V → Hp → VK → Prop) (f : D → Option X) : Prop := ∀ M H dx x v, Same M H → Rd2 K M H dx v → f dx = some x → ∀ Q : VK, Fin K M H x Q → r v H Q
def CallOk (K : Fg) [WD K] (r : List V → Hp → VK → Prop) (f : List D → Option X) : Prop := ∀ M H ds x vs, Same M H → Paired (Rd2 K M H) ds vs → f ds = some x → ∀ Q : VK, Fin K M H x Q → r vs H Q
theorem Fin.im {d : D} {Q : VK} (q : Fin K M H (.im d) Q) {z : V} {M' H' : Hp} (e : Ext M H M' H') (r : Rep K M' d z) : Q z H' := q z M' H' e (fun _ z => nomatch z) r
theorem Fin.im0 {d : D} {Q : VK} (q : Fin K M H (.im d) Q) (h : Same M H) {z : V} (r : Rep K M d z) : Q z H := q.im (Ext.refl h) r
theorem ext_tup (h : Same M H) {p : Addr} {o : HO} (n : H p = none) : Ext M H (upd M p o) (upd H p o) where
  exM := fun a u q => by rw [upd_ne (ne_of_none q (h.free n))]; exact q
  exH := fun a u q => by rw [upd_ne (ne_of_none q n)]; exact q
  new := fun l u q => by
    by_cases e : l = p
    · exact .inr (e ▸ n)
    · rw [upd_ne e] at q; exact .inl q
  inn := fun a u q => by
    by_cases e : a = p
    · subst e; rw [upd_same] at q ⊢; exact q
    · rw [upd_ne e] at q ⊢; exact h a u q
theorem ext_own (h : Same M H) {p : Addr} {o : HO} (n : H p = none) : Ext M H M (upd H p o) where
  exM := Same.refl M
  exH := fun a u q => by rw [upd_ne (ne_of_none q n)]; exact q
  new := fun l u q => .inl q
  inn := fun a u q => by rw [upd_ne (ne_of_none (h a u q) n)]; exact h a u q
theorem Fin.tup {xs : List D} {vs : List V} {Q : VK} (q : Fin K M H (.im (.tup xs)) Q) (h : Same M H) (r : Reps K M xs vs) {p : Addr} {o : Obj} (n : H p = none) (hd : o.dict = none) : Q (.ref p) (upd H p (.frz o (.tup vs))) := by
  have e := ext_tup h (o := .frz o (.tup vs)) n
  refine q.im e ?_
  simp only [Rep]
  exact ⟨p, vs, rfl, .inl ⟨o, upd_same, hd⟩, Reps.mono e.exM _ _ r⟩
theorem Fin.lst {xs : List D} {vs : List V} {Q : VK} (q : Fin K M H (.ow (.lst xs)) Q) (h : Same M H) (r : Reps K M xs vs) {p : Addr} (n : H p = none) : Q (.ref p) (upd H p (.lst vs)) := by
  have e := ext_own h (o := .lst vs) n
  refine q (.ref p) M _ e (fun _ _ l z => by cases z; exact n) ⟨p, rfl, ⟨vs, upd_same, r⟩, h.free n⟩
/-- read shapes -/
theorem Rd2.int {i : Int} (h : Rd2 K M H (.int i) v) : v = .int i := by
  rcases h with h | ⟨l, o, _, _, e⟩
  · simpa [Rep] using h
  · cases o <;> cases e
theorem Rd2.str {i : Str} (h : Rd2 K M H (.str i) v) : v = .str i := by
  rcases h with h | ⟨l, o, _, _, e⟩
  · simpa [Rep] using h
  · cases o <;> cases e
theorem Rd2.bl {i : Bool} (h : Rd2 K M H (.bl i) v) : v = .bl i := by
  rcases h with h | ⟨l, o, _, _, e⟩
  · simpa [Rep] using h
  · cases o <;> cases e
theorem Rd2.non (h : Rd2 K M H .non v) : v = .non := by
  rcases h with h | ⟨l, o, _, _, e⟩
  · simpa [Rep] using h
  · cases o <;> cases e
theorem Rd2.tupN {xs : List D} (h : Rd2 K M H (.tup xs) v) (s : Same M H) : ∃ a vs, v = .ref a ∧ SqN K H a vs ∧ Reps K M xs vs := by
  rcases h with h | ⟨l, o, _, _, e⟩
  · simp only [Rep] at h
    obtain ⟨a, vs, h1, h2, h3⟩ := h
    exact ⟨a, vs, h1, h2.mono s, h3⟩
  · cases o <;> cases e
theorem Rd2.tup {xs : List D} (h : Rd2 K M H (.tup xs) v) (s : Same M H) : ∃ a vs, v = .ref a ∧ SqT K H a vs ∧ Reps K M xs vs := by
  obtain ⟨a, vs, h1, h2, h3⟩ := h.tupN s
  exact ⟨a, vs, h1, h2.t, h3⟩
theorem Rd2.lst {xs : List D} (h : Rd2 K M H (.lst xs) v) (s : Same M H) : ∃ a vs, v = .ref a ∧ H a = some (.lst vs) ∧ Reps K M xs vs := by
  rcases h with h | ⟨l, o, e1, a, e⟩
  · simp only [Rep] at h
    obtain ⟨a, vs, h1, h2, h3⟩ := h
    exact ⟨a, vs, h1, s _ _ h2, h3⟩
  · cases o with
    | lst ys =>
      cases e
      obtain ⟨vs, e2, r⟩ := a
      exact ⟨l, vs, e1, e2, r⟩
    | _ => cases e
theorem Rd2.scr {ns : List Int} (h : Rd2 K M H (.scr ns) v) (s : Same M H) : ∃ a, v = .ref a ∧ SqL K H a (ns.map V.int) := by
  rcases h with h | ⟨l, o, _, _, e⟩
  · simp only [Rep] at h
    obtain ⟨a, h1, h2⟩ := h
    exact ⟨a, h1, s.seq h2⟩
  · cases o <;> cases e
theorem Rd2.ty {n : String} (h : Rd2 K M H (.ty n) v) : v = .ty n := by
  rcases h with h | ⟨l, o, _, _, e⟩
  · simpa [Rep] using h
  · cases o <;> cases e
theorem Rd2.cls {c : Str} (h : Rd2 K M H (.cls c) v) : v = .ref (He.ga K c) := by
  rcases h with h | ⟨l, o, _, _, e⟩
  · simpa [Rep] using h
  · cases o <;> cases e
theorem Rd2.obj {c : Str} {fs : List (Str × D)} (h : Rd2 K M H (.obj c fs) v) (s : Same M H) : ∃ a dx fvs, v = .ref a ∧ H a = some (.ins (He.ga K c) dx fvs) ∧ RepF K M fs fvs := by
  rcases h with h | ⟨l, o, e1, a, e⟩
  · simp only [Rep] at h
    obtain ⟨a, dx, fvs, h1, h2, h3⟩ := h
    exact ⟨a, dx, fvs, h1, s _ _ h2, h3⟩
  · cases o with
    | ob c' fs' =>
      cases e
      obtain ⟨dx, fvs, e2, r⟩ := a
      exact ⟨l, dx, fvs, e1, e2, r⟩
    | _ => cases e
end
def dC (d : D) : Ev → RE X := fun env => .ok (.im d) env
def dVar (i : Nat) : Ev → RE X := fun env => match env[i]? with
  | some (.im d) => .ok (.im d) env
  | some (.ow _ _) => .ok (.sl i) env
  | _ => .bad
def RE.bind {α β : Type} (r : RE α) (f : α → Ev → RE β) : RE β := match r with
  | .ok x env => f x env
  | .exc e env => .exc e env
  | .bad => .bad
def opt {α : Type} (o : Option α) (env : Ev) : RE α := match o with
  | some x => .ok x env
  | none => .bad
def dOp (f : D → D → Option X) (da db : Ev → RE X) : Ev → RE X := fun env => (da env).bind fun x e1 => (db e1).bind fun y e2 => opt ((rd e2 x).bind fun dx => (rd e2 y).bind fun dy => f dx dy) e2
def dUn (f : D → Option X) (da : Ev → RE X) : Ev → RE X := fun env => (da env).bind fun x e1 => opt ((rd e1 x).bind f) e1
def dNil : Ev → RE (List X) := fun env => .ok [] env
def dCons (da : Ev → RE X) (dr : Ev → RE (List X)) : Ev → RE (List X) := fun env => (da env).bind fun x e1 => (dr e1).bind fun xs e2 => .ok (x :: xs) e2
def rds (env : Ev) : List X → Option (List D)
  | [] => some []
  | x :: xs => (rd env x).bind fun d => (rds env xs).bind fun ds => some (d :: ds)
def dCB (f : List D → Option X) (da : Ev → RE (List X)) : Ev → RE X := fun env => (da env).bind fun xs e1 => opt ((rds e1 xs).bind f) e1
section
variable {K : Fg} [WD K] {W : WS} {M M' M1 M2 : Hp} {env env' env1 env2 : Ev} {σ : L2.St} {H H' H1 H2 : Hp} {x y : X} {v u : V} {ta tb : TE} {da db : Ev → RE X}
theorem Sat.bind {α β γ δ : Type} {r : RE α} {f : α → Ev → RE γ} {R : Hp → Hp → Hp → Ev → α → β → Prop} {R' : Hp → Hp → Hp → Ev → γ → δ → Prop} {t : (β → Hp → Prop) → Prop} {t' : (δ → Hp → Prop) → Prop} {c : β → Hp → (δ → Hp → Prop) → Prop}
    (bk : Back R') (hh : Holds K M env σ H) (h : Sat K W M σ H env r R t) (ht : ∀ Q, t (fun v H1 => c v H1 Q) → t' Q)
    (hf : ∀ M1 H1 env1 x v, Grow M env σ H M1 env1 σ H1 → Shape env env1 → Holds K M1 env1 σ H1 → R H M1 H1 env1 x v → Sat K W M1 σ H1 env1 (f x env1) R' (c v H1)) : Sat K W M σ H env (r.bind f) R' t' := by
  cases r with
  | bad => trivial
  | exc e env1 => exact fun Q k => ht Q (h _ k)
  | ok x env1 =>
    show Sat K W M σ H env (f x env1) R' t'
    cases e2 : f x env1 with
    | bad => trivial
    | exc e env2 =>
      refine fun Q k => ht Q (h _ fun v M1 H1 g1 s1 hh1 r1 => ?_)
      have h2 := hf M1 H1 env1 x v g1 s1 hh1 r1
      rw [e2] at h2
      exact h2 Q fun cls d M' H' g2 s2 hh2 r2 => k cls d M' H' (g1.trans hh g2) (s1.trans s2) hh2 r2
    | ok y env2 =>
      refine fun Q k => ht Q (h _ fun v M1 H1 g1 s1 hh1 r1 => ?_)
      have h2 := hf M1 H1 env1 x v g1 s1 hh1 r1
      rw [e2] at h2
      exact h2 Q fun v M' H' g2 s2 hh2 r2 => k v M' H' (g1.trans hh g2) (s1.trans s2) hh2 (bk _ _ _ _ _ _ _ g1.dom r2)
theorem Sat.imp {α β : Type} {r : RE α} {R : Hp → Hp → Hp → Ev → α → β → Prop} {t t' : (β → Hp → Prop) → Prop} (h : Sat K W M σ H env r R t) (ht : ∀ Q, t Q → t' Q) : Sat K W M σ H env r R t' := by
  cases r with
  | bad => trivial
  | exc e env1 => exact fun Q k => ht Q (h Q k)
  | ok x env1 => exact fun Q k => ht Q (h Q k)
theorem de_c (d : D) (w : V) (h : ∀ M, Rep K M d w) : DE K W (tC w) (dC d) := fun M σ H env hh Q k => k w M H .refl (.refl _) hh ⟨h M, fun _ z => nomatch z⟩
theorem de_int (i : Int) : DE K W (tC (.int i)) (dC (.int i)) := de_c _ _ fun M => by simp [Rep]
theorem de_bl (i : Bool) : DE K W (tC (.bl i)) (dC (.bl i)) := de_c _ _ fun M => by simp [Rep]
theorem de_str (i : Str) : DE K W (tC (.str i)) (dC (.str i)) := de_c _ _ fun M => by simp [Rep]
theorem de_non : DE K W (tC .non) (dC .non) := de_c _ _ fun M => by simp [Rep]
theorem de_var (i : Nat) : DE K W (tVar i) (dVar i) := fun M σ H env hh => by
  unfold dVar
  cases e : env[i]? with
  | none => trivial
  | some s =>
    cases s with
    | no => trivial
    | hid => trivial
    | im d =>
      intro Q k
      obtain ⟨w, e1, r⟩ := hh.slot i _ e
      exact ⟨w, e1, k w M H .refl (.refl _) hh ⟨r, fun _ z => nomatch z⟩⟩
    | ow p o =>
      intro Q k
      obtain ⟨l, e1, r, _⟩ := hh.slot i _ e
      exact ⟨_, e1, k _ M H .refl (.refl _) hh ⟨⟨⟨p, o, e⟩, e1⟩, fun _ z => nomatch z⟩⟩
/-- a rule's end taken -/
theorem sat_fin {o : Option X} {t : VK → Prop} (hh : Holds K M env σ H) (h : ∀ x, o = some x → ∀ Q : VK, Fin K M H x Q → t Q) : Sat K W M σ H env (opt o env) (RX K σ) t := by
  cases o with
  | none => trivial
  | some x => exact fun Q k => h x rfl Q fun z M' H' e hn r => k z M' H' (e.grow hh) (.refl _) (e.holds hh) ⟨repN_x hh e hn r, hn⟩
theorem de_op {r : R2} {f : D → D → Option X} (ho : OpOk K r f) (ha : DE K W ta da) (hb : DE K W tb db) : DE K W (tOp r ta tb) (dOp f da db) := fun M σ H env hh => by
  refine Sat.bind (c := fun v H1 Q => tb σ H1 fun u H2 => r v u H2 Q) back_x hh (ha M σ H env hh) (fun Q q => q) fun M1 H1 env1 x v g1 s1 hh1 r1 => ?_
  refine Sat.bind (c := fun u H2 Q => r v u H2 Q) back_x hh1 (hb M1 σ H1 env1 hh1) (fun Q q => q) fun M2 H2 env2 y u g2 s2 hh2 r2 => ?_
  refine sat_fin hh2 fun z e Q q => ?_
  obtain ⟨dx, e1, e⟩ := Option.bind_eq_some_iff.mp e
  obtain ⟨dy, e2, e⟩ := Option.bind_eq_some_iff.mp e
  exact ho M2 H2 dx dy z v u hh2.ex (rd_ok hh2 (RepX.grow hh1 r1.1 g2 s2) e1) (rd_ok hh2 r2.1 e2) e Q q
theorem de_un {r : V → Hp → VK → Prop} {f : D → Option X} (ho : UnOk K r f) (ha : DE K W ta da) : DE K W (tUn r ta) (dUn f da) := fun M σ H env hh => by
  refine Sat.bind (c := fun v H1 Q => r v H1 Q) back_x hh (ha M σ H env hh) (fun Q q => q) fun M1 H1 env1 x v g1 s1 hh1 r1 => ?_
  refine sat_fin hh1 fun z e Q q => ?_
  obtain ⟨dx, e1, e⟩ := Option.bind_eq_some_iff.mp e
  exact ho M1 H1 dx z v hh1.ex (rd_ok hh1 r1.1 e1) e Q q
theorem da_nil : DA K W tNil dNil := fun M σ H env hh Q k => k [] M H .refl (.refl _) hh Paired.nil
theorem da_cons {tr : TA} {dr : Ev → RE (List X)} (ha : DE K W ta da) (hr : DA K W tr dr) : DA K W (tCons ta tr) (dCons da dr) := fun M σ H env hh => by
  have h1 := ha M σ H env hh
  unfold dCons
  cases e1 : da env with
  | bad => trivial
  | exc e env1 =>
    rw [e1] at h1
    exact fun Q k => h1 _ k
  | ok x env1 =>
    rw [e1] at h1
    show Sat K W M σ H env ((dr env1).bind fun xs e2 => .ok (x :: xs) e2) (RA K σ) (tCons ta tr σ H)
    cases e2 : dr env1 with
    | bad => trivial
    | exc e env2 =>
      refine fun Q k => h1 _ fun v M1 H1 g1 s1 hh1 r1 => ?_
      have h2 := hr M1 σ H1 env1 hh1
      rw [e2] at h2
      exact h2 _ fun cls d M' H' g2 s2 hh2 r2 => k cls d M' H' (g1.trans hh g2) (s1.trans s2) hh2 r2
    | ok xs env2 =>
      refine fun Q k => h1 _ fun v M1 H1 g1 s1 hh1 r1 => ?_
      have h2 := hr M1 σ H1 env1 hh1
      rw [e2] at h2
      exact h2 _ fun vs M' H' g2 s2 hh2 r2 => k (v :: vs) M' H' (g1.trans hh g2) (s1.trans s2) hh2 (Paired.cons ⟨RepX.grow hh1 r1.1 g2 s2, r1.2⟩ (back_a _ _ _ _ _ _ _ g1.dom r2))
theorem ra_x {H0 M' H' : Hp} {xs : List X} {vs : List V} (r : RA K σ H0 M' H' env' xs vs) : RepXs K M' H' env' σ xs vs := Paired.imp1 (fun _ _ q => q.1) r
theorem rds_ok (hh : Holds K M env σ H) : ∀ {xs : List X} {vs : List V} {ds : List D}, RepXs K M H env σ xs vs → rds env xs = some ds → Paired (Rd2 K M H) ds vs
  | [], _, _, .nil, e => by
    cases e
    exact .nil
  | x :: xs, _, _, .cons r rs, e => by
    obtain ⟨dx, e1, e⟩ := Option.bind_eq_some_iff.mp (show ((rd env x).bind fun d => (rds env xs).bind fun ds => some (d :: ds)) = _ from e)
    obtain ⟨dy, e2, e⟩ := Option.bind_eq_some_iff.mp e
    cases e
    exact .cons (rd_ok hh r e1) (rds_ok hh rs e2)
theorem de_cb {ta : TA} {da : Ev → RE (List X)} {r : List V → Hp → VK → Prop} {f : List D → Option X} (ho : CallOk K r f) (ha : DA K W ta da) : DE K W (tCB r ta) (dCB f da) := fun M σ H env hh => by
  refine Sat.bind (c := fun v H1 Q => r v H1 Q) back_x hh (ha M σ H env hh) (fun Q q => q) fun M1 H1 env1 x v g1 s1 hh1 r1 => ?_
  refine sat_fin hh1 fun z e Q q => ?_
  obtain ⟨dx, e1, e⟩ := Option.bind_eq_some_iff.mp e
  exact ho M1 H1 dx z v hh1.ex (rds_ok hh1 (ra_x r1) e1) e Q q
end
end Dn
namespace Dn
open PySem PySem.Spec PyProof.Rows L2
def fit (n : Nat) : Bool := decide (n.log2 < 24)
def mulFit (i j : Int) : Bool := decide (i.natAbs.log2 + j.natAbs.log2 < 100000000)
theorem mulFit_ok {i j : Int} (h : mulFit i j = true) : IntMulOk i j := by
  have b : ∀ x : Int, Builtin.Int.intBits x ≤ x.natAbs.log2 + 1 := fun x => by
    unfold Builtin.Int.intBits
    split <;> omega
  have h1 := b i
  have h2 := b j
  have h3 : i.natAbs.log2 + j.natAbs.log2 < 100000000 := of_decide_eq_true h
  have e : bitsLine = 134217728 := by decide
  unfold IntMulOk
  intro z
  rw [Bool.and_eq_true] at z
  have z2 := z.2
  unfold Builtin.Int.intTooBig at z2
  have z3 := of_decide_eq_true z2
  rw [e] at z3
  omega
/-- ints: a partial function of both -/
def rII (g : Int → Int → Option V) : R2 := fun x y H Q => ∃ i j v, x = .int i ∧ y = .int j ∧ g i j = some v ∧ Q v H
section
variable {X : Cx}
theorem opII {f : Value → Value → Sem Value} {g : Int → Int → Option V}
    (h : ∀ {i j v} (t u : Tok) (s : Shared) (Q : Value → Shared → Prop), g i j = some v → (∀ w tk, RelV v w → Q w { s with toks := tk }) → wpAny (model X.prog X.w) X.A (f (.int i t) (.int j u)) Q X.xe s) : OpR X f (rII g) := by
  intro pins s σ H x y v u Q I rx ry q
  obtain ⟨i, j, w, rfl, rfl, e, q⟩ := q
  obtain ⟨t, rfl⟩ := rx
  obtain ⟨t', rfl⟩ := ry
  exact h t t' s _ e fun z tk r => ⟨w, H, I.tok tk, r, q⟩
def gMul (i j : Int) : Option V := if mulFit i j then some (.int (i * j)) else none
def gDiv (i j : Int) : Option V := if 0 < j ∧ j.natAbs.log2 < 9000 then some (.int (i / j)) else none
theorem op_mulG : OpR X (binaryOp .Mult) (rII gMul) := opII fun t u s Q e k => by
  unfold gMul at e
  split at e
  · rename_i h
    cases e
    exact mul_int (k _ _ ⟨_, rfl⟩) (mulFit_ok h)
  · cases e
theorem op_divG : OpR X (binaryOp .FloorDiv) (rII gDiv) := opII fun {i j v} t u s Q e k => by
  unfold gDiv at e
  split at e
  · rename_i h
    cases e
    have h1 : (0 : Int) < j := h.1
    exact floordiv_int (by omega) (by rw [Int.fdiv_eq_ediv_of_nonneg i (by omega)]; exact k _ _ ⟨_, rfl⟩) (.inl (PyProof.noPylong_of_log2 h.2))
  · cases e
/-- a text times an int -/
def repS (z : Str) (n : Nat) : Str := ⟨(List.replicate n z.cps.toList).flatten.toArray⟩
theorem repS_len (z : Str) (n : Nat) : (repS z n).length = n * z.length := by
  unfold repS Str.length
  simp [List.length_flatten, List.map_replicate, List.sum_replicate_nat]
theorem fold_rep (z : Array Nat) : ∀ (n : Nat) (acc : Array Nat), (List.replicate n z).foldl (fun x y => x ++ y) acc = acc ++ (List.replicate n z.toList).flatten.toArray
  | 0, acc => by simp
  | n + 1, acc => by
    rw [List.replicate_succ, List.foldl_cons, fold_rep z n, List.replicate_succ, List.flatten_cons]
    apply Array.toList_inj.mp
    simp
def rMulS : R2 := fun x y H Q => ∃ z i, x = .str z ∧ y = .int i ∧ 0 ≤ i ∧ i ≤ 1000 ∧ z.length ≤ 1000 ∧ Q (.str (repS z i.toNat)) H
theorem op_mulS : OpR X (binaryOp .Mult) rMulS := by
  intro pins s σ H x y v u Q I rx ry h
  obtain ⟨z, i, rfl, rfl, h0, h1, h2, q⟩ := h
  obtain ⟨t, rfl⟩ := rx
  obtain ⟨t', rfl⟩ := ry
  have lim : sizeLine = 16777216 := sizeLine_eq
  have hlen : z.length * i.toNat ≤ 1000000 := Nat.le_trans (Nat.mul_le_mul h2 (by omega : i.toNat ≤ 1000)) (by decide)
  refine PySem.P.mul_str ?_ (fun h3 h4 => ?_) (fun h3 h4 => ?_) ?_
  · rw [decide_eq_false (by omega), decide_eq_false (by omega)]; rfl
  · have h5 : ((2 : Int) ^ 63 - 1) / i ≥ ((2 : Int) ^ 63 - 1) / 1000 := by
      have : i * (((2 : Int) ^ 63 - 1) / 1000) ≤ 2 ^ 63 - 1 := by
        have h6 : ((2 : Int) ^ 63 - 1) / 1000 = 9223372036854775 := by decide
        rw [h6]
        have h7 : i * 9223372036854775 ≤ 1000 * 9223372036854775 := Int.mul_le_mul_of_nonneg_right h1 (by decide)
        omega
      exact (Int.le_ediv_iff_mul_le (by omega)).mpr (by rw [Int.mul_comm]; exact this)
    have h6 : ((2 : Int) ^ 63 - 1) / 1000 = 9223372036854775 := by decide
    rw [h6] at h5
    have h2' : (z.length : Int) ≤ 1000 := by omega
    omega
  · show decide (z.length * i.toNat > sizeLine) = false
    rw [decide_eq_false (by omega)]
  · have fin : ∀ (w : Str) (tk : Nat) (tt : Tok), w = repS z i.toNat → EP X pins σ Q (.str w tt) { s with toks := tk } := fun w tk tt e => ⟨.str _, H, I.tok tk, ⟨tt, by rw [e]⟩, q⟩
    by_cases hn : i < 1
    · rw [if_pos hn]
      refine ⟨by decide, fin _ _ _ ?_⟩
      have : i.toNat = 0 := by omega
      rw [this]
      rfl
    · rw [if_neg hn]
      by_cases h3 : (i == 1 || z.length == 0) = true
      · rw [if_pos h3]
        refine fin z _ _ ?_
        rw [Bool.or_eq_true] at h3
        rcases h3 with h3 | h3
        · have : i.toNat = 1 := by
            have := eq_of_beq h3
            omega
          rw [this]
          unfold repS
          simp
        · have hz : z.cps = #[] := Array.eq_empty_of_size_eq_zero (eq_of_beq h3)
          obtain ⟨c⟩ := z
          cases hz
          unfold repS
          simp
      · rw [if_neg h3]
        refine ⟨?_, fin _ _ _ ?_⟩
        · rw [fold_rep]
          show ((#[] : Array Nat) ++ (List.replicate i.toNat z.cps.toList).flatten.toArray).size ≤ sizeLine
          have e1 : ((#[] : Array Nat) ++ (List.replicate i.toNat z.cps.toList).flatten.toArray).size = i.toNat * z.length := by
            have := repS_len z i.toNat
            unfold repS Str.length at this
            simpa [Str.length] using this
          rw [e1, Nat.mul_comm]
          omega
        · rw [fold_rep]
          unfold repS
          simp
end
def pAdd : D → D → Option X
  | .int i, .int j => some (.im (.int (i + j)))
  | .str i, .str j => if fit (i.length + j.length) then some (.im (.str (i ++ j))) else none
  | .tup xs, .tup ys => if fit (xs.length + ys.length) then some (.im (.tup (xs ++ ys))) else none
  | .lst xs, .lst ys => if fit (xs.length + ys.length) then some (.ow (.lst (xs ++ ys))) else none
  | _, _ => none
def pSub : D → D → Option X
  | .int i, .int j => some (.im (.int (i - j)))
  | _, _ => none
def pMul : D → D → Option X
  | .int i, .int j => if mulFit i j then some (.im (.int (i * j))) else none
  | .str z, .int i => if 0 ≤ i ∧ i ≤ 1000 ∧ z.length ≤ 1000 then some (.im (.str (repS z i.toNat))) else none
  | .lst xs, .int i => if 0 ≤ i ∧ i ≤ 1000 ∧ xs.length ≤ 1000 then some (.ow (.lst (List.replicate i.toNat xs).flatten)) else none
  | _, _ => none
def pDiv : D → D → Option X
  | .int i, .int j => if 0 < j ∧ j.natAbs.log2 < 9000 then some (.im (.int (i / j))) else none
  | _, _ => none
def pMod : D → D → Option X
  | .int i, .int j => if 0 < j then some (.im (.int (i % j))) else none
  | _, _ => none
def pPow : D → D → Option X
  | .int i, .int j => if 0 ≤ j ∧ j ≤ 1000 ∧ i.natAbs < 1000 then some (.im (.int (i ^ j.toNat))) else none
  | _, _ => none
/-- t + u, slices, displays, tuple(..): new tuples without a dict -/
abbrev tupOb (its : List Value) : Obj := { cls := .type "tuple", data := .seq its.toArray }
section
variable {X : Cx} {pins : List (Addr × Obj)} {σ : L2.St} {H : Hp} {s : Shared}
theorem _root_.L2.Inv.newTup (I : Inv X pins σ H s) {vs : List V} {us : List Value} (r : Vals vs us) (z : vs.length ≤ sizeLine) : Inv X pins σ (upd H s.heap.objs.size (.frz (tupOb us) (.tup vs))) { s with heap := s.heap.push (tupOb us) } :=
  I.laid (t' := s.toks) (fun _ _ q => Heap.get?_push_of_some _ q) (Nat.le_refl _) (show ObjOk X.prog X.w _ _ _ (.frz _ (.tup vs)) from ⟨Heap.get?_push_size _ rfl, z, us, r, IsTup.new _ _⟩)
end
def rCatN (K : Fg) : R2 := fun x y H Q => ∃ a b xs ys, x = .ref a ∧ y = .ref b ∧ SqT K H a xs ∧ SqT K H b ys ∧ xs.length + ys.length ≤ sizeLine ∧
  (xs = [] → Q (.ref b) H) ∧ (xs ≠ [] → ys = [] → Q (.ref a) H) ∧ (xs ≠ [] → ys ≠ [] → ∀ p (o : Obj), H p = none → o.dict = none → Q (.ref p) (upd H p (.frz o (.tup (xs ++ ys)))))
theorem op_catN {X : Cx} : OpR X (binaryOp .Add) (rCatN X.K) := by
  intro pins s σ H x y v u Q I rx ry h
  obtain ⟨a, b, xs, ys, rfl, rfl, ha, hb, hz, q0, q1, q2⟩ := h
  cases rx
  cases ry
  obtain ⟨its, r1, p1, _⟩ := I.tuple ha
  obtain ⟨its2, r2, p2, _⟩ := I.tuple hb
  by_cases hx : xs = []
  · subst hx
    cases r1
    exact L2.cat_tup0 p1 p2 ⟨.ref b, H, I, rfl, q0 rfl⟩
  · refine HT.cat_tup p1 p2 (fun z => hx (r1.nil_iff.mp z)) (fun z => ⟨.ref a, H, I, rfl, q1 hx (r2.nil_iff.mp z)⟩) (fun z => ?_) (by rw [← r1.length, ← r2.length]; exact hz)
    exact ⟨.ref s.heap.objs.size, _, I.newTup (r1.append r2) (by rw [List.length_append]; exact hz), rfl, q2 hx (fun w => z (r2.nil_iff.mpr w)) _ _ (I.hok.fresh (Nat.le_refl _)) rfl⟩
abbrev rAddU (K : Fg) : R2 := fun x y H Q => (rI0 fun i j => .int (i + j)) x y H Q ∨ (∃ i j, x = .str i ∧ y = .str j ∧ i.length + j.length ≤ sizeLine ∧ Q (.str (i ++ j)) H) ∨ rCatN K x y H Q ∨ rCat x y H Q
abbrev rMulU : R2 := fun x y H Q => rII gMul x y H Q ∨ rMulS x y H Q ∨ rRep x y H Q
section
variable {X : Cx}
theorem op_addU : OpR X (binaryOp .Add) (rAddU X.K) := op_add.or (op_add_str.or (op_catN.or op_cat))
theorem op_mulU : OpR X (binaryOp .Mult) rMulU := op_mulG.or (op_mulS.or op_rep)
end
section
variable {K : Fg} [WD K]
theorem rep_int {M : Hp} {i : Int} : Rep K M (.int i) (.int i) := by simp [Rep]
theorem rep_str {M : Hp} {i : Str} : Rep K M (.str i) (.str i) := by simp [Rep]
theorem rep_bl {M : Hp} {i : Bool} : Rep K M (.bl i) (.bl i) := by simp [Rep]
theorem rep_non {M : Hp} : Rep K M .non .non := by simp [Rep]
theorem rep_tup {M : Hp} {a : Addr} {xs : List D} {vs : List V} (h : SqN K M a vs) (r : Reps K M xs vs) : Rep K M (.tup xs) (.ref a) := by
  simp only [Rep]
  exact ⟨a, vs, rfl, h, r⟩
theorem rep_tupW {M : Hp} {a : Addr} {xs : List D} {vs : List V} (h : SqT K M a vs) (r : Reps K M xs vs) : Rep K M (.tupW xs) (.ref a) := by
  simp only [Rep]
  exact ⟨a, vs, rfl, h, r⟩
/-- what is read of a tuple is itself there -/
theorem Rd2.tupR {M H : Hp} {v : V} {xs : List D} (h : Rd2 K M H (.tup xs) v) : Rep K M (.tup xs) v := by
  rcases h with h | ⟨l, o, _, _, e⟩
  · exact h
  · cases o <;> cases e
theorem reps_nil_iff {M : Hp} {xs : List D} {vs : List V} (h : Reps K M xs vs) : vs = [] ↔ xs = [] := by
  have := h.length
  constructor <;> intro e <;> subst e
  · exact List.eq_nil_of_length_eq_zero (by simpa using this)
  · exact List.eq_nil_of_length_eq_zero (by simpa using this.symm)
theorem fit_ok {n : Nat} (h : fit n = true) : n ≤ sizeLine := by
  have h1 : n.log2 < 24 := of_decide_eq_true h
  by_cases z : n = 0
  · subst z; exact Nat.zero_le _
  · have h2 := (Nat.log2_lt z).mp h1
    rw [sizeLine_eq]
    exact Nat.le_of_lt h2
theorem ok_add : OpOk K (rAddU K) pAdd := by
  intro M H dx dy x v u e hx hy hf Q q
  unfold pAdd at hf
  split at hf
  · cases hf
    rw [hx.int, hy.int]
    exact .inl ⟨_, _, rfl, rfl, q.im0 e rep_int⟩
  · split at hf
    · rename_i h
      cases hf
      rw [hx.str, hy.str]
      exact .inr (.inl ⟨_, _, rfl, rfl, fit_ok h, q.im0 e rep_str⟩)
    · cases hf
  · split at hf
    · rename_i xs ys h
      cases hf
      obtain ⟨a, vs, rfl, h1, h2⟩ := hx.tup e
      obtain ⟨b, us, rfl, h3, h4⟩ := hy.tup e
      refine .inr (.inr (.inl ⟨a, b, vs, us, rfl, rfl, h1, h3, by rw [← h2.length, ← h4.length]; exact fit_ok h, fun z => ?_, fun _ z => ?_, fun _ _ p o n hd => ?_⟩))
      · have : xs = [] := (reps_nil_iff h2).mp z
        subst this
        exact q.im0 e hy.tupR
      · have : ys = [] := (reps_nil_iff h4).mp z
        subst this
        rw [List.append_nil] at q
        exact q.im0 e hx.tupR
      · exact q.tup e (h2.append h4) n hd
    · cases hf
  · split at hf
    · rename_i xs ys h
      cases hf
      obtain ⟨a, vs, rfl, h1, h2⟩ := hx.lst e
      obtain ⟨b, us, rfl, h3, h4⟩ := hy.lst e
      exact .inr (.inr (.inr ⟨a, b, vs, us, rfl, rfl, h1, h3, by rw [← h2.length, ← h4.length]; exact fit_ok h, fun p n => q.lst e (h2.append h4) n⟩))
    · cases hf
  · cases hf
theorem ok_sub : OpOk K (rI0 fun i j => .int (i - j)) pSub := by
  intro M H dx dy x v u e hx hy hf Q q
  unfold pSub at hf
  split at hf
  · cases hf
    rw [hx.int, hy.int]
    exact ⟨_, _, rfl, rfl, q.im0 e rep_int⟩
  · cases hf
theorem Reps.rep {M : Hp} {xs : List D} {vs : List V} (h : Reps K M xs vs) : ∀ k : Nat, Reps K M (List.replicate k xs).flatten (List.replicate k vs).flatten
  | 0 => by simpa using Reps.nil
  | k + 1 => by
    rw [List.replicate_succ, List.flatten_cons, List.replicate_succ, List.flatten_cons]
    exact h.append (Reps.rep h k)
theorem ok_mul : OpOk K rMulU pMul := by
  intro M H dx dy x v u e hx hy hf Q q
  unfold pMul at hf
  split at hf
  · split at hf
    · rename_i i j h
      cases hf
      rw [hx.int, hy.int]
      exact .inl ⟨_, _, _, rfl, rfl, if_pos h, q.im0 e rep_int⟩
    · cases hf
  · split at hf
    · rename_i z i h
      cases hf
      rw [hx.str, hy.int]
      exact .inr (.inl ⟨_, _, rfl, rfl, h.1, h.2.1, h.2.2, q.im0 e rep_str⟩)
    · cases hf
  · split at hf
    · rename_i xs i h
      cases hf
      obtain ⟨a, vs, rfl, h1, h2⟩ := hx.lst e
      rw [hy.int]
      have hl := h2.length
      have lim : sizeLine = 16777216 := sizeLine_eq
      have hm : vs.length * i.toNat ≤ 1000 * 1000 := Nat.mul_le_mul (by omega) (by omega)
      exact .inr (.inr ⟨a, i, vs, rfl, rfl, h1, by omega, by omega, by omega, fun p n => q.lst e (h2.rep _) n⟩)
    · cases hf
  · cases hf
theorem ok_div : OpOk K (rII gDiv) pDiv := by
  intro M H dx dy x v u e hx hy hf Q q
  unfold pDiv at hf
  split at hf
  · split at hf
    · rename_i i j h
      cases hf
      rw [hx.int, hy.int]
      exact ⟨_, _, _, rfl, rfl, if_pos h, q.im0 e rep_int⟩
    · cases hf
  · cases hf
theorem ok_mod : OpOk K (rI (fun _ j => 0 < j) fun i j => .int (i % j)) pMod := by
  intro M H dx dy x v u e hx hy hf Q q
  unfold pMod at hf
  split at hf
  · split at hf
    · rename_i i j h
      cases hf
      rw [hx.int, hy.int]
      exact ⟨_, _, rfl, rfl, h, q.im0 e rep_int⟩
    · cases hf
  · cases hf
theorem ok_pow : OpOk K (rI CPow fun i j => .int (i ^ j.toNat)) pPow := by
  intro M H dx dy x v u e hx hy hf Q q
  unfold pPow at hf
  split at hf
  · split at hf
    · rename_i i j h
      cases hf
      rw [hx.int, hy.int]
      exact ⟨_, _, rfl, rfl, ⟨h.1, by omega, Nat.lt_trans h.2.2 (by decide)⟩, q.im0 e rep_int⟩
    · cases hf
  · cases hf
def pCmp (p : Int → Int → Bool) : D → D → Option X
  | .int i, .int j => some (.im (.bl (p i j)))
  | _, _ => none
theorem ok_cmp (p : Int → Int → Bool) : OpOk K (rI0 fun i j => .bl (p i j)) (pCmp p) := by
  intro M H dx dy x v u e hx hy hf Q q
  unfold pCmp at hf
  split at hf
  · cases hf
    rw [hx.int, hy.int]
    exact ⟨_, _, rfl, rfl, q.im0 e rep_bl⟩
  · cases hf
end
mutual
/-- data as the library compares it -/
def D.py : D → Option PyData
  | .non => some .none
  | .bl b => some (.bool b)
  | .int i => some (.int i)
  | .str x => some (.str x)
  | .tup xs => (pys xs).map .tuple
  | .lst xs => (pys xs).map .list
  | _ => none
def pys : List D → Option (List PyData)
  | [] => some []
  | x :: xs => x.py.bind fun d => (pys xs).bind fun ds => some (d :: ds)
end
def D.scal : D → Option V
  | .non => some .non
  | .bl b => some (.bl b)
  | .int i => some (.int i)
  | .str x => some (.str x)
  | _ => none
def pEqB (x y : D) : Option Bool := match x.scal, y.scal with
  | some a, some b => if L2.scal a b then some (decide (a = b)) else none
  | _, _ => match x.py, y.py with
    | some a, some b => if SeqAt.shaped a && SeqAt.shaped b then some (PyData.eqv a b) else none
    | _, _ => none
def pEq (x y : D) : Option X := (pEqB x y).map fun b => .im (.bl b)
def pNe (x y : D) : Option X := (pEqB x y).map fun b => .im (.bl (!b))
section
variable {K : Fg} [WD K]
mutual
theorem dp_of {M : Hp} : ∀ (d : D) (p : PyData) (v : V), d.py = some p → Rep K M d v → Dp K M v p
  | .non, p, v, e, h => by
    cases e
    rw [show v = .non by simpa [Rep] using h]
    exact .non
  | .bl b, p, v, e, h => by
    cases e
    rw [show v = .bl b by simpa [Rep] using h]
    exact .bl b
  | .int b, p, v, e, h => by
    cases e
    rw [show v = .int b by simpa [Rep] using h]
    exact .int b
  | .str b, p, v, e, h => by
    cases e
    rw [show v = .str b by simpa [Rep] using h]
    exact .str b
  | .tup xs, p, v, e, h => by
    simp only [D.py] at e
    obtain ⟨ps, e1, e2⟩ := Option.map_eq_some_iff.mp e
    cases e2
    simp only [Rep] at h
    obtain ⟨a, vs, rfl, h1, h2⟩ := h
    exact .tup h1.t (dpAll_of xs ps vs e1 h2)
  | .lst xs, p, v, e, h => by
    simp only [D.py] at e
    obtain ⟨ps, e1, e2⟩ := Option.map_eq_some_iff.mp e
    cases e2
    simp only [Rep] at h
    obtain ⟨a, vs, rfl, h1, h2⟩ := h
    exact .lst (SqL.of h1) (dpAll_of xs ps vs e1 h2)
  | .obj _ _, p, v, e, h => by cases e
  | .scr _, p, v, e, h => by cases e
  | .ty _, p, v, e, h => by cases e
  | .cls _, p, v, e, h => by cases e
  | .exn _ _, p, v, e, h => by cases e
  | .dk _, p, v, e, h => by cases e
  | .dt _, p, v, e, h => by cases e
theorem dpAll_of {M : Hp} : ∀ (xs : List D) (ps : List PyData) (vs : List V), pys xs = some ps → Reps K M xs vs → DpAll K M vs ps
  | [], ps, vs, e, h => by
    simp only [pys] at e
    cases e
    simp only [Reps] at h
    subst h
    exact .nil
  | x :: xs, ps, vs, e, h => by
    simp only [pys] at e
    obtain ⟨d, e1, e⟩ := Option.bind_eq_some_iff.mp e
    obtain ⟨ds, e2, e⟩ := Option.bind_eq_some_iff.mp e
    cases e
    simp only [Reps] at h
    obtain ⟨v, r, rfl, h1, h2⟩ := h
    exact .cons (dp_of x d v e1 h1) (dpAll_of xs ds r e2 h2)
end
mutual
theorem Dp.up {M H : Hp} (e : Same M H) : ∀ {p : PyData} {v : V}, Dp K M v p → Dp K H v p
  | _, _, .non => .non
  | _, _, .bl b => .bl b
  | _, _, .int i => .int i
  | _, _, .str x => .str x
  | _, _, .lst h a => .lst (e.seq h) (DpAll.up e a)
  | _, _, .tup h a => .tup (sqT_mono e h) (DpAll.up e a)
theorem DpAll.up {M H : Hp} (e : Same M H) : ∀ {ps : List PyData} {vs : List V}, DpAll K M vs ps → DpAll K H vs ps
  | _, _, .nil => .nil
  | _, _, .cons h t => .cons (Dp.up e h) (DpAll.up e t)
end
theorem dp_rd {M H : Hp} {d : D} {p : PyData} {v : V} (e : Same M H) (h : Rd2 K M H d v) (hp : d.py = some p) : Dp K H v p := by
  rcases h with h | ⟨l, o, rfl, a, eo⟩
  · exact Dp.up e (dp_of d p v hp h)
  · cases o with
    | lst xs =>
      cases eo
      simp only [D.py] at hp
      obtain ⟨ps, e1, e2⟩ := Option.map_eq_some_iff.mp hp
      cases e2
      obtain ⟨vs, h1, h2⟩ := a
      exact .lst (SqL.of h1) (DpAll.up e (dpAll_of xs ps vs e1 h2))
    | ob c fs => cases eo; cases hp
    | dk _ => cases eo; cases hp
    | dt _ => cases eo; cases hp
theorem scal_rd {M H : Hp} {d : D} {a v : V} (h : Rd2 K M H d v) (e : d.scal = some a) : v = a := by
  cases d with
  | non => cases e; exact h.non
  | bl b => cases e; exact h.bl
  | int i => cases e; exact h.int
  | str x => cases e; exact h.str
  | _ => cases e
abbrev rEqU (K : Fg) : R2 := fun x y H Q => rEq x y H Q ∨ rEqD K x y H Q
abbrev rNeU (K : Fg) : R2 := fun x y H Q => rNe x y H Q ∨ rNeD K x y H Q
theorem op_eqU {X : Cx} (hu : X.A.units + 64 < cLine) : OpR X (compareOp .Eq) (rEqU X.K) := op_eq.or (op_eqD hu)
theorem op_neU {X : Cx} (hu : X.A.units + 64 < cLine) : OpR X (compareOp .NotEq) (rNeU X.K) := op_ne.or (op_neD hu)
theorem eqB_cases {x y : D} {b : Bool} (h : pEqB x y = some b) : (∃ a c, x.scal = some a ∧ y.scal = some c ∧ L2.scal a c = true ∧ b = decide (a = c)) ∨
    ∃ p q, x.py = some p ∧ y.py = some q ∧ SeqAt.shaped p = true ∧ SeqAt.shaped q = true ∧ b = PyData.eqv p q := by
  unfold pEqB at h
  split at h
  · split at h
    · cases h
      exact .inl ⟨_, _, by assumption, by assumption, by assumption, rfl⟩
    · cases h
  · split at h
    · split at h
      · rename_i hs
        cases h
        rw [Bool.and_eq_true] at hs
        exact .inr ⟨_, _, by assumption, by assumption, hs.1, hs.2, rfl⟩
      · cases h
    · cases h
theorem ok_eq : OpOk K (rEqU K) pEq := by
  intro M H dx dy x v u e hx hy hf Q q
  obtain ⟨b, hb, rfl⟩ := Option.map_eq_some_iff.mp hf
  rcases eqB_cases hb with ⟨a, c, h1, h2, h3, rfl⟩ | ⟨a, c, h1, h2, h3, h4, rfl⟩
  · rw [scal_rd hx h1, scal_rd hy h2]
    exact .inl ⟨h3, q.im0 e rep_bl⟩
  · exact .inr ⟨a, c, dp_rd e hx h1, dp_rd e hy h2, h3, h4, q.im0 e rep_bl⟩
theorem ok_ne : OpOk K (rNeU K) pNe := by
  intro M H dx dy x v u e hx hy hf Q q
  obtain ⟨b, hb, rfl⟩ := Option.map_eq_some_iff.mp hf
  rcases eqB_cases hb with ⟨a, c, h1, h2, h3, rfl⟩ | ⟨a, c, h1, h2, h3, h4, rfl⟩
  · rw [scal_rd hx h1, scal_rd hy h2]
    exact .inl ⟨h3, q.im0 e rep_bl⟩
  · exact .inr ⟨a, c, dp_rd e hx h1, dp_rd e hy h2, h3, h4, q.im0 e rep_bl⟩
def D.isNon : D → Bool
  | .non => true
  | _ => false
theorem isNon_rd {M H : Hp} {d : D} {v : V} (h : Rd2 K M H d v) : decide (v = .non) = d.isNon := by
  rcases h with h | ⟨l, o, rfl, a, eo⟩
  · cases d with
    | non => rw [show v = .non by simpa [Rep] using h]; rfl
    | bl b => rw [show v = .bl b by simpa [Rep] using h]; rfl
    | int b => rw [show v = .int b by simpa [Rep] using h]; rfl
    | str b => rw [show v = .str b by simpa [Rep] using h]; rfl
    | ty b => rw [show v = .ty b by simpa [Rep] using h]; rfl
    | cls b => rw [show v = .ref (He.ga K b) by simpa [Rep] using h]; rfl
    | tup xs => simp only [Rep] at h; obtain ⟨a, vs, rfl, _⟩ := h; rfl
    | tupW xs => simp only [Rep] at h; obtain ⟨a, vs, rfl, _⟩ := h; rfl
    | lst xs => simp only [Rep] at h; obtain ⟨a, vs, rfl, _⟩ := h; rfl
    | scr xs => simp only [Rep] at h; obtain ⟨a, rfl, _⟩ := h; rfl
    | obj c xs => simp only [Rep] at h; obtain ⟨a, dx, fvs, rfl, _⟩ := h; rfl
    | exn c xs => simp only [Rep] at h; obtain ⟨a, dx, rfl, _⟩ := h; rfl
    | dk xs => simp only [Rep] at h; obtain ⟨a, o, vs, rfl, _⟩ := h; rfl
    | dt xs => simp only [Rep] at h; obtain ⟨a, o, vs, rfl, _⟩ := h; rfl
  · cases o with
    | lst xs => cases eo; rfl
    | ob c fs => cases eo; rfl
    | dk _ => cases eo; rfl
    | dt _ => cases eo; rfl
end
def pIsN (x y : D) : Option X := if y.isNon then some (.im (.bl x.isNon)) else none
def pNotN (x y : D) : Option X := if y.isNon then some (.im (.bl (!x.isNon))) else none
section
variable {K : Fg} [WD K]
theorem non_of {M H : Hp} {d : D} {v : V} (h : Rd2 K M H d v) (e : d.isNon = true) : v = .non := by
  have := isNon_rd h
  rw [e] at this
  exact of_decide_eq_true this
theorem ok_isN : OpOk K (fun x y H Q => y = .non ∧ Q (.bl (decide (x = .non))) H) pIsN := by
  intro M H dx dy x v u e hx hy hf Q q
  unfold pIsN at hf
  split at hf
  · rename_i h
    cases hf
    exact ⟨non_of hy h, by rw [isNon_rd hx]; exact q.im0 e rep_bl⟩
  · cases hf
theorem ok_notN : OpOk K (fun x y H Q => y = .non ∧ Q (.bl (!decide (x = .non))) H) pNotN := by
  intro M H dx dy x v u e hx hy hf Q q
  unfold pNotN at hf
  split at hf
  · rename_i h
    cases hf
    exact ⟨non_of hy h, by rw [isNon_rd hx]; exact q.im0 e rep_bl⟩
  · cases hf
end
end Dn
namespace Dn
open PySem PySem.Spec PyProof.Rows L2
def scals : List D → Option (List V)
  | [] => some []
  | x :: xs => x.scal.bind fun v => (scals xs).bind fun vs => some (v :: vs)
def items : D → Option (List D)
  | .lst xs => some xs
  | .tup xs => some xs
  | _ => none
def pInB (x y : D) : Option Bool := match y with
  | .str z => match x with
    | .str c => if c.cps.size = 1 then some (decide (c.cps.getD 0 0 ∈ z.cps.toList)) else none
    | _ => none
  | .lst ys => match x.scal, scals ys with
    | some a, some vs => some (inV a vs)
    | _, _ => match x.py, pys ys with
      | some d, some ds => if SeqAt.shaped d && SeqAt.shaped (.list ds) then some (ds.any fun z => PyData.eqv z d) else none
      | _, _ => none
  | .tup ys => match x.scal, scals ys with
    | some a, some vs => some (inV a vs)
    | _, _ => none
  | _ => none
def pIn (x y : D) : Option X := (pInB x y).map fun b => .im (.bl b)
def pNotIn (x y : D) : Option X := (pInB x y).map fun b => .im (.bl (!b))
abbrev rInU (K : Fg) : R2 := fun x y H Q => rIn K false x y H Q ∨ (∃ (c : Nat) (z : Str), x = .str ⟨#[c]⟩ ∧ y = .str z ∧ Q (.bl (decide (c ∈ z.cps.toList))) H) ∨ rInD K x y H Q
abbrev rNotInU (K : Fg) : R2 := fun x y H Q => rIn K true x y H Q ∨ (∃ (c : Nat) (z : Str), x = .str ⟨#[c]⟩ ∧ y = .str z ∧ Q (.bl (!decide (c ∈ z.cps.toList))) H) ∨ rNotInD K x y H Q
theorem op_inU {X : Cx} (hu : X.A.units + 65 < cLine) : OpR X (compareOp .In) (rInU X.K) := op_in_seq.or (op_in_sign.or (op_inD hu))
theorem op_notInU {X : Cx} (hu : X.A.units + 65 < cLine) : OpR X (compareOp .NotIn) (rNotInU X.K) := op_notIn_seq.or (op_notIn_sign.or (op_notInD hu))
section
variable {K : Fg} [WD K]
theorem scal_flat {d : D} {a : V} (e : d.scal = some a) : flatV a = true := by
  cases d <;> cases e <;> rfl
theorem scal_rep {M : Hp} {d : D} {a v : V} (h : Rep K M d v) (e : d.scal = some a) : v = a := by
  cases d <;> cases e <;> simpa [Rep] using h
theorem scals_rep {M : Hp} : ∀ {xs : List D} {vs us : List V}, Reps K M xs vs → scals xs = some us → vs = us ∧ us.all flatV = true
  | [], vs, us, h, e => by
    simp only [Reps] at h
    simp only [scals] at e
    cases e
    exact ⟨h, rfl⟩
  | x :: xs, vs, us, h, e => by
    simp only [Reps] at h
    obtain ⟨v, r, rfl, h1, h2⟩ := h
    simp only [scals] at e
    obtain ⟨a, e1, e⟩ := Option.bind_eq_some_iff.mp e
    obtain ⟨as, e2, e⟩ := Option.bind_eq_some_iff.mp e
    cases e
    obtain ⟨q1, q2⟩ := scals_rep h2 e2
    rw [scal_rep h1 e1, q1]
    exact ⟨rfl, by rw [List.all_cons, scal_flat e1, q2]; rfl⟩
theorem one_sign {c : Str} (h : c.cps.size = 1) : c = ⟨#[c.cps.getD 0 0]⟩ := by
  obtain ⟨a⟩ := c
  have h' : a.size = 1 := h
  congr 1
  apply Array.ext
  · rw [h']; rfl
  · intro i h1 h2
    have : i = 0 := by omega
    subst this
    simp [Array.getD, h']
theorem ok_inB {M H : Hp} {dx dy : D} {v u : V} {b : Bool} (e : Same M H) (hx : Rd2 K M H dx v) (hy : Rd2 K M H dy u) (hf : pInB dx dy = some b) :
    (∃ p xs, u = .ref p ∧ (SqL K H p xs ∨ SqT K H p xs) ∧ flatV v = true ∧ xs.all flatV = true ∧ b = inV v xs) ∨
    (∃ (c : Nat) (z : Str), v = .str ⟨#[c]⟩ ∧ u = .str z ∧ b = decide (c ∈ z.cps.toList)) ∨
    (∃ d ds, Dp K H v d ∧ Dp K H u (.list ds) ∧ SeqAt.shaped d = true ∧ SeqAt.shaped (.list ds) = true ∧ b = ds.any fun z => PyData.eqv z d) := by
  unfold pInB at hf
  split at hf
  · split at hf
    · split at hf
      · rename_i h
        cases hf
        refine .inr (.inl ⟨_, _, ?_, hy.str, rfl⟩)
        rw [hx.str]
        exact congrArg V.str (one_sign h)
      · cases hf
    · cases hf
  · rename_i ys
    split at hf
    · rename_i a vs h1 h2
      cases hf
      obtain ⟨p, us, rfl, h3, h4⟩ := hy.lst e
      obtain ⟨h5, h6⟩ := scals_rep h4 h2
      subst h5
      rw [scal_rd hx h1]
      exact .inl ⟨p, us, rfl, .inl (SqL.of h3), scal_flat h1, h6, rfl⟩
    · split at hf
      · split at hf
        · rename_i d ds h1 h2 h3
          cases hf
          rw [Bool.and_eq_true] at h3
          exact .inr (.inr ⟨d, ds, dp_rd e hx h1, dp_rd e hy (by simp only [D.py]; rw [h2]; rfl), h3.1, h3.2, rfl⟩)
        · cases hf
      · cases hf
  · rename_i ys
    split at hf
    · rename_i a vs h1 h2
      cases hf
      obtain ⟨p, us, rfl, h3, h4⟩ := hy.tup e
      obtain ⟨h5, h6⟩ := scals_rep h4 h2
      subst h5
      rw [scal_rd hx h1]
      exact .inl ⟨p, us, rfl, .inr h3, scal_flat h1, h6, rfl⟩
    · cases hf
  · cases hf
theorem ok_in : OpOk K (rInU K) pIn := by
  intro M H dx dy x v u e hx hy hf Q q
  obtain ⟨b, hb, rfl⟩ := Option.map_eq_some_iff.mp hf
  have k := q.im0 e (rep_bl (K := K))
  rcases ok_inB e hx hy hb with ⟨p, xs, h1, h2, h3, h4, rfl⟩ | ⟨c, z, h1, h2, rfl⟩ | ⟨d, ds, h1, h2, h3, h4, rfl⟩
  · exact .inl ⟨p, xs, h1, h2, h3, h4, k⟩
  · exact .inr (.inl ⟨c, z, h1, h2, k⟩)
  · exact .inr (.inr ⟨d, ds, h1, h2, h3, h4, k⟩)
theorem ok_notIn : OpOk K (rNotInU K) pNotIn := by
  intro M H dx dy x v u e hx hy hf Q q
  obtain ⟨b, hb, rfl⟩ := Option.map_eq_some_iff.mp hf
  have k := q.im0 e (rep_bl (K := K))
  rcases ok_inB e hx hy hb with ⟨p, xs, h1, h2, h3, h4, rfl⟩ | ⟨c, z, h1, h2, rfl⟩ | ⟨d, ds, h1, h2, h3, h4, rfl⟩
  · exact .inl ⟨p, xs, h1, h2, h3, h4, k⟩
  · exact .inr (.inl ⟨c, z, h1, h2, k⟩)
  · exact .inr (.inr ⟨d, ds, h1, h2, h3, h4, k⟩)
end
def pIx : D → D → Option X
  | .lst xs, .int i => (atI xs i).map X.im
  | .tup xs, .int i => (atI xs i).map X.im
  | .scr ns, .int i => (atI ns i).map fun n => X.im (.int n)
  | .str z, .int i => if fit z.length then (atI z.cps.toList i).map fun c => X.im (.str ⟨#[c]⟩) else none
  | _, _ => none
def cutD {α : Type} (xs : List α) (lo hi : Option Int) : List α := (xs.drop (HT.sIx xs.length 0 lo)).take (HT.sIx xs.length xs.length hi - HT.sIx xs.length 0 lo)
def pSl : D → Option Int → Option Int → Option X
  | .lst xs, lo, hi => some (.ow (.lst (cutD xs lo hi)))
  | .tup xs, lo, hi => some (.im (.tup (cutD xs lo hi)))
  | .str z, lo, hi => if fit z.length then some (.im (.str (cutS z lo hi))) else none
  | _, _, _ => none
section
variable {K : Fg} [WD K]
theorem atI_rep {M : Hp} {xs : List D} {vs : List V} {i : Int} {x : D} (r : Reps K M xs vs) (h : atI xs i = some x) : ∃ v, atI vs i = some v ∧ Rep K M x v := by
  unfold atI at h ⊢
  rw [← r.length]
  obtain ⟨j, h1, h2⟩ := Option.bind_eq_some_iff.mp h
  obtain ⟨v, h3, h4⟩ := r.get h2
  exact ⟨v, by rw [h1]; exact h3, h4⟩
theorem ok_ix : OpOk K (rIx K) pIx := by
  intro M H dx dy x v u e hx hy hf Q q
  unfold pIx at hf
  split at hf
  · obtain ⟨d, h, rfl⟩ := Option.map_eq_some_iff.mp hf
    obtain ⟨a, vs, rfl, h1, h2⟩ := hx.lst e
    obtain ⟨w, h3, h4⟩ := atI_rep h2 h
    rw [hy.int]
    exact .inl ⟨a, vs, _, w, rfl, rfl, SqL.of h1, h3, q.im0 e h4⟩
  · obtain ⟨d, h, rfl⟩ := Option.map_eq_some_iff.mp hf
    obtain ⟨a, vs, rfl, h1, h2⟩ := hx.tup e
    obtain ⟨w, h3, h4⟩ := atI_rep h2 h
    rw [hy.int]
    exact .inr (.inl ⟨a, vs, _, w, rfl, rfl, h1, h3, q.im0 e h4⟩)
  · obtain ⟨d, h, rfl⟩ := Option.map_eq_some_iff.mp hf
    obtain ⟨a, rfl, h1⟩ := hx.scr e
    rw [hy.int]
    refine .inl ⟨a, _, _, .int d, rfl, rfl, h1, ?_, q.im0 e rep_int⟩
    unfold atI at h ⊢
    obtain ⟨j, h1, h2⟩ := Option.bind_eq_some_iff.mp h
    rw [List.length_map, h1]
    show (_ : List V)[j]? = _
    rw [List.getElem?_map, h2]
    rfl
  · split at hf
    · rename_i hz
      obtain ⟨d, h, rfl⟩ := Option.map_eq_some_iff.mp hf
      rw [hx.str, hy.int]
      exact .inr (.inr ⟨_, _, d, rfl, rfl, fit_ok hz, h, q.im0 e rep_str⟩)
    · cases hf
  · cases hf
theorem Reps.cut {M : Hp} {xs : List D} {vs : List V} (r : Reps K M xs vs) (lo hi : Option Int) : Reps K M (cutD xs lo hi) (cutV vs lo hi) := by
  unfold cutD cutV
  rw [r.length]
  exact (r.drop _).take _
theorem cutD_whole {α : Type} (xs : List α) (lo hi : Option Int) (h : HT.sIx xs.length 0 lo = 0 ∧ HT.sIx xs.length xs.length hi = xs.length) : cutD xs lo hi = xs := by
  unfold cutD
  rw [h.1, h.2]
  simp
def rSlN (K : Fg) : V → Option Int → Option Int → Hp → VK → Prop := fun x lo hi H Q => ∃ a xs, x = .ref a ∧ SqT K H a xs ∧
  (HT.sIx xs.length 0 lo = 0 ∧ HT.sIx xs.length xs.length hi = xs.length → Q (.ref a) H) ∧ (¬ (HT.sIx xs.length 0 lo = 0 ∧ HT.sIx xs.length xs.length hi = xs.length) → ∀ p (o : Obj), H p = none → o.dict = none → Q (.ref p) (upd H p (.frz o (.tup (cutV xs lo hi)))))
theorem sl_tupN {X : Cx} : SlR X (rSlN X.K) := by
  intro pins s σ H x v vl vu lo hi sl Q I rx hs pl pu h
  obtain ⟨a, xs, rfl, hx, q1, q2⟩ := h
  cases rx
  obtain ⟨its, r, ht, hz⟩ := I.tuple hx
  have hlen : its.toArray.size = xs.length := by rw [List.size_toArray]; exact r.length.symm
  refine ⟨"tuple", _, PyProof.Rows.slot_tuple_getitem.lookup, ht.typeIs, ?_⟩
  by_cases hw : HT.sIx xs.length 0 lo = 0 ∧ HT.sIx xs.length xs.length hi = xs.length
  · exact L2.getItem_tuple_whole ht hs pl pu (by rw [hlen]; exact hw) ⟨.ref a, H, I, rfl, q1 hw⟩
  · refine HT.getItem_tuple_cut ht hs pl pu (by rw [hlen]; exact hw) ?_ (by rw [hlen]; exact hz)
    rw [hlen]
    exact ⟨.ref s.heap.objs.size, _, I.newTup ((r.drop (HT.sIx xs.length 0 lo)).take (HT.sIx xs.length xs.length hi - HT.sIx xs.length 0 lo)) (Nat.le_trans (cutV_length xs lo hi) hz), rfl, q2 hw _ _ (I.hok.fresh (Nat.le_refl _)) rfl⟩
abbrev rSlU (K : Fg) : V → Option Int → Option Int → Hp → VK → Prop := fun x lo hi H Q => rSlL K x lo hi H Q ∨ rSlN K x lo hi H Q ∨ rSlS x lo hi H Q
theorem sl_U {X : Cx} : SlR X (rSlU X.K) := sl_list.or (sl_tupN.or sl_str)
theorem ok_sl {M H : Hp} {dx : D} {x : X} {v : V} {lo hi : Option Int} (e : Same M H) (hx : Rd2 K M H dx v) (hf : pSl dx lo hi = some x) {Q : VK} (q : Fin K M H x Q) : rSlU K v lo hi H Q := by
  unfold pSl at hf
  split at hf
  · cases hf
    obtain ⟨a, vs, rfl, h1, h2⟩ := hx.lst e
    exact .inl ⟨a, vs, rfl, SqL.of h1, fun p n => q.lst e (h2.cut _ _) n⟩
  · cases hf
    obtain ⟨a, vs, rfl, h1, h2⟩ := hx.tup e
    refine .inr (.inl ⟨a, vs, rfl, h1, fun hw => ?_, fun hw p o n hd => q.tup e (h2.cut _ _) n hd⟩)
    rw [cutD_whole _ _ _ (by rw [h2.length]; exact hw)] at q
    exact q.im0 e hx.tupR
  · split at hf
    · rename_i hz
      cases hf
      rw [hx.str]
      exact .inr (.inr ⟨_, rfl, fit_ok hz, q.im0 e rep_str⟩)
    · cases hf
  · cases hf
end
end Dn
namespace Dn
open PySem PySem.Spec PyProof.Rows L2
def frz : X → Option D
  | .im d => some d
  | .ow o => o.toD
  | .sl _ => none
def frzs : List X → Option (List D)
  | [] => some []
  | x :: xs => (frz x).bind fun d => (frzs xs).bind fun ds => some (d :: ds)
section
variable {K : Fg} [WD K] {W : WS} {M M' M1 M2 : Hp} {env env' env1 env2 : Ev} {σ σ' : L2.St} {H H' H1 H2 : Hp} {x y : X} {v u : V} {ta tb tc te : TE} {da db dc de : Ev → RE X}
open Classical in
/-- what is new and nobody's own is plain data from now on -/
noncomputable def frzM (M' H H' : Hp) (env' : Ev) (σ' : L2.St) : Hp := fun a => if M' a = none ∧ H a = none ∧ ¬ Own env' σ' a then H' a else M' a
theorem frzM_old {a : Addr} {o : HO} (e : M' a = some o) : frzM M' H H' env' σ' a = some o := by
  unfold frzM
  rw [if_neg (by rw [e]; intro z; exact nomatch z.1), e]
theorem frzM_new {a : Addr} (h1 : M' a = none) (h2 : H a = none) (h3 : ¬ Own env' σ' a) : frzM M' H H' env' σ' a = H' a := if_pos ⟨h1, h2, h3⟩
theorem frzM_of {a : Addr} {o : HO} (e : frzM M' H H' env' σ' a = some o) : M' a = some o ∨ (M' a = none ∧ H a = none ∧ ¬ Own env' σ' a ∧ H' a = some o) := by
  unfold frzM at e
  split at e
  · rename_i h
    exact .inr ⟨h.1, h.2.1, h.2.2, e⟩
  · exact .inl e
theorem frzM_grow (g : Grow M env σ H M' env' σ' H') : Grow M env σ H (frzM M' H H' env' σ') env' σ' H' where
  exM := fun a o e => frzM_old (g.exM a o e)
  fr := g.fr
  new := fun l o e => by
    rcases frzM_of e with q | q
    · exact g.new l o q
    · exact .inr (.inl q.2.1)
  own := g.own
  pin := g.pin
  dom := g.dom
  len := g.len
theorem frzM_same : Same M' (frzM M' H H' env' σ') := fun a o e => frzM_old e
theorem frzM_holds (h : Holds K M' env' σ' H') : Holds K (frzM M' H H' env' σ') env' σ' H' where
  ex := fun a o e => by
    rcases frzM_of e with q | q
    · exact h.ex a o q
    · exact q.2.2.2
  len := h.len
  slot := fun i s q => by
    have := h.slot i s q
    cases s with
    | no => trivial
    | hid => trivial
    | im d => obtain ⟨u, e1, e2⟩ := this; exact ⟨u, e1, Rep.mono frzM_same _ _ e2⟩
    | ow p o =>
      obtain ⟨l, e1, e2, e3⟩ := this
      refine ⟨l, e1, e2.mono frzM_same fun _ q => q, ?_⟩
      cases q2 : frzM M' H H' env' σ' l with
      | none => rfl
      | some u =>
        rcases frzM_of q2 with z | z
        · rw [e3] at z; cases z
        · exact (z.2.2.1 ⟨i, p, o, q, e1⟩).elim
  dj := h.dj
theorem frz_rep (r : RX K σ H M' H' env' x v) {d : D} (e : frz x = some d) : Rep K (frzM M' H H' env' σ) d v := by
  obtain ⟨r, n⟩ := r
  cases x with
  | im d' =>
    cases e
    exact Rep.mono frzM_same _ _ r
  | sl i => cases e
  | ow o =>
    obtain ⟨l, rfl, a, m, no⟩ := r
    have hn := frzM_new (H' := H') m (n o rfl l rfl) no
    cases o with
    | lst xs =>
      cases e
      obtain ⟨vs, e1, e2⟩ := a
      simp only [Rep]
      exact ⟨l, vs, rfl, hn.trans e1, Reps.mono frzM_same _ _ e2⟩
    | ob c fs =>
      cases e
      obtain ⟨dx, fvs, e1, e2⟩ := a
      simp only [Rep]
      exact ⟨l, dx, fvs, rfl, hn.trans e1, RepF.mono frzM_same _ _ e2⟩
    | dk kvs =>
      cases e
      obtain ⟨o, vs, e1, e3, e2⟩ := a
      simp only [Rep]
      exact ⟨l, o, vs, rfl, hn.trans e1, e3, repG_iff.mpr (RepK.mono frzM_same e2)⟩
    | dt kvs =>
      cases e
      obtain ⟨o, vs, e1, e3, e2⟩ := a
      simp only [Rep]
      exact ⟨l, o, vs, rfl, hn.trans e1, e3, repH_iff.mpr (RepT.mono frzM_same e2)⟩
theorem frzs_rep : ∀ {xs : List X} {vs : List V} {ds : List D}, RA K σ H M' H' env' xs vs → frzs xs = some ds → Reps K (frzM M' H H' env' σ) ds vs
  | [], _, _, .nil, e => by
    cases e
    exact Reps.nil
  | x :: xs, _, _, .cons r rs, e => by
    obtain ⟨dx, e1, e⟩ := Option.bind_eq_some_iff.mp (show ((frz x).bind fun d => (frzs xs).bind fun ds => some (d :: ds)) = _ from e)
    obtain ⟨dy, e2, e⟩ := Option.bind_eq_some_iff.mp e
    cases e
    exact Reps.cons (frz_rep r e1) (frzs_rep rs e2)
theorem rx_im {d : D} {H0 : Hp} (r : Rep K M d v) : RX K σ H0 M H env (.im d) v := ⟨r, fun _ z => nomatch z⟩
def dFrz (de : Ev → RE X) : Ev → RE X := fun env => (de env).bind fun x e1 => opt ((frz x).map X.im) e1
theorem de_frz (h : DE K W te de) : DE K W te (dFrz de) := fun M σ H env hh => by
  have h1 := h M σ H env hh
  unfold dFrz
  cases e1 : de env with
  | bad => trivial
  | exc e env1 => rw [e1] at h1; exact h1
  | ok x env1 =>
    rw [e1] at h1
    show Sat K W M σ H env (opt ((frz x).map X.im) env1) (RX K σ) (te σ H)
    cases e2 : frz x with
    | none => trivial
    | some d => exact fun Q k => h1 Q fun v M' H' g s hh' r => k v _ H' (frzM_grow g) s (frzM_holds hh') (rx_im (frz_rep r e2))
def dTup (da : Ev → RE (List X)) : Ev → RE X := fun env => (da env).bind fun xs e1 => opt ((frzs xs).bind fun ds => if fit ds.length then some (X.im (.tup ds)) else none) e1
def dLst (da : Ev → RE (List X)) : Ev → RE X := fun env => (da env).bind fun xs e1 => opt ((frzs xs).bind fun ds => if fit ds.length then some (X.ow (.lst ds)) else none) e1
def tTupN (t : TA) : TE := fun σ H Q => t σ H fun xs H1 => xs.length ≤ sizeLine ∧ ∀ p (o : Obj), H1 p = none → o.dict = none → Q (.ref p) (upd H1 p (.frz o (.tup xs)))
theorem pe_tupN {X : Cx} {es : List Expr} {pos : Pos} {t : TA} {x1} (h : PA X es t) : PE X (.Tuple es x1 pos) (tTupN t) := by
  refine ⟨fun pins s σ H Q I hq => ?_⟩
  refine wpAny_Tuple_spliced (thn (h.run pos pins s σ H _ I hq) fun us s1 ⟨xs, H1, I1, r, z, q⟩ => ⟨by rw [← r.length]; exact z, ?_⟩)
  exact ⟨.ref s1.heap.objs.size, _, I1.newTup r z, rfl, q _ _ (I1.hok.fresh (Nat.le_refl _)) rfl⟩
theorem de_tup {ta : TA} {da : Ev → RE (List X)} (h : DA K W ta da) : DE K W (tTupN ta) (dTup da) := fun M σ H env hh => by
  have h1 := h M σ H env hh
  unfold dTup
  cases e1 : da env with
  | bad => trivial
  | exc e env1 => rw [e1] at h1; exact fun Q k => h1 _ k
  | ok xs env1 =>
    rw [e1] at h1
    show Sat K W M σ H env (opt ((frzs xs).bind fun ds => if fit ds.length then some (X.im (.tup ds)) else none) env1) (RX K σ) (tTupN ta σ H)
    cases e2 : frzs xs with
    | none => trivial
    | some ds =>
      show Sat K W M σ H env (opt (if fit ds.length then some (X.im (.tup ds)) else none) env1) (RX K σ) (tTupN ta σ H)
      cases e3 : fit ds.length with
      | false => trivial
      | true =>
        refine fun Q k => h1 _ fun vs M' H' g s hh' r => ?_
        have r2 := frzs_rep r e2
        have g2 := frzM_grow g
        have hh2 := frzM_holds (H := H) hh'
        refine ⟨by rw [← r2.length]; exact fit_ok e3, fun p o n hd => ?_⟩
        have e := ext_tup hh2.ex (o := .frz o (.tup vs)) n
        exact k _ _ _ (g2.trans hh (e.grow hh2)) s (e.holds hh2) (rx_im (rep_tup (.inl ⟨o, upd_same, hd⟩) (Reps.mono e.exM _ _ r2)))
theorem de_lst {ta : TA} {da : Ev → RE (List X)} (h : DA K W ta da) : DE K W (tLst ta) (dLst da) := fun M σ H env hh => by
  have h1 := h M σ H env hh
  unfold dLst
  cases e1 : da env with
  | bad => trivial
  | exc e env1 => rw [e1] at h1; exact fun Q k => h1 _ k
  | ok xs env1 =>
    rw [e1] at h1
    show Sat K W M σ H env (opt ((frzs xs).bind fun ds => if fit ds.length then some (X.ow (.lst ds)) else none) env1) (RX K σ) (tLst ta σ H)
    cases e2 : frzs xs with
    | none => trivial
    | some ds =>
      show Sat K W M σ H env (opt (if fit ds.length then some (X.ow (.lst ds)) else none) env1) (RX K σ) (tLst ta σ H)
      cases e3 : fit ds.length with
      | false => trivial
      | true =>
        refine fun Q k => h1 _ fun vs M' H' g s hh' r => ?_
        have r2 := frzs_rep r e2
        have g2 := frzM_grow g
        have hh2 := frzM_holds (H := H) hh'
        refine ⟨by rw [← r2.length]; exact fit_ok e3, fun p n => ?_⟩
        have e := ext_own hh2.ex (o := .lst vs) n
        refine k _ _ _ (g2.trans hh (e.grow hh2)) s (e.holds hh2) ⟨⟨p, rfl, ⟨vs, upd_same, r2⟩, hh2.ex.free n, fun z => ?_⟩, fun o _ l z => by cases z; exact g.dom _ n⟩
        obtain ⟨u, q⟩ := hh2.ownSome z
        rw [n] at q
        cases q
def RO : Hp → Hp → Hp → Ev → Option Int → Option Int → Prop := fun _ _ _ _ x v => x = v
theorem back_o : Back RO := fun _ _ _ _ _ _ _ _ h => h
def DO (K : Fg) [WD K] (W : WS) (t : TO) (d : Ev → RE (Option Int)) : Prop := ∀ (M : Hp) (σ : L2.St) (H : Hp) (env : Ev), Holds K M env σ H → Sat K W M σ H env (d env) RO (t σ H)
def dNone : Ev → RE (Option Int) := fun env => .ok none env
def dSome (de : Ev → RE X) : Ev → RE (Option Int) := fun env => (de env).bind fun x e1 => match rd e1 x with
  | some (.int i) => .ok (some i) e1
  | _ => .bad
def dSl (da : Ev → RE X) (dl dh : Ev → RE (Option Int)) : Ev → RE X := fun env => (da env).bind fun x e1 => (dl e1).bind fun lo e2 => (dh e2).bind fun hi e3 => opt ((rd e3 x).bind fun d => pSl d lo hi) e3
theorem do_none : DO K W tNoPart dNone := fun M σ H env hh Q k => k none M H .refl (.refl _) hh rfl
theorem do_some (h : DE K W te de) : DO K W (tPart te) (dSome de) := fun M σ H env hh => by
  refine Sat.bind (c := fun v H1 Q => ∃ i, v = V.int i ∧ Q (some i) H1) back_o hh (h M σ H env hh) (fun Q q => q) fun M1 H1 env1 x v g1 s1 hh1 r1 => ?_
  cases e : rd env1 x with
  | none => trivial
  | some d =>
    cases d with
    | int i => exact fun Q k => ⟨i, (rd_ok hh1 r1.1 e).int, k (some i) M1 H1 .refl (.refl _) hh1 rfl⟩
    | _ => trivial
theorem de_sl {dl dh : Ev → RE (Option Int)} {tl th : TO} (ha : DE K W ta da) (hl : DO K W tl dl) (hh' : DO K W th dh) : DE K W (tSl (rSlU K) ta tl th) (dSl da dl dh) := fun M σ H env hh => by
  refine Sat.bind (c := fun v H1 Q => tl σ H1 fun l H2 => th σ H2 fun u H3 => rSlU K v l u H3 Q) back_x hh (ha M σ H env hh) (fun Q q => q) fun M1 H1 env1 x v g1 s1 hh1 r1 => ?_
  refine Sat.bind (c := fun l H2 Q => th σ H2 fun u H3 => rSlU K v l u H3 Q) back_x hh1 (hl M1 σ H1 env1 hh1) (fun Q q => q) fun M2 H2 env2 lo lo' g2 s2 hh2 r2 => ?_
  cases (show lo = lo' from r2)
  refine Sat.bind (c := fun u H3 Q => rSlU K v lo u H3 Q) back_x hh2 (hh' M2 σ H2 env2 hh2) (fun Q q => q) fun M3 H3 env3 hi hi' g3 s3 hh3 r3 => ?_
  cases (show hi = hi' from r3)
  refine sat_fin hh3 fun z e Q q => ?_
  obtain ⟨dx, e1, e⟩ := Option.bind_eq_some_iff.mp e
  exact ok_sl hh3.ex (rd_ok hh3 (RepX.grow hh2 (RepX.grow hh1 r1.1 g2 s2) g3 s3) e1) e q
variable {tt tu : TT} {dt du : Ev → RE Bool}
def dTest (de : Ev → RE X) : Ev → RE Bool := fun env => (de env).bind fun x e1 => match rd e1 x with
  | some (.bl b) => .ok b e1
  | _ => .bad
theorem dt_test (h : DE K W te de) : DT K W (tTest te) (dTest de) := fun M σ H env hh => by
  refine Sat.bind (c := fun v H1 Q => ∃ k, v = V.bl k ∧ Q k H1) back_b hh (h M σ H env hh) (fun Q q => q) fun M1 H1 env1 x v g1 s1 hh1 r1 => ?_
  cases e : rd env1 x with
  | none => trivial
  | some d =>
    cases d with
    | bl i => exact fun Q k => ⟨i, (rd_ok hh1 r1.1 e).bl, k i M1 H1 .refl (.refl _) hh1 rfl⟩
    | _ => trivial
def dtAnd (a b : Ev → RE Bool) : Ev → RE Bool := fun env => (a env).bind fun c e1 => if c = true then b e1 else .ok false e1
def dtOr (a b : Ev → RE Bool) : Ev → RE Bool := fun env => (a env).bind fun c e1 => if c = true then .ok true e1 else b e1
def dtNot (a : Ev → RE Bool) : Ev → RE Bool := fun env => (a env).bind fun c e1 => .ok (!c) e1
theorem dt_and (ha : DT K W tt dt) (hb : DT K W tu du) : DT K W (tAnd tt tu) (dtAnd dt du) := fun M σ H env hh => by
  refine Sat.bind (c := fun c H1 Q => if c = true then tu σ H1 Q else Q false H1) back_b hh (ha M σ H env hh) (fun Q q => q) fun M1 H1 env1 x v g1 s1 hh1 r1 => ?_
  cases (show x = v from r1)
  cases x with
  | true => exact hb M1 σ H1 env1 hh1
  | false => exact fun Q k => k false M1 H1 .refl (.refl _) hh1 rfl
theorem dt_or (ha : DT K W tt dt) (hb : DT K W tu du) : DT K W (tOr tt tu) (dtOr dt du) := fun M σ H env hh => by
  refine Sat.bind (c := fun c H1 Q => if c = true then Q true H1 else tu σ H1 Q) back_b hh (ha M σ H env hh) (fun Q q => q) fun M1 H1 env1 x v g1 s1 hh1 r1 => ?_
  cases (show x = v from r1)
  cases x with
  | false => exact hb M1 σ H1 env1 hh1
  | true => exact fun Q k => k true M1 H1 .refl (.refl _) hh1 rfl
theorem dt_not (ha : DT K W tt dt) : DT K W (tNot tt) (dtNot dt) := fun M σ H env hh => by
  refine Sat.bind (c := fun c H1 Q => Q (!c) H1) back_b hh (ha M σ H env hh) (fun Q q => q) fun M1 H1 env1 x v g1 s1 hh1 r1 => ?_
  cases (show x = v from r1)
  exact fun Q k => k (!x) M1 H1 .refl (.refl _) hh1 rfl
def dAndV (da db : Ev → RE X) : Ev → RE X := fun env => (dTest da env).bind fun c e1 => if c = true then db e1 else .ok (.im (.bl false)) e1
def dOrV (da db : Ev → RE X) : Ev → RE X := fun env => (dTest da env).bind fun c e1 => if c = true then .ok (.im (.bl true)) e1 else db e1
def dNotV (da : Ev → RE X) : Ev → RE X := fun env => (dTest da env).bind fun c e1 => .ok (.im (.bl (!c))) e1
theorem de_andV (ha : DE K W ta da) (hb : DE K W tb db) : DE K W (tAndV ta tb) (dAndV da db) := fun M σ H env hh => by
  refine Sat.bind (c := fun c H1 Q => if c = true then tb σ H1 Q else Q (.bl false) H1) back_x hh (dt_test ha M σ H env hh) (fun Q q => q) fun M1 H1 env1 x v g1 s1 hh1 r1 => ?_
  cases (show x = v from r1)
  cases x with
  | true => exact hb M1 σ H1 env1 hh1
  | false => exact fun Q k => k _ M1 H1 .refl (.refl _) hh1 (rx_im rep_bl)
theorem de_orV (ha : DE K W ta da) (hb : DE K W tb db) : DE K W (tOrV ta tb) (dOrV da db) := fun M σ H env hh => by
  refine Sat.bind (c := fun c H1 Q => if c = true then Q (.bl true) H1 else tb σ H1 Q) back_x hh (dt_test ha M σ H env hh) (fun Q q => q) fun M1 H1 env1 x v g1 s1 hh1 r1 => ?_
  cases (show x = v from r1)
  cases x with
  | false => exact hb M1 σ H1 env1 hh1
  | true => exact fun Q k => k _ M1 H1 .refl (.refl _) hh1 (rx_im rep_bl)
theorem de_notV (ha : DE K W ta da) : DE K W (tNotV ta) (dNotV da) := fun M σ H env hh => by
  refine Sat.bind (c := fun c H1 Q => Q (.bl (!c)) H1) back_x hh (dt_test ha M σ H env hh) (fun Q q => q) fun M1 H1 env1 x v g1 s1 hh1 r1 => ?_
  cases (show x = v from r1)
  exact fun Q k => k _ M1 H1 .refl (.refl _) hh1 (rx_im rep_bl)
/-- a < b < c of ints -/
def dChain (p q : Int → Int → Bool) (da db dc : Ev → RE X) : Ev → RE X := fun env => (da env).bind fun x e1 => (db e1).bind fun y e2 => match rd e2 x, rd e2 y with
  | some (.int i), some (.int j) => if p i j = true then (dc e2).bind fun z e3 => match rd e3 z with
      | some (.int k) => .ok (.im (.bl (q j k))) e3
      | _ => .bad
    else .ok (.im (.bl false)) e2
  | _, _ => .bad
theorem de_chain {p q : Int → Int → Bool} (ha : DE K W ta da) (hb : DE K W tb db) (hc : DE K W tc dc) : DE K W (tChain (rI0 fun i j => .bl (p i j)) (rI0 fun i j => .bl (q i j)) ta tb tc) (dChain p q da db dc) := fun M σ H env hh => by
  refine Sat.bind (c := fun v H1 Q => tb σ H1 fun y H2 => (rI0 fun i j => .bl (p i j)) v y H2 fun z H3 => ∃ k, z = .bl k ∧ (if k = true then tc σ H3 fun w' H4 => (rI0 fun i j => .bl (q i j)) y w' H4 Q else Q (.bl false) H3)) back_x hh (ha M σ H env hh) (fun Q q => q) fun M1 H1 env1 x v g1 s1 hh1 r1 => ?_
  refine Sat.bind (c := fun y H2 Q => (rI0 fun i j => .bl (p i j)) v y H2 fun z H3 => ∃ k, z = .bl k ∧ (if k = true then tc σ H3 fun w' H4 => (rI0 fun i j => .bl (q i j)) y w' H4 Q else Q (.bl false) H3)) back_x hh1 (hb M1 σ H1 env1 hh1) (fun Q q => q) fun M2 H2 env2 y u g2 s2 hh2 r2 => ?_
  cases e1 : rd env2 x with
  | none => trivial
  | some dx =>
    cases e2 : rd env2 y with
    | none => cases dx <;> trivial
    | some dy =>
      cases dx with
      | int i =>
        cases dy with
        | int j =>
          have hx := (rd_ok hh2 (RepX.grow hh1 r1.1 g2 s2) e1).int
          have hy := (rd_ok hh2 r2.1 e2).int
          show Sat K W M2 σ H2 env2 (if p i j = true then _ else _) (RX K σ) _
          cases e3 : p i j with
          | true =>
            show Sat K W M2 σ H2 env2 ((dc env2).bind _) (RX K σ) _
            refine Sat.bind (c := fun w' H4 Q => (rI0 fun i j => .bl (q i j)) u w' H4 Q) back_x hh2 (hc M2 σ H2 env2 hh2) (fun Q k => ⟨i, j, hx, hy, true, by show V.bl (p i j) = _; rw [e3], by rw [if_pos rfl]; exact k⟩) fun M3 H3 env3 z w g3 s3 hh3 r3 => ?_
            cases e4 : rd env3 z with
            | none => trivial
            | some dz =>
              cases dz with
              | int k =>
                have hz := (rd_ok hh3 r3.1 e4).int
                exact fun Q kk => ⟨j, k, hy, hz, kk _ M3 H3 .refl (.refl _) hh3 (rx_im rep_bl)⟩
              | _ => trivial
          | false =>
            exact fun Q k => ⟨i, j, hx, hy, false, by show V.bl (p i j) = _; rw [e3], by rw [if_neg (by decide)]; exact k _ M2 H2 .refl (.refl _) hh2 (rx_im rep_bl)⟩
        | _ => trivial
      | _ => cases dy <;> trivial
end
end Dn
namespace Dn
open PySem PySem.Spec PyProof.Rows L2
inductive RS where
  | nx (env : Ev) | rt (x : X) (env : Ev) | bk (env : Ev) | ct (env : Ev) | exc (e : Xn) (env : Ev) | bad
def SatS (K : Fg) [WD K] (W : WS) (M : Hp) (σ : L2.St) (H : Hp) (env : Ev) (r : RS) (t : Ends → Prop) : Prop := match r with
  | .nx env' => ∀ D : Ends, (∀ σ' M' H', Grow M env σ H M' env' σ' H' → Holds K M' env' σ' H' → D.nx σ' H') → t D
  | .rt x env' => ∀ D : Ends, (∀ v σ' M' H', Grow M env σ H M' env' σ' H' → Holds K M' env' σ' H' → RX K σ' H M' H' env' x v → D.rt v H') → t D
  | .bk env' => ∀ D : Ends, (∀ σ' M' H', Grow M env σ H M' env' σ' H' → Holds K M' env' σ' H' → D.bk σ' H') → t D
  | .ct env' => ∀ D : Ends, (∀ σ' M' H', Grow M env σ H M' env' σ' H' → Holds K M' env' σ' H' → D.ct σ' H') → t D
  | .exc e env' => ∀ D : Ends, (∀ cls d σ' M' H', Grow M env σ H M' env' σ' H' → Holds K M' env' σ' H' → RepE K M' H' e cls d → W σ' cls d H') → t D
  | .bad => True
def DS (K : Fg) [WD K] (W : WS) (ts : TS) (ds : Ev → RS) : Prop := ∀ (M : Hp) (σ : L2.St) (H : Hp) (env : Ev), Holds K M env σ H → SatS K W M σ H env (ds env) (fun D => ts D σ H)
/-- an expression's outcome, then a statement's -/
def RE.stm {α : Type} (r : RE α) (f : α → Ev → RS) : RS := match r with
  | .ok x env => f x env
  | .exc e env => .exc e env
  | .bad => .bad
def RS.seq (r : RS) (f : Ev → RS) : RS := match r with
  | .nx env => f env
  | r => r
section
variable {K : Fg} [WD K] {W : WS} {M M' M1 M2 : Hp} {env env' env1 env2 : Ev} {σ σ' σ1 : L2.St} {H H' H1 H2 : Hp} {x y : X} {v u : V} {ta tb tc te : TE} {da db dc de : Ev → RE X} {ts tu : TS} {ds du : Ev → RS} {tt : TT} {dt : Ev → RE Bool}
/-- from later on to the end -/
theorem SatS.later {r : RS} {t : Ends → Prop} (hh : Holds K M env σ H) (g : Grow M env σ H M1 env1 σ1 H1) (h : SatS K W M1 σ1 H1 env1 r t) : SatS K W M σ H env r t := by
  cases r with
  | bad => trivial
  | nx env' => exact fun D k => h D fun σ' M' H' g2 hh2 => k σ' M' H' (g.trans hh g2) hh2
  | bk env' => exact fun D k => h D fun σ' M' H' g2 hh2 => k σ' M' H' (g.trans hh g2) hh2
  | ct env' => exact fun D k => h D fun σ' M' H' g2 hh2 => k σ' M' H' (g.trans hh g2) hh2
  | rt x env' => exact fun D k => h D fun v σ' M' H' g2 hh2 r => k v σ' M' H' (g.trans hh g2) hh2 (back_x _ _ _ _ _ _ _ g.dom r)
  | exc e env' => exact fun D k => h D fun c d σ' M' H' g2 hh2 r => k c d σ' M' H' (g.trans hh g2) hh2 r
theorem SatS.imp {r : RS} {t t' : Ends → Prop} (h : SatS K W M σ H env r t) (i : ∀ D, t D → t' D) : SatS K W M σ H env r t' := by
  cases r with
  | bad => trivial
  | nx env' => exact fun D k => i D (h D k)
  | bk env' => exact fun D k => i D (h D k)
  | ct env' => exact fun D k => i D (h D k)
  | rt x env' => exact fun D k => i D (h D k)
  | exc e env' => exact fun D k => i D (h D k)
/-- an expression, then what follows -/
theorem Sat.stm {α β : Type} {r : RE α} {R : Hp → Hp → Hp → Ev → α → β → Prop} {f : α → Ev → RS} {t : (β → Hp → Prop) → Prop} {t' : Ends → Prop} {c : β → Hp → Ends → Prop} (hh : Holds K M env σ H) (h : Sat K W M σ H env r R t)
    (ht : ∀ D, t (fun v H1 => c v H1 D) → t' D) (hf : ∀ M1 H1 env1 x v, Grow M env σ H M1 env1 σ H1 → Shape env env1 → Holds K M1 env1 σ H1 → R H M1 H1 env1 x v → SatS K W M σ H env (f x env1) (c v H1)) : SatS K W M σ H env (r.stm f) t' := by
  cases r with
  | bad => trivial
  | exc e env1 => exact fun D k => ht D (h _ fun cls d M' H' g s hh' r => k cls d σ M' H' g hh' r)
  | ok x env1 =>
    show SatS K W M σ H env (f x env1) t'
    have key : ∀ (r2 : RS) (e2 : f x env1 = r2), (∀ D, (∀ v H1, (SatS K W M σ H env r2 (c v H1)) → c v H1 D) → t' D) → True := fun _ _ _ => trivial
    cases e2 : f x env1 with
    | bad => trivial
    | nx env' => exact fun D k => ht D (h _ fun v M' H' g s hh' r => (by have := hf M' H' env1 x v g s hh' r; rw [e2] at this; exact this D k))
    | bk env' => exact fun D k => ht D (h _ fun v M' H' g s hh' r => (by have := hf M' H' env1 x v g s hh' r; rw [e2] at this; exact this D k))
    | ct env' => exact fun D k => ht D (h _ fun v M' H' g s hh' r => (by have := hf M' H' env1 x v g s hh' r; rw [e2] at this; exact this D k))
    | rt y env' => exact fun D k => ht D (h _ fun v M' H' g s hh' r => (by have := hf M' H' env1 x v g s hh' r; rw [e2] at this; exact this D k))
    | exc e env' => exact fun D k => ht D (h _ fun v M' H' g s hh' r => (by have := hf M' H' env1 x v g s hh' r; rw [e2] at this; exact this D k))
def dNext : Ev → RS := fun env => .nx env
def dSeq (a b : Ev → RS) : Ev → RS := fun env => (a env).seq b
theorem ds_next : DS K W tNext dNext := fun M σ H env hh D k => k σ M H .refl hh
theorem ds_seq (ha : DS K W ts ds) (hb : DS K W tu du) : DS K W (tSeq ts tu) (dSeq ds du) := fun M σ H env hh => by
  have h1 := ha M σ H env hh
  unfold dSeq
  cases e1 : ds env with
  | bad => trivial
  | rt x env' => rw [e1] at h1; exact fun D k => h1 { D with nx := tu D } k
  | bk env' => rw [e1] at h1; exact fun D k => h1 { D with nx := tu D } k
  | ct env' => rw [e1] at h1; exact fun D k => h1 { D with nx := tu D } k
  | exc e env' => rw [e1] at h1; exact fun D k => h1 { D with nx := tu D } k
  | nx env1 =>
    rw [e1] at h1
    show SatS K W M σ H env (du env1) _
    cases e2 : du env1 with
    | bad => trivial
    | nx env' => exact fun D k => h1 { D with nx := tu D } fun σ1 M1 H1 g hh1 => (by have := SatS.later hh g (hb M1 σ1 H1 env1 hh1); rw [e2] at this; exact this D k)
    | bk env' => exact fun D k => h1 { D with nx := tu D } fun σ1 M1 H1 g hh1 => (by have := SatS.later hh g (hb M1 σ1 H1 env1 hh1); rw [e2] at this; exact this D k)
    | ct env' => exact fun D k => h1 { D with nx := tu D } fun σ1 M1 H1 g hh1 => (by have := SatS.later hh g (hb M1 σ1 H1 env1 hh1); rw [e2] at this; exact this D k)
    | rt y env' => exact fun D k => h1 { D with nx := tu D } fun σ1 M1 H1 g hh1 => (by have := SatS.later hh g (hb M1 σ1 H1 env1 hh1); rw [e2] at this; exact this D k)
    | exc e env' => exact fun D k => h1 { D with nx := tu D } fun σ1 M1 H1 g hh1 => (by have := SatS.later hh g (hb M1 σ1 H1 env1 hh1); rw [e2] at this; exact this D k)
def X.slot : X → Option Sl
  | .im d => some (.im d)
  | .ow o => some (.ow false o)
  | .sl _ => none
/-- a slot set -/
def setSl (i : Nat) (x : X) (env : Ev) : Option Ev := match env[i]? with
  | none => none
  | some (.ow true _) => none
  | some .hid => none
  | some _ => x.slot.map fun s => env.set i s
theorem setSl_ok {i : Nat} (hh : Holds K M env σ H) (r : RX K σ H0 M H env x v) (e : setSl i x env = some env') :
    Holds K M env' (σ.set i (some v)) H ∧ (∀ l, Own env' (σ.set i (some v)) l → Own env σ l ∨ H0 l = none) ∧ env'.length = env.length ∧ (∀ (j : Nat) s, env[j]? = some s → s.pinned = true → (σ.set i (some v))[j]? = σ[j]? ∧ ∃ s', env'[j]? = some s' ∧ s'.kind = s.kind) := by
  unfold setSl at e
  have hex : ∃ s, env[i]? = some s ∧ s.pinned = false := by
    cases q : env[i]? with
    | none => rw [q] at e; cases e
    | some s =>
      refine ⟨s, rfl, ?_⟩
      rw [q] at e
      cases s with
      | no => rfl
      | im d => rfl
      | hid => cases e
      | ow p o =>
        cases p with
        | true => cases e
        | false => rfl
  obtain ⟨s, hs, hp⟩ := hex
  have hi : i < env.length := (List.getElem?_eq_some_iff.mp hs).1
  have hiσ : i < σ.length := by rw [hh.len]; exact hi
  have e' : (x.slot.map fun s => env.set i s) = some env' := by
    rw [hs] at e
    cases s with
    | no => exact e
    | im d => exact e
    | hid => cases e
    | ow p o =>
      cases p with
      | true => cases hp
      | false => exact e
  obtain ⟨s', hs', rfl⟩ := Option.map_eq_some_iff.mp e'
  have hpin : ∀ (j : Nat) s, env[j]? = some s → s.pinned = true → j ≠ i := fun j s2 q p z => by
    subst z
    rw [hs] at q
    cases q
    rw [hp] at p
    cases p
  have hown : ∀ l, Own (env.set i s') (σ.set i (some v)) l → Own env σ l ∨ (∃ o, x = .ow o ∧ v = V.ref l) := fun l ⟨j, p, o, q1, q2⟩ => by
    by_cases hj : j = i
    · subst hj
      rw [List.getElem?_set_self hi] at q1
      rw [List.getElem?_set_self hiσ] at q2
      cases q1
      cases x with
      | im d => cases hs'
      | sl _ => cases hs'
      | ow o2 =>
        cases q2
        exact .inr ⟨o2, rfl, rfl⟩
    · rw [List.getElem?_set_ne (Ne.symm hj)] at q1 q2
      exact .inl ⟨j, p, o, q1, q2⟩
  refine ⟨⟨hh.ex, by simpa using hh.len, fun j t q => ?_, fun j k l p o p' o' hjk q1 q2 q3 q4 => ?_⟩, fun l z => ?_, by simp, fun j s2 q p => ?_⟩
  · by_cases hj : j = i
    · subst hj
      rw [List.getElem?_set_self hi] at q
      rw [List.getElem?_set_self hiσ]
      cases q
      cases x with
      | im d => cases hs'; exact ⟨v, rfl, r.1⟩
      | sl _ => cases hs'
      | ow o2 =>
        cases hs'
        obtain ⟨l, rfl, a, m, _⟩ := r.1
        exact ⟨l, rfl, a, m⟩
    · rw [List.getElem?_set_ne (Ne.symm hj)] at q ⊢
      exact hh.slot j t q
  · -- one object, one holder
    have one : ∀ (a b : Nat) (pa pb : Bool) (oa ob : OD), a = i → b ≠ i → (env.set i s')[a]? = some (Sl.ow pa oa) → (env.set i s')[b]? = some (Sl.ow pb ob) → (σ.set i (some v))[a]? = some (some (V.ref l)) → (σ.set i (some v))[b]? = some (some (V.ref l)) → False := by
      intro a b pa pb oa ob ha hb t1 t2 t3 t4
      subst ha
      rw [List.getElem?_set_self hi] at t1
      rw [List.getElem?_set_self hiσ] at t3
      rw [List.getElem?_set_ne (Ne.symm hb)] at t2 t4
      cases t1
      cases x with
      | im d => cases hs'
      | sl _ => cases hs'
      | ow o2 =>
        obtain ⟨l2, e2, _, _, no⟩ := r.1
        cases t3
        cases e2
        exact no ⟨b, pb, ob, t2, t4⟩
    by_cases hj : j = i
    · by_cases hk : k = i
      · exact hjk (hj.trans hk.symm)
      · exact one j k p p' o o' hj hk q1 q2 q3 q4
    · by_cases hk : k = i
      · exact one k j p' p o' o hk hj q2 q1 q4 q3
      · rw [List.getElem?_set_ne (Ne.symm hj)] at q1 q3
        rw [List.getElem?_set_ne (Ne.symm hk)] at q2 q4
        exact hh.dj j k l p o p' o' hjk q1 q2 q3 q4
  · rcases hown l z with q | ⟨o, e1, e2⟩
    · exact .inl q
    · exact .inr (r.2 o e1 l e2)
  · have hj := hpin j s2 q p
    exact ⟨List.getElem?_set_ne (Ne.symm hj), s2, by rw [List.getElem?_set_ne (Ne.symm hj)]; exact q, rfl⟩
theorem setSl_grow {i : Nat} (hh0 : Holds K M env σ H) (g : Grow M env σ H M1 env1 σ H1) (hh : Holds K M1 env1 σ H1) (r : RX K σ H M1 H1 env1 x v) (e : setSl i x env1 = some env') :
    Grow M env σ H M1 env' (σ.set i (some v)) H1 ∧ Holds K M1 env' (σ.set i (some v)) H1 := by
  obtain ⟨h1, h2, h3, h4⟩ := setSl_ok hh r e
  refine ⟨⟨g.exM, g.fr, g.new, fun l z => ?_, fun j s q p => ?_, g.dom, h3.trans g.len⟩, h1⟩
  · rcases h2 l z with q | q
    · exact g.own l q
    · exact .inr q
  · obtain ⟨e1, s1, e2, k1⟩ := g.pin j s q p
    obtain ⟨e3, s2, e4, k2⟩ := h4 j s1 e2 ((kind_pin k1).trans p)
    exact ⟨e3.trans e1, s2, e4, k2.trans k1⟩
def optS (o : Option Ev) : RS := match o with
  | some env => .nx env
  | none => .bad
def dAsg (i : Nat) (de : Ev → RE X) : Ev → RS := fun env => (de env).stm fun x e1 => optS (setSl i x e1)
theorem ds_asg {i : Nat} (h : DE K W te de) : DS K W (tAsg te (gName i)) (dAsg i de) := fun M σ H env hh => by
  refine Sat.stm (c := fun v H1 D => D.nx (σ.set i (some v)) H1) hh (h M σ H env hh) (fun D q => q) fun M1 H1 env1 x v g s hh1 r => ?_
  cases e : setSl i x env1 with
  | none => trivial
  | some env' =>
    obtain ⟨g2, hh2⟩ := setSl_grow hh g hh1 r e
    exact fun D k => k _ _ _ g2 hh2
def dDrop (de : Ev → RE X) : Ev → RS := fun env => (de env).stm fun _ e1 => .nx e1
theorem ds_drop (h : DE K W te de) : DS K W (tDrop te) (dDrop de) := fun M σ H env hh => by
  refine Sat.stm (c := fun v H1 D => D.nx σ H1) hh (h M σ H env hh) (fun D q => q) fun M1 H1 env1 x v g s hh1 r => ?_
  exact fun D k => k _ _ _ g hh1
def dRet (de : Ev → RE X) : Ev → RS := fun env => (de env).stm fun x e1 => .rt x e1
theorem ds_ret (h : DE K W te de) : DS K W (tRet te) (dRet de) := fun M σ H env hh => by
  refine Sat.stm (c := fun v H1 D => D.rt v H1) hh (h M σ H env hh) (fun D q => q) fun M1 H1 env1 x v g s hh1 r => ?_
  exact fun D k => k _ _ _ _ g hh1 r
def dIfS (dt : Ev → RE Bool) (a b : Ev → RS) : Ev → RS := fun env => (dt env).stm fun c e1 => if c = true then a e1 else b e1
theorem ds_if (ht : DT K W tt dt) (ha : DS K W ts ds) (hb : DS K W tu du) : DS K W (tIfS tt ts tu) (dIfS dt ds du) := fun M σ H env hh => by
  refine Sat.stm (c := fun c H1 D => if c = true then ts D σ H1 else tu D σ H1) hh (ht M σ H env hh) (fun D q => q) fun M1 H1 env1 x v g s hh1 r => ?_
  cases (show x = v from r)
  cases x with
  | true => exact SatS.later hh g (ha M1 σ H1 env1 hh1)
  | false => exact SatS.later hh g (hb M1 σ H1 env1 hh1)
def dNever : Ev → RS := fun _ => .bad
theorem ds_never : DS K W tNever dNever := fun M σ H env hh => trivial
/-- plain data into a target -/
def DG (K : Fg) [WD K] (g : TG) (dg : D → Ev → Option Ev) : Prop := ∀ (M : Hp) (σ : L2.St) (H : Hp) (env env' : Ev) (d : D) (v : V), Holds K M env σ H → Rep K M d v → dg d env = some env' → ∀ Q : L2.St → Hp → Prop, (∀ σ', Grow M env σ H M env' σ' H → Holds K M env' σ' H → Q σ' H) → g v σ H Q
def DGs (K : Fg) [WD K] (g : TGs) (dg : List D → Ev → Option Ev) : Prop := ∀ (M : Hp) (σ : L2.St) (H : Hp) (env env' : Ev) (ds : List D) (vs : List V), Holds K M env σ H → Reps K M ds vs → dg ds env = some env' → ∀ Q : L2.St → Hp → Prop, (∀ σ', Grow M env σ H M env' σ' H → Holds K M env' σ' H → Q σ' H) → g vs σ H Q
def dgName (i : Nat) : D → Ev → Option Ev := fun d env => setSl i (.im d) env
theorem dg_name (i : Nat) : DG K (gName i) (dgName i) := fun M σ H env env' d v hh r e Q k => by
  obtain ⟨g, h⟩ := setSl_grow hh .refl hh (rx_im r) e
  exact k _ g h
def dgNil : List D → Ev → Option Ev := fun ds env => match ds with
  | [] => some env
  | _ => none
def dgCons (a : D → Ev → Option Ev) (b : List D → Ev → Option Ev) : List D → Ev → Option Ev := fun ds env => match ds with
  | d :: r => (a d env).bind (b r)
  | _ => none
def dgTup (n : Nat) (a : List D → Ev → Option Ev) : D → Ev → Option Ev := fun d env => match d with
  | .tup xs => if xs.length = n then a xs env else none
  | .tupW xs => if xs.length = n then a xs env else none
  | _ => none
theorem dg_nil : DGs K gNil dgNil := fun M σ H env env' ds vs hh r e Q k => by
  cases ds with
  | cons d ds => cases e
  | nil =>
    cases e
    simp only [Reps] at r
    exact ⟨r, k σ .refl hh⟩
theorem dg_cons {g : TG} {gs : TGs} {a : D → Ev → Option Ev} {b : List D → Ev → Option Ev} (ha : DG K g a) (hb : DGs K gs b) : DGs K (gCons g gs) (dgCons a b) := fun M σ H env env' ds vs hh r e Q k => by
  cases ds with
  | nil => cases e
  | cons d ds =>
    simp only [Reps] at r
    obtain ⟨v, r', rfl, h1, h2⟩ := r
    obtain ⟨env1, e1, e2⟩ := Option.bind_eq_some_iff.mp (show (a d env).bind (b ds) = some env' from e)
    exact ⟨v, r', rfl, ha M σ H env env1 d v hh h1 e1 _ fun σ1 g1 hh1 => hb M σ1 H env1 env' ds r' hh1 h2 e2 _ fun σ2 g2 hh2 => k σ2 (g1.trans hh g2) hh2⟩
theorem dg_tup {gs : TGs} {a : List D → Ev → Option Ev} {n : Nat} (ha : DGs K gs a) : DG K (gTup K n gs) (dgTup n a) := fun M σ H env env' d v hh r e Q k => by
  cases d with
  | tup xs =>
    have e' : (if xs.length = n then a xs env else none) = some env' := e
    by_cases hn : xs.length = n
    · rw [if_pos hn] at e'
      simp only [Rep] at r
      obtain ⟨b, vs, rfl, h1, h2⟩ := r
      exact ⟨b, vs, rfl, sqT_mono hh.ex h1.t, by rw [← h2.length]; exact hn, ha M σ H env env' xs vs hh h2 e' Q k⟩
    · rw [if_neg hn] at e'
      cases e'
  | tupW xs =>
    have e' : (if xs.length = n then a xs env else none) = some env' := e
    by_cases hn : xs.length = n
    · rw [if_pos hn] at e'
      simp only [Rep] at r
      obtain ⟨b, vs, rfl, h1, h2⟩ := r
      exact ⟨b, vs, rfl, sqT_mono hh.ex h1, by rw [← h2.length]; exact hn, ha M σ H env env' xs vs hh h2 e' Q k⟩
    · rw [if_neg hn] at e'
      cases e'
  | _ => cases e
/-- a target of plain data -/
def dAsgG (dg : D → Ev → Option Ev) (de : Ev → RE X) : Ev → RS := fun env => (de env).stm fun x e1 => optS ((frz x).bind fun d => dg d e1)
theorem ds_asgG {g : TG} {dg : D → Ev → Option Ev} (hg : DG K g dg) (h : DE K W te de) : DS K W (tAsg te g) (dAsgG dg de) := fun M σ H env hh => by
  refine Sat.stm (c := fun v H1 D => g v σ H1 D.nx) hh (h M σ H env hh) (fun D q => q) fun M1 H1 env1 x v g1 s hh1 r => ?_
  cases e : (frz x).bind fun d => dg d env1 with
  | none => trivial
  | some env' =>
    obtain ⟨d, e1, e2⟩ := Option.bind_eq_some_iff.mp e
    have g2 := frzM_grow g1
    have hh2 := frzM_holds (H := H) hh1
    exact fun D k => hg _ σ H1 env1 env' d v hh2 (frz_rep r e1) e2 _ fun σ' g3 hh3 => k σ' _ H1 (g2.trans hh g3) hh3
end
end Dn
namespace Dn
open PySem PySem.Spec PyProof.Rows L2
/-- J walks xs while what stands at as stands; H0, M0: when it began -/
structure ItOk (K : Fg) [WD K] (J : It) (as : List Addr) (M0 H0 : Hp) (xs : List D) : Prop where
  go : ∀ M H i d, xs[i]? = some d → Same M0 M → Same M H → (∀ a ∈ as, ∀ o, H0 a = some o → H a = some o) → J.go i H ∧ ∀ v H', J.yld i H v H' → ∃ M', Ext M H M' H' ∧ Rep K M' d v
  stop : ∀ M H, Same M0 M → Same M H → (∀ a ∈ as, ∀ o, H0 a = some o → H a = some o) → J.stop xs.length H
/-- the items, and the slot that is not to be touched meanwhile -/
abbrev Its := List D × Option Nat
def hideE (h : Option Nat) (env : Ev) : Ev := match h with
  | none => env
  | some j => env.set j .hid
/-- ahead of a loop: its items, what of the slots the body may touch -/
def RI (K : Fg) [WD K] (σ : L2.St) : Hp → Hp → Hp → Ev → Its → It → Prop := fun _ M' H' env' xh J => ∃ as, (∀ a ∈ as, ¬ Own (hideE xh.2 env') σ a ∧ ∃ o, H' a = some o) ∧ ItOk K J as M' H' xh.1 ∧ ∀ j, xh.2 = some j → ∃ p o, env'[j]? = some (Sl.ow p o)
def DI (K : Fg) [WD K] (W : WS) (ti : TI) (di : Ev → RE Its) : Prop := ∀ (M : Hp) (σ : L2.St) (H : Hp) (env : Ev), Holds K M env σ H → Sat K W M σ H env (di env) (RI K σ) (ti σ H)
theorem back_i {K : Fg} [WD K] {σ : L2.St} : Back (RI K σ) := fun _ _ _ _ _ _ _ _ h => h
def forGo (dg : D → Ev → Option Ev) (db : Ev → RS) : List D → Ev → RS
  | [], env => .nx env
  | x :: xs, env => match dg x env with
    | none => .bad
    | some e1 => match db e1 with
      | .nx e2 => forGo dg db xs e2
      | .ct e2 => forGo dg db xs e2
      | .bk e2 => .nx e2
      | r => r
def RS.map (r : RS) (f : Ev → Ev) : RS := match r with
  | .nx e => .nx (f e)
  | .rt x e => .rt x (f e)
  | .bk e => .bk (f e)
  | .ct e => .ct (f e)
  | .exc x e => .exc x (f e)
  | .bad => .bad
def unhide (h : Option Nat) (e1 : Ev) (r : RS) : RS := match h with
  | none => r
  | some j => r.map fun e => e.set j (e1.getD j .no)
def dFor (di : Ev → RE Its) (dg : D → Ev → Option Ev) (db : Ev → RS) : Ev → RS := fun env => (di env).stm fun xh e1 => unhide xh.2 e1 (forGo dg db xh.1 (hideE xh.2 e1))
section
variable {K : Fg} [WD K] {W : WS} {M M' M1 M2 : Hp} {env env' env1 env2 : Ev} {σ σ' σ1 : L2.St} {H H' H1 H2 : Hp} {x y : X} {v u : V} {ta tb tc te : TE} {da db dc de : Ev → RE X} {ts tu : TS} {ds du : Ev → RS}
theorem hide_holds {j : Nat} (hh : Holds K M env σ H) : Holds K M (env.set j .hid) σ H where
  ex := hh.ex
  len := by simpa using hh.len
  slot := fun i s q => by
    by_cases hj : i = j
    · subst hj
      have hi : i < env.length := by
        have := (List.getElem?_eq_some_iff.mp q).1
        simpa using this
      rw [List.getElem?_set_self hi] at q
      cases q
      trivial
    · rw [List.getElem?_set_ne (Ne.symm hj)] at q
      exact hh.slot i s q
  dj := fun a b l p o p' o' hab q1 q2 q3 q4 => by
    have f : ∀ (a : Nat) (p : Bool) (o : OD), (env.set j Sl.hid)[a]? = some (Sl.ow p o) → env[a]? = some (Sl.ow p o) := fun a p o q => by
      by_cases hj : a = j
      · subst hj
        have hi : a < env.length := by
          have := (List.getElem?_eq_some_iff.mp q).1
          simpa using this
        rw [List.getElem?_set_self hi] at q
        cases q
      · rwa [List.getElem?_set_ne (Ne.symm hj)] at q
    exact hh.dj a b l p o p' o' hab (f a p o q1) (f b p' o' q2) q3 q4
theorem hide_own {j : Nat} {l : Addr} : Own (env.set j .hid) σ l → ∃ (i : Nat) (p : Bool) (o : OD), i ≠ j ∧ env[i]? = some (Sl.ow p o) ∧ σ[i]? = some (some (V.ref l)) := fun ⟨i, p, o, q1, q2⟩ => by
  by_cases hj : i = j
  · subst hj
    have hi : i < env.length := by
      have := (List.getElem?_eq_some_iff.mp q1).1
      simpa using this
    rw [List.getElem?_set_self hi] at q1
    cases q1
  · rw [List.getElem?_set_ne (Ne.symm hj)] at q1
    exact ⟨i, p, o, hj, q1, q2⟩
/-- the slot is let go again -/
theorem unhide_ok {j : Nat} {p : Bool} {o : OD} (hh : Holds K M env σ H) (e : env[j]? = some (Sl.ow p o)) (g : Grow M (env.set j .hid) σ H M' env' σ' H') (hh' : Holds K M' env' σ' H') :
    Grow M env σ H M' (env'.set j (.ow p o)) σ' H' ∧ Holds K M' (env'.set j (.ow p o)) σ' H' ∧ ∀ (x : X) (v : V), (∀ i, x = .sl i → i ≠ j) → RX K σ' H M' H' env' x v → RX K σ' H M' H' (env'.set j (.ow p o)) x v := by
  have hj : j < env.length := (List.getElem?_eq_some_iff.mp e).1
  have hj' : j < env'.length := by rw [g.len]; simpa using hj
  obtain ⟨l, el, a, m⟩ := hh.slot j _ e
  obtain ⟨es, s', e', k'⟩ := g.pin j .hid (List.getElem?_set_self hj) rfl
  have no : ¬ Own (env.set j .hid) σ l := fun z => by
    obtain ⟨i, p2, o2, hi, q1, q2⟩ := hide_own z
    exact hh.dj i j l p2 o2 p o hi q1 e q2 el
  obtain ⟨u, hu⟩ := a.there
  have no' : ¬ Own env' σ' l := fun z => by
    rcases g.own l z with q | q
    · exact no q
    · rw [hu] at q; cases q
  have a' : At K M' H' l o := a.mono g.exM fun u q => g.fr l u q no
  have m' : M' l = none := by
    cases q : M' l with
    | none => rfl
    | some u2 =>
      rcases g.new l u2 q with z | z | z
      · rw [m] at z; cases z
      · rw [hu] at z; cases z
      · exact (no z).elim
  have own2 : ∀ l2, Own (env'.set j (.ow p o)) σ' l2 → l2 = l ∨ Own env' σ' l2 := fun l2 ⟨i, p2, o2, q1, q2⟩ => by
    by_cases hi : i = j
    · subst hi
      rw [es, el] at q2
      cases q2
      exact .inl rfl
    · rw [List.getElem?_set_ne (Ne.symm hi)] at q1
      exact .inr ⟨i, p2, o2, q1, q2⟩
  refine ⟨⟨g.exM, fun l2 u2 q n => g.fr l2 u2 q fun z => n ?_, fun l2 u2 q => (g.new l2 u2 q).imp id (Or.imp id fun z => let ⟨i, p2, o2, _, q1, q2⟩ := hide_own z; ⟨i, p2, o2, q1, q2⟩), fun l2 z => ?_, fun i s q pn => ?_, g.dom, ?_⟩, ⟨hh'.ex, by simpa using hh'.len, fun i s q => ?_, fun i k l2 p1 o1 p2 o2 hik q1 q2 q3 q4 => ?_⟩, fun x v hx r => ?_⟩
  · obtain ⟨i, p2, o2, _, q1, q2⟩ := hide_own z
    exact ⟨i, p2, o2, q1, q2⟩
  · rcases own2 l2 z with rfl | z
    · exact .inl ⟨j, p, o, e, el⟩
    · rcases g.own l2 z with q | q
      · obtain ⟨i, p2, o2, _, q1, q2⟩ := hide_own q
        exact .inl ⟨i, p2, o2, q1, q2⟩
      · exact .inr q
  · by_cases hi : i = j
    · subst hi
      rw [e] at q
      cases q
      exact ⟨es, _, List.getElem?_set_self hj', rfl⟩
    · obtain ⟨e1, s1, e2, k1⟩ := g.pin i s (by rw [List.getElem?_set_ne (Ne.symm hi)]; exact q) pn
      exact ⟨e1, s1, by rw [List.getElem?_set_ne (Ne.symm hi)]; exact e2, k1⟩
  · rw [List.length_set, g.len, List.length_set]
  · by_cases hi : i = j
    · subst hi
      rw [List.getElem?_set_self hj'] at q
      cases q
      exact ⟨l, es.trans el, a', m'⟩
    · rw [List.getElem?_set_ne (Ne.symm hi)] at q
      exact hh'.slot i s q
  · by_cases hi : i = j
    · subst hi
      have q3' := q3
      rw [es, el] at q3'
      cases q3'
      rw [List.getElem?_set_ne hik] at q2
      exact no' ⟨k, p2, o2, q2, q4⟩
    · by_cases hk : k = j
      · subst hk
        have q4' := q4
        rw [es, el] at q4'
        cases q4'
        rw [List.getElem?_set_ne (Ne.symm hi)] at q1
        exact no' ⟨i, p1, o1, q1, q3⟩
      · rw [List.getElem?_set_ne (Ne.symm hi)] at q1
        rw [List.getElem?_set_ne (Ne.symm hk)] at q2
        exact hh'.dj i k l2 p1 o1 p2 o2 hik q1 q2 q3 q4
  · refine ⟨?_, r.2⟩
    obtain ⟨r, n⟩ := r
    cases x with
    | im d => exact r
    | sl i =>
      obtain ⟨⟨p2, o2, q⟩, q2⟩ := r
      exact ⟨⟨p2, o2, by rw [List.getElem?_set_ne (Ne.symm (hx i rfl))]; exact q⟩, q2⟩
    | ow o2 =>
      obtain ⟨l2, rfl, a2, m2, n2⟩ := r
      refine ⟨l2, rfl, a2, m2, fun z => ?_⟩
      rcases own2 l2 z with rfl | z
      · rw [n o2 rfl l2 rfl] at hu; cases hu
      · exact n2 z
/-- the loop itself -/
theorem for_go {J : It} {as : List Addr} {xs : List D} {g : TG} {dg : D → Ev → Option Ev} {db : Ev → RS} {tb : TS} (hg : DG K g dg) (hb : DS K W tb db) (hh : Holds K M env σ H) (hi : ItOk K J as M H xs) (hn : ∀ a ∈ as, ¬ Own env σ a ∧ ∃ o, H a = some o) :
    SatS K W M σ H env (forGo dg db xs env) (fun D => ∃ Wd : Nat → Nat → L2.St → Hp → Prop, (∃ m, Wd 0 m σ H) ∧ ∀ i m σ H, Wd i m σ H →
      (J.stop i H ∧ D.nx σ H) ∨ (J.go i H ∧ ∃ N : L2.St → Hp → Prop, (∀ σ' H', N σ' H' → ∃ m', m' < m ∧ Wd (i + 1) m' σ' H') ∧ ∀ x H', J.yld i H x H' → g x σ H' fun σ2 H2 => tb { D with nx := N, ct := N, bk := D.nx } σ2 H2)) := by
  -- whatever the end is, the turns bring it about
  have key : ∀ (fin : RS) (D : Ends), forGo dg db xs env = fin → fin ≠ .bad →
      (∀ e σ' M' H', fin = .nx e → Grow M env σ H M' e σ' H' → Holds K M' e σ' H' → D.nx σ' H') →
      (∀ x e v σ' M' H', fin = .rt x e → Grow M env σ H M' e σ' H' → Holds K M' e σ' H' → RX K σ' H M' H' e x v → D.rt v H') →
      (∀ x e cls d σ' M' H', fin = .exc x e → Grow M env σ H M' e σ' H' → Holds K M' e σ' H' → RepE K M' H' x cls d → W σ' cls d H') →
      ∃ Wd : Nat → Nat → L2.St → Hp → Prop, (∃ m, Wd 0 m σ H) ∧ ∀ i m σ H, Wd i m σ H →
      (J.stop i H ∧ D.nx σ H) ∨ (J.go i H ∧ ∃ N : L2.St → Hp → Prop, (∀ σ' H', N σ' H' → ∃ m', m' < m ∧ Wd (i + 1) m' σ' H') ∧ ∀ x H', J.yld i H x H' → g x σ H' fun σ2 H2 => tb { D with nx := N, ct := N, bk := D.nx } σ2 H2) := by
    intro fin D hf hnb kn kr ke
    refine ⟨fun i m σ' H' => m = xs.length - i ∧ i ≤ xs.length ∧ ∃ M' e, forGo dg db (xs.drop i) e = fin ∧ Grow M env σ H M' e σ' H' ∧ Holds K M' e σ' H', ⟨xs.length, by simp, Nat.zero_le _, M, env, hf, .refl, hh⟩, ?_⟩
    rintro i m σ1 H1 ⟨rfl, hi1, M1, e1, f1, g1, hh1⟩
    have src : ∀ a ∈ as, ∀ o, H a = some o → H1 a = some o := fun a ha o q => g1.fr a o q (hn a ha).1
    cases q : xs[i]? with
    | none =>
      have hl : i = xs.length := by
        have := List.getElem?_eq_none_iff.mp q
        omega
      subst hl
      rw [List.drop_length] at f1
      exact .inl ⟨hi.stop M1 H1 g1.exM hh1.ex src, kn e1 σ1 M1 H1 f1.symm g1 hh1⟩
    | some d =>
      obtain ⟨go, yl⟩ := hi.go M1 H1 i d q g1.exM hh1.ex src
      have hlt : i < xs.length := (List.getElem?_eq_some_iff.mp q).1
      have hd : xs.drop i = d :: xs.drop (i + 1) := by
        rw [List.drop_eq_getElem_cons hlt]
        rw [List.getElem?_eq_getElem hlt] at q
        cases q
        rfl
      rw [hd] at f1
      refine .inr ⟨go, fun σ' H' => ∃ M' e, forGo dg db (xs.drop (i + 1)) e = fin ∧ Grow M env σ H M' e σ' H' ∧ Holds K M' e σ' H', fun σ' H' h => ⟨xs.length - (i + 1), by omega, rfl, hlt, h⟩, fun w H2 hy => ?_⟩
      obtain ⟨M2, ex, rp⟩ := yl w H2 hy
      have g2 := g1.trans hh (ex.grow hh1)
      have hh2 := ex.holds hh1
      cases q1 : dg d e1 with
      | none =>
        exfalso
        apply hnb
        rw [← f1]
        show (match dg d e1 with | none => RS.bad | some e1 => _) = _
        rw [q1]
      | some e2 =>
        have f2 : (match db e2 with
          | .nx e2 => forGo dg db (xs.drop (i + 1)) e2
          | .ct e2 => forGo dg db (xs.drop (i + 1)) e2
          | .bk e2 => .nx e2
          | r => r) = fin := by
          rw [← f1]
          show _ = (match dg d e1 with | none => RS.bad | some e1 => _)
          rw [q1]
        refine hg M2 σ1 H2 e1 e2 d w hh2 rp q1 _ fun σ3 g3 hh3 => ?_
        have g4 := g2.trans hh g3
        have hb1 := hb M2 σ3 H2 e2 hh3
        cases q2 : db e2 with
        | bad =>
          rw [q2] at f2
          exact (hnb f2.symm).elim
        | nx e3 =>
          rw [q2] at f2 hb1
          exact hb1 _ fun σ' M' H' g5 hh5 => ⟨M', e3, f2, g4.trans hh g5, hh5⟩
        | ct e3 =>
          rw [q2] at f2 hb1
          exact hb1 _ fun σ' M' H' g5 hh5 => ⟨M', e3, f2, g4.trans hh g5, hh5⟩
        | bk e3 =>
          rw [q2] at f2 hb1
          exact hb1 _ fun σ' M' H' g5 hh5 => kn e3 σ' M' H' f2.symm (g4.trans hh g5) hh5
        | rt y e3 =>
          rw [q2] at f2 hb1
          exact hb1 _ fun v σ' M' H' g5 hh5 r => kr y e3 v σ' M' H' f2.symm (g4.trans hh g5) hh5 (back_x _ _ _ _ _ _ _ g4.dom r)
        | exc y e3 =>
          rw [q2] at f2 hb1
          exact hb1 _ fun cls dd σ' M' H' g5 hh5 r => ke y e3 cls dd σ' M' H' f2.symm (g4.trans hh g5) hh5 r
  cases hf : forGo dg db xs env with
  | bad => trivial
  | nx e => exact fun D k => key _ D hf (fun z => nomatch z) (fun e' σ' M' H' z g h => by cases z; exact k σ' M' H' g h) (fun _ _ _ _ _ _ z => nomatch z) (fun _ _ _ _ _ _ _ z => nomatch z)
  | rt x e => exact fun D k => key _ D hf (fun z => nomatch z) (fun _ _ _ _ z => nomatch z) (fun x' e' v σ' M' H' z g h r => by cases z; exact k v σ' M' H' g h r) (fun _ _ _ _ _ _ _ z => nomatch z)
  | exc x e => exact fun D k => key _ D hf (fun z => nomatch z) (fun _ _ _ _ z => nomatch z) (fun _ _ _ _ _ _ z => nomatch z) (fun x' e' c d σ' M' H' z g h r => by cases z; exact k c d σ' M' H' g h r)
  | bk e => exact fun D k => key _ D hf (fun z => nomatch z) (fun _ _ _ _ z => nomatch z) (fun _ _ _ _ _ _ z => nomatch z) (fun _ _ _ _ _ _ _ z => nomatch z)
  | ct e => exact fun D k => key _ D hf (fun z => nomatch z) (fun _ _ _ _ z => nomatch z) (fun _ _ _ _ _ _ z => nomatch z) (fun _ _ _ _ _ _ _ z => nomatch z)
theorem ds_for {wi : TI} {di : Ev → RE Its} {g : TG} {dg : D → Ev → Option Ev} {db : Ev → RS} {tb : TS} (hi : DI K W wi di) (hg : DG K g dg) (hb : DS K W tb db) : DS K W (tFor wi g tb) (dFor di dg db) := fun M σ H env hh => by
  refine Sat.stm (c := fun (J : It) H1 D => ∃ Wd : Nat → Nat → L2.St → Hp → Prop, (∃ m, Wd 0 m σ H1) ∧ ∀ i m σ H, Wd i m σ H →
      (J.stop i H ∧ D.nx σ H) ∨ (J.go i H ∧ ∃ N : L2.St → Hp → Prop, (∀ σ' H', N σ' H' → ∃ m', m' < m ∧ Wd (i + 1) m' σ' H') ∧ ∀ x H', J.yld i H x H' → g x σ H' fun σ2 H2 => tb { D with nx := N, ct := N, bk := D.nx } σ2 H2)) hh (hi M σ H env hh) (fun D q => q) fun M1 H1 env1 xh J g1 s1 hh1 r => ?_
  obtain ⟨xs, h⟩ := xh
  obtain ⟨as, hn, io, hs⟩ := r
  cases h with
  | none =>
    have h1 := for_go hg hb hh1 io hn
    exact SatS.later hh g1 h1
  | some j =>
    obtain ⟨p, o, e⟩ := hs j rfl
    have h1 := for_go hg hb (hide_holds (j := j) hh1) io hn
    have eg : env1.getD j .no = .ow p o := by rw [List.getD_eq_getElem?_getD, e]; rfl
    refine SatS.later hh g1 ?_
    show SatS K W M1 σ H1 env1 ((forGo dg db xs (env1.set j .hid)).map fun e => e.set j (env1.getD j .no)) _
    rw [eg]
    cases hf : forGo dg db xs (env1.set j .hid) with
    | bad => trivial
    | nx e' => rw [hf] at h1; exact fun D k => h1 D fun σ' M' H' g2 hh2 => (fun ⟨a, b, _⟩ => k σ' M' H' a b) (unhide_ok hh1 e g2 hh2)
    | bk e' => rw [hf] at h1; exact fun D k => h1 { D with bk := fun _ _ => True } fun σ' M' H' g2 hh2 => trivial
    | ct e' => rw [hf] at h1; exact fun D k => h1 { D with ct := fun _ _ => True } fun σ' M' H' g2 hh2 => trivial
    | exc x e' => rw [hf] at h1; exact fun D k => h1 D fun cls d σ' M' H' g2 hh2 r => (fun ⟨a, b, _⟩ => k cls d σ' M' H' a b r) (unhide_ok hh1 e g2 hh2)
    | rt x e' =>
      rw [hf] at h1
      refine fun D k => h1 D fun v σ' M' H' g2 hh2 r => (fun ⟨a, b, c⟩ => k v σ' M' H' a b (c x v (fun i hx z => ?_) r)) (unhide_ok hh1 e g2 hh2)
      subst hx z
      obtain ⟨⟨p2, o2, q⟩, _⟩ := r.1
      have hj : i < env1.length := (List.getElem?_eq_some_iff.mp e).1
      obtain ⟨_, s', e', k'⟩ := g2.pin i .hid (List.getElem?_set_self hj) rfl
      rw [q] at e'
      cases e'
      cases k'
end
end Dn
namespace Dn
open PySem PySem.Spec PyProof.Rows L2
def sv (vs : List V) : L2.St := vs.map some
/-- a def's promise: its parameters' contents, what it does to them -/
def Post (K : Fg) [WD K] (M : Hp) (ps : Ev) (vs : List V) (H : Hp) (Q : VK) (E : XK) : RE X → Prop
  | .ok x ps' => ∀ v M' H', Grow M ps (sv vs) H M' ps' (sv vs) H' → Shape ps ps' → Holds K M' ps' (sv vs) H' → RX K (sv vs) H M' H' ps' x v → Q v H'
  | .exc e ps' => ∀ cls d M' H', Grow M ps (sv vs) H M' ps' (sv vs) H' → Shape ps ps' → Holds K M' ps' (sv vs) H' → RepE K M' H' e cls d → E cls d H'
  | .bad => False
def spD (K : Fg) [WD K] (m : Ev → RE X) : Sp := fun vs H Q E => ∃ M ps, Holds K M ps (sv vs) H ∧ Post K M ps vs H Q E (m ps)
/-- parameters: plain data, objects lent -/
def Sl.par : Sl → Bool
  | .im _ => true
  | .ow p _ => p
  | _ => false
def backP (ps env : Ev) : Ev := List.zipWith (fun p e => match p with | .ow _ _ => e | _ => p) ps env
def retX (n : Nat) (env : Ev) : X → Option X
  | .im d => some (.im d)
  | .ow o => some (.ow o)
  | .sl i => if i < n then none else match env[i]? with
    | some (.ow _ o) => some (.ow o)
    | _ => none
/-- a def of N names, n of them parameters -/
def finR (n : Nat) (ps : Ev) : RS → RE X
  | .rt x env => opt (retX n env x) (backP ps env)
  | .nx env => .ok (.im .non) (backP ps env)
  | .exc e env => .exc e (backP ps env)
  | _ => .bad
def fnM (N n : Nat) (ds : Ev → RS) : Ev → RE X := fun ps => if ps.length = n ∧ n ≤ N ∧ ps.all Sl.par = true then finR n ps (ds (ps ++ List.replicate (N - n) .no)) else .bad
section
variable {K : Fg} [WD K] {W : WS} {M M' M1 M2 : Hp} {env env' env1 env2 ps : Ev} {σ σ' σ1 : L2.St} {H H' H1 H2 : Hp} {x y : X} {v u : V} {vs : List V}
theorem backP_get {ps env : Ev} {i : Nat} (h : ps.length ≤ env.length) : (backP ps env)[i]? = match ps[i]? with
    | some (.ow _ _) => env[i]?
    | r => r := by
  unfold backP
  rw [List.getElem?_zipWith]
  cases e : ps[i]? with
  | none => rfl
  | some p =>
    have hi : i < ps.length := (List.getElem?_eq_some_iff.mp e).1
    have hi' : i < env.length := by omega
    rw [List.getElem?_eq_getElem hi']
    cases p <;> rfl
theorem body_start {N n : Nat} (hh : Holds K M ps (sv vs) H) (hl : ps.length = n) : Holds K M (ps ++ List.replicate (N - n) .no) (sv vs ++ List.replicate (N - vs.length) none) H := by
  have hv : vs.length = n := by
    have := hh.len
    unfold sv at this
    rw [List.length_map] at this
    omega
  have hlv : (sv vs).length = n := by unfold sv; rw [List.length_map]; exact hv
  refine ⟨hh.ex, by simp [hlv, hl, hv], fun i s q => ?_, fun i j l p o p' o' hij q1 q2 q3 q4 => ?_⟩
  · by_cases hi : i < n
    · rw [List.getElem?_append_left (by omega)] at q ⊢
      exact hh.slot i s q
    · rw [List.getElem?_append_right (by omega)] at q
      have : s = .no := by
        have := List.mem_of_getElem? q
        exact (List.mem_replicate.mp this).2
      subst this
      trivial
  · have f : ∀ (i : Nat) (p : Bool) (o : OD), (ps ++ List.replicate (N - n) Sl.no)[i]? = some (Sl.ow p o) → i < n ∧ ps[i]? = some (Sl.ow p o) := fun i p o q => by
      by_cases hi : i < n
      · rw [List.getElem?_append_left (by omega)] at q
        exact ⟨hi, q⟩
      · rw [List.getElem?_append_right (by omega)] at q
        have := List.mem_of_getElem? q
        cases (List.mem_replicate.mp this).2
    obtain ⟨h1, e1⟩ := f i p o q1
    obtain ⟨h2, e2⟩ := f j p' o' q2
    rw [List.getElem?_append_left (by omega)] at q3 q4
    exact hh.dj i j l p o p' o' hij e1 e2 q3 q4
theorem body_end {N n : Nat} (hh : Holds K M ps (sv vs) H) (hl : ps.length = n) (hN : n ≤ N) (hp : ps.all Sl.par = true) (g : Grow M (ps ++ List.replicate (N - n) .no) (sv vs ++ List.replicate (N - vs.length) none) H M' env' σ' H') (hh' : Holds K M' env' σ' H') :
    Grow M ps (sv vs) H M' (backP ps env') (sv vs) H' ∧ Shape ps (backP ps env') ∧ Holds K M' (backP ps env') (sv vs) H' ∧ ∀ x v y, RX K σ' H M' H' env' x v → retX n env' x = some y → RX K (sv vs) H M' H' (backP ps env') y v := by
  have hv : vs.length = n := by
    have := hh.len
    unfold sv at this
    rw [List.length_map] at this
    omega
  have hlv : (sv vs).length = n := by unfold sv; rw [List.length_map]; exact hv
  have hle : env'.length = N := by rw [g.len]; simp [hl]; omega
  have hlp : ps.length ≤ env'.length := by omega
  have hl2 : (backP ps env').length = ps.length := by unfold backP; rw [List.length_zipWith]; omega
  have par : ∀ (i : Nat) (s : Sl), ps[i]? = some s → s.par = true := fun i s q => List.all_eq_true.mp hp s (List.mem_of_getElem? q)
  -- a lent object's slot
  have lent : ∀ (i : Nat) (p : Bool) (o : OD), ps[i]? = some (Sl.ow p o) → ∃ o', env'[i]? = some (Sl.ow p o') ∧ σ'[i]? = (sv vs)[i]? := fun i p o q => by
    have hi : i < n := by rw [← hl]; exact (List.getElem?_eq_some_iff.mp q).1
    have hp' : p = true := par i _ q
    subst hp'
    obtain ⟨e1, s', e2, k⟩ := g.pin i (.ow true o) (by rw [List.getElem?_append_left (by omega)]; exact q) rfl
    rw [List.getElem?_append_left (by omega)] at e1
    cases s' with
    | ow p' o' =>
      simp only [Sl.kind, Sl.ow.injEq, and_true] at k
      subst k
      exact ⟨o', e2, e1⟩
    | no => cases k
    | im d => cases k
    | hid => cases k
  have bk : ∀ (i : Nat) (p : Bool) (o : OD), (backP ps env')[i]? = some (Sl.ow p o) → ∃ o0, ps[i]? = some (Sl.ow p o0) ∧ env'[i]? = some (Sl.ow p o) ∧ σ'[i]? = (sv vs)[i]? := fun i p o q => by
    rw [backP_get hlp] at q
    cases e : ps[i]? with
    | none => rw [e] at q; cases q
    | some s =>
      rw [e] at q
      cases s with
      | no => cases q
      | im d => cases q
      | hid => cases q
      | ow p0 o0 =>
        obtain ⟨o', e1, e2⟩ := lent i p0 o0 e
        have q' : env'[i]? = some (Sl.ow p o) := q
        rw [e1] at q'
        cases q'
        exact ⟨o0, rfl, e1, e2⟩
  have own0 : ∀ l, Own (ps ++ List.replicate (N - n) Sl.no) (sv vs ++ List.replicate (N - vs.length) none) l → Own ps (sv vs) l := fun l ⟨i, p, o, q1, q2⟩ => by
    by_cases hi : i < n
    · rw [List.getElem?_append_left (by omega)] at q1 q2
      exact ⟨i, p, o, q1, q2⟩
    · rw [List.getElem?_append_right (by omega)] at q1
      have := List.mem_of_getElem? q1
      cases (List.mem_replicate.mp this).2
  have ownB : ∀ l, Own (backP ps env') (sv vs) l → Own env' σ' l := fun l ⟨i, p, o, q1, q2⟩ => by
    obtain ⟨o0, e0, e1, e2⟩ := bk i p o q1
    exact ⟨i, p, o, e1, e2.trans q2⟩
  refine ⟨⟨g.exM, fun l o q nn => g.fr l o q fun z => nn (own0 l z), fun l o q => (g.new l o q).imp id (Or.imp id (own0 l)), fun l ⟨i, p, o, q1, q2⟩ => ?_, fun i s q pn => ?_, g.dom, hl2⟩, ?_, ⟨hh'.ex, by rw [hlv, hl2, hl], fun i s q => ?_, fun i j l p o p' o' hij q1 q2 q3 q4 => ?_⟩, fun x v y r e => ?_⟩
  · obtain ⟨o0, e0, _⟩ := bk i p o q1
    exact .inl ⟨i, p, o0, e0, q2⟩
  · refine ⟨rfl, ?_⟩
    cases s with
    | ow p o =>
      obtain ⟨o', e1, e2⟩ := lent i p o q
      exact ⟨.ow p o', by rw [backP_get hlp, q]; exact e1, rfl⟩
    | no => cases pn
    | im d => cases pn
    | hid => exact nomatch (par i _ q)
  · show (backP ps env').map Sl.kind = ps.map Sl.kind
    apply List.ext_getElem?
    intro i
    rw [List.getElem?_map, List.getElem?_map, backP_get hlp]
    cases e : ps[i]? with
    | none => rfl
    | some s =>
      cases s with
      | ow p o =>
        obtain ⟨o', e1, _⟩ := lent i p o e
        show env'[i]?.map Sl.kind = _
        rw [e1]
        rfl
      | _ => rfl
  · rw [backP_get hlp] at q
    cases e : ps[i]? with
    | none => rw [e] at q; cases q
    | some s0 =>
      rw [e] at q
      cases s0 with
      | no => cases q; trivial
      | hid => cases q; trivial
      | im d =>
        cases q
        obtain ⟨u, e1, e2⟩ := hh.slot i _ e
        exact ⟨u, e1, Rep.mono g.exM _ _ e2⟩
      | ow p0 o0 =>
        obtain ⟨o', e1, e2⟩ := lent i p0 o0 e
        have q' : env'[i]? = some s := q
        have := hh'.slot i s q'
        rw [e2] at this
        exact this
  · obtain ⟨_, _, e1, e2⟩ := bk i p o q1
    obtain ⟨_, _, e3, e4⟩ := bk j p' o' q2
    exact hh'.dj i j l p o p' o' hij e1 e3 (e2.trans q3) (e4.trans q4)
  · obtain ⟨r, nx⟩ := r
    cases x with
    | im d =>
      cases e
      exact ⟨r, fun _ z => nomatch z⟩
    | ow o =>
      cases e
      obtain ⟨l, rfl, a, m, no⟩ := r
      exact ⟨⟨l, rfl, a, m, fun z => no (ownB l z)⟩, nx⟩
    | sl i =>
      have e' : (if i < n then none else match env'[i]? with
        | some (.ow _ o) => some (X.ow o)
        | _ => none) = some y := e
      by_cases hi : i < n
      · rw [if_pos hi] at e'; cases e'
      · rw [if_neg hi] at e'
        obtain ⟨⟨p, o, q1⟩, q2⟩ := r
        rw [q1] at e'
        cases e'
        obtain ⟨l, q3, a, m⟩ := hh'.slot i _ q1
        rw [q2] at q3
        cases q3
        have no : ¬ Own (backP ps env') (sv vs) l := fun ⟨j, p2, o2, t1, t2⟩ => by
          obtain ⟨o0, e0, e1, e2⟩ := bk j p2 o2 t1
          have hj : j < n := by rw [← hl]; exact (List.getElem?_eq_some_iff.mp e0).1
          exact hh'.dj j i l p2 o2 p o (by omega) e1 q1 (e2.trans t2) q2
        refine ⟨⟨l, rfl, a, m, no⟩, fun o2 z l2 e2 => ?_⟩
        cases e2
        rcases g.own l ⟨i, p, o, q1, q2⟩ with z | z
        · obtain ⟨j, p2, o2, t1, t2⟩ := own0 l z
          obtain ⟨o', e1, e2⟩ := lent j p2 o2 t1
          have hj : j < n := by rw [← hl]; exact (List.getElem?_eq_some_iff.mp t1).1
          exact (hh'.dj j i l p2 o' p o (by omega) e1 q1 (e2.trans t2) q2).elim
        · exact z
/-- a body's denotation is what the def does -/
theorem fn_body {N : List Str} {n : Nat} {t : TS} {ds : Ev → RS} {Q : VK} {E : XK} (hd : DS K (fun _ => E) t ds) (hs : spD K (fnM N.length n ds) vs H Q E) : t { nx := fun _ H' => Q .non H', rt := Q } (start N vs) H := by
  obtain ⟨M, ps, hh, h⟩ := hs
  unfold fnM at h
  by_cases hc : ps.length = n ∧ n ≤ N.length ∧ ps.all Sl.par = true
  · rw [if_pos hc] at h
    obtain ⟨hl, hN, hp⟩ := hc
    have hh0 := body_start (N := N.length) hh hl
    have h1 := hd M _ H _ hh0
    show t _ (sv vs ++ List.replicate (N.length - vs.length) none) H
    cases e : ds (ps ++ List.replicate (N.length - n) .no) with
    | bad => rw [e] at h; exact h.elim
    | bk _ => rw [e] at h; exact h.elim
    | ct _ => rw [e] at h; exact h.elim
    | nx env' =>
      rw [e] at h h1
      refine h1 _ fun σ' M' H' g hh' => ?_
      obtain ⟨a, b, c, d⟩ := body_end hh hl hN hp g hh'
      exact h .non M' H' a b c (rx_im rep_non)
    | exc x env' =>
      rw [e] at h h1
      refine h1 _ fun cls dd σ' M' H' g hh' r => ?_
      obtain ⟨a, b, c, d⟩ := body_end hh hl hN hp g hh'
      exact h cls dd M' H' a b c r
    | rt x env' =>
      rw [e] at h h1
      have h2 : Post K M ps vs H Q E (opt (retX n env' x) (backP ps env')) := h
      cases e2 : retX n env' x with
      | none => rw [e2] at h2; exact h2.elim
      | some y =>
        rw [e2] at h2
        have h := h2
        refine h1 _ fun v σ' M' H' g hh' r => ?_
        obtain ⟨a, b, c, d⟩ := body_end hh hl hN hp g hh'
        exact h v M' H' a b c (d x v y r e2)
  · rw [if_neg hc] at h
    exact h.elim
theorem spD_len {n N : Nat} {ds : Ev → RS} {Q : VK} {E : XK} (hs : spD K (fnM N n ds) vs H Q E) : vs.length = n := by
  obtain ⟨M, ps, hh, h⟩ := hs
  unfold fnM at h
  by_cases hc : ps.length = n ∧ n ≤ N ∧ ps.all Sl.par = true
  · have := hh.len
    unfold sv at this
    rw [List.length_map] at this
    omega
  · rw [if_neg hc] at h
    exact h.elim
end
/-- what is handed to a parameter -/
def passX (env : Ev) : X → Option Sl
  | .im d => some (.im d)
  | .ow o => some (.ow true o)
  | .sl i => match env[i]? with
    | some (.ow _ o) => some (.ow true o)
    | _ => none
def passXs (env : Ev) : List X → Option Ev
  | [] => some []
  | x :: xs => (passX env x).bind fun s => (passXs env xs).bind fun ss => some (s :: ss)
def slots : List X → List Nat
  | [] => []
  | .sl i :: xs => i :: slots xs
  | _ :: xs => slots xs
def temps : List X → Nat
  | [] => 0
  | .ow _ :: xs => temps xs + 1
  | _ :: xs => temps xs
def wr (i : Nat) (o : OD) (env : Ev) : Ev := match env[i]? with
  | some (.ow p _) => env.set i (.ow p o)
  | _ => env
def wb : List X → Ev → Ev → Ev
  | .sl i :: xs, .ow _ o :: ps, env => wb xs ps (wr i o env)
  | _ :: xs, _ :: ps, env => wb xs ps env
  | _, _, env => env
def dCall (m : Ev → RE X) (da : Ev → RE (List X)) : Ev → RE X := fun env => (da env).bind fun xs e1 => match passXs e1 xs with
  | none => .bad
  | some ps => if (slots xs).Nodup ∧ temps xs ≤ 1 then match m ps with
      | .ok y ps' => .ok y (wb xs ps' e1)
      | .exc e ps' => .exc e (wb xs ps' e1)
      | .bad => .bad
    else .bad
section
variable {K : Fg} [WD K] {W : WS} {M M' M1 M2 : Hp} {env env' env1 env2 ps : Ev} {σ σ' σ1 : L2.St} {H H' H1 H2 : Hp} {x y : X} {v u : V} {vs : List V}
theorem wr_other {i j : Nat} {o : OD} (h : j ≠ i) : (wr i o env)[j]? = env[j]? := by
  unfold wr
  split
  · exact List.getElem?_set_ne (Ne.symm h)
  · rfl
theorem wr_self {i : Nat} {p : Bool} {o o0 : OD} (h : env[i]? = some (Sl.ow p o0)) : (wr i o env)[i]? = some (Sl.ow p o) := by
  unfold wr
  rw [h]
  exact List.getElem?_set_self (List.getElem?_eq_some_iff.mp h).1
theorem wr_len {i : Nat} {o : OD} : (wr i o env).length = env.length := by
  unfold wr
  split <;> simp
theorem wb_len : ∀ (xs : List X) (ps env : Ev), (wb xs ps env).length = env.length
  | [], _, env => by unfold wb; rfl
  | .sl i :: xs, [], env => by unfold wb; rfl
  | .im i :: xs, [], env => by unfold wb; rfl
  | .ow i :: xs, [], env => by unfold wb; rfl
  | .sl i :: xs, .ow p o :: ps, env => by unfold wb; rw [wb_len xs ps, wr_len]
  | .sl i :: xs, .no :: ps, env => by unfold wb; rw [wb_len xs ps]
  | .sl i :: xs, .im _ :: ps, env => by unfold wb; rw [wb_len xs ps]
  | .sl i :: xs, .hid :: ps, env => by unfold wb; rw [wb_len xs ps]
  | .im _ :: xs, _ :: ps, env => by unfold wb; rw [wb_len xs ps]
  | .ow _ :: xs, _ :: ps, env => by unfold wb; rw [wb_len xs ps]
theorem wb_out {i : Nat} : ∀ (xs : List X) (ps env : Ev), i ∉ slots xs → (wb xs ps env)[i]? = env[i]?
  | [], _, env, _ => by unfold wb; rfl
  | .sl i :: xs, [], env, _ => by unfold wb; rfl
  | .im i :: xs, [], env, _ => by unfold wb; rfl
  | .ow i :: xs, [], env, _ => by unfold wb; rfl
  | .sl j :: xs, .ow p o :: ps, env, h => by
    have h1 : i ≠ j ∧ i ∉ slots xs := by simpa [slots] using h
    unfold wb; rw [wb_out xs ps _ h1.2, wr_other h1.1]
  | .sl j :: xs, .no :: ps, env, h => by
    have h1 : i ≠ j ∧ i ∉ slots xs := by simpa [slots] using h
    unfold wb; rw [wb_out xs ps _ h1.2]
  | .sl j :: xs, .im _ :: ps, env, h => by
    have h1 : i ≠ j ∧ i ∉ slots xs := by simpa [slots] using h
    unfold wb; rw [wb_out xs ps _ h1.2]
  | .sl j :: xs, .hid :: ps, env, h => by
    have h1 : i ≠ j ∧ i ∉ slots xs := by simpa [slots] using h
    unfold wb; rw [wb_out xs ps _ h1.2]
  | .im _ :: xs, _ :: ps, env, h => by unfold wb; rw [wb_out xs ps _ (by simpa [slots] using h)]
  | .ow _ :: xs, _ :: ps, env, h => by unfold wb; rw [wb_out xs ps _ (by simpa [slots] using h)]
theorem slots_mem : ∀ {xs : List X} {k i : Nat}, xs[k]? = some (.sl i) → i ∈ slots xs
  | [], k, i, h => by simp at h
  | x :: xs, 0, i, h => by
    simp at h
    subst h
    simp [slots]
  | x :: xs, k + 1, i, h => by
    have := slots_mem (xs := xs) (k := k) (i := i) (by simpa using h)
    cases x <;> simp [slots, this]
theorem wb_in {i : Nat} {p b : Bool} {o o0 : OD} : ∀ (xs : List X) (ps env : Ev) (k : Nat), (slots xs).Nodup → xs[k]? = some (.sl i) → ps[k]? = some (Sl.ow b o) → env[i]? = some (Sl.ow p o0) → (wb xs ps env)[i]? = some (Sl.ow p o)
  | [], _, _, _, _, h, _, _ => by simp at h
  | x :: xs, [], _, k, _, _, h, _ => by simp at h
  | .sl j :: xs, .ow q1 o1 :: ps, env, 0, nd, h, h2, h3 => by
    simp at h h2
    obtain ⟨rfl, rfl⟩ := h2
    subst h
    have h1 : j ∉ slots xs ∧ (slots xs).Nodup := by simpa [slots] using nd
    unfold wb
    rw [wb_out xs ps _ h1.1, wr_self h3]
  | .sl j :: xs, .ow q1 o1 :: ps, env, k + 1, nd, h, h2, h3 => by
    have h1 : j ∉ slots xs ∧ (slots xs).Nodup := by simpa [slots] using nd
    have hk : xs[k]? = some (.sl i) := by simpa using h
    have hij : i ≠ j := fun z => h1.1 (z ▸ slots_mem hk)
    unfold wb
    exact wb_in xs ps _ k h1.2 hk (by simpa using h2) (by rw [wr_other hij]; exact h3)
  | .sl j :: xs, .no :: ps, env, 0, nd, h, h2, h3 => by simp at h2
  | .sl j :: xs, .im _ :: ps, env, 0, nd, h, h2, h3 => by simp at h2
  | .sl j :: xs, .hid :: ps, env, 0, nd, h, h2, h3 => by simp at h2
  | .sl j :: xs, .no :: ps, env, k + 1, nd, h, h2, h3 => by
    have h1 : j ∉ slots xs ∧ (slots xs).Nodup := by simpa [slots] using nd
    unfold wb
    exact wb_in xs ps _ k h1.2 (by simpa using h) (by simpa using h2) h3
  | .sl j :: xs, .im _ :: ps, env, k + 1, nd, h, h2, h3 => by
    have h1 : j ∉ slots xs ∧ (slots xs).Nodup := by simpa [slots] using nd
    unfold wb
    exact wb_in xs ps _ k h1.2 (by simpa using h) (by simpa using h2) h3
  | .sl j :: xs, .hid :: ps, env, k + 1, nd, h, h2, h3 => by
    have h1 : j ∉ slots xs ∧ (slots xs).Nodup := by simpa [slots] using nd
    unfold wb
    exact wb_in xs ps _ k h1.2 (by simpa using h) (by simpa using h2) h3
  | .im _ :: xs, s :: ps, env, 0, nd, h, h2, h3 => by simp at h
  | .ow _ :: xs, s :: ps, env, 0, nd, h, h2, h3 => by simp at h
  | .im _ :: xs, s :: ps, env, k + 1, nd, h, h2, h3 => by
    unfold wb
    exact wb_in xs ps _ k (by simpa [slots] using nd) (by simpa using h) (by simpa using h2) h3
  | .ow _ :: xs, s :: ps, env, k + 1, nd, h, h2, h3 => by
    unfold wb
    exact wb_in xs ps _ k (by simpa [slots] using nd) (by simpa using h) (by simpa using h2) h3
theorem slots_at : ∀ {xs : List X} {i : Nat}, i ∈ slots xs → ∃ k : Nat, xs[k]? = some (X.sl i)
  | [], i, h => by simp [slots] at h
  | .sl j :: xs, i, h => by
    simp only [slots, List.mem_cons] at h
    rcases h with rfl | h
    · exact ⟨0, rfl⟩
    · obtain ⟨k, e⟩ := slots_at h
      exact ⟨k + 1, by simpa using e⟩
  | .im _ :: xs, i, h => by
    obtain ⟨k, e⟩ := slots_at (xs := xs) (by simpa [slots] using h)
    exact ⟨k + 1, by simpa using e⟩
  | .ow _ :: xs, i, h => by
    obtain ⟨k, e⟩ := slots_at (xs := xs) (by simpa [slots] using h)
    exact ⟨k + 1, by simpa using e⟩
theorem slots_inj : ∀ {xs : List X} {i k k' : Nat}, (slots xs).Nodup → xs[k]? = some (.sl i) → xs[k']? = some (.sl i) → k = k'
  | [], i, k, k', _, h, _ => by simp at h
  | x :: xs, i, 0, 0, _, _, _ => rfl
  | x :: xs, i, 0, k' + 1, nd, h, h' => by
    simp at h
    subst h
    have h1 : i ∉ slots xs := by
      have : i ∉ slots xs ∧ (slots xs).Nodup := by simpa [slots] using nd
      exact this.1
    exact (h1 (slots_mem (by simpa using h'))).elim
  | x :: xs, i, k + 1, 0, nd, h, h' => by
    simp at h'
    subst h'
    have h1 : i ∉ slots xs := by
      have : i ∉ slots xs ∧ (slots xs).Nodup := by simpa [slots] using nd
      exact this.1
    exact (h1 (slots_mem (by simpa using h))).elim
  | x :: xs, i, k + 1, k' + 1, nd, h, h' => by
    have nd' : (slots xs).Nodup := by
      cases x with
      | sl j => exact (by simpa [slots] using nd : j ∉ slots xs ∧ (slots xs).Nodup).2
      | im _ => simpa [slots] using nd
      | ow _ => simpa [slots] using nd
    exact congrArg (· + 1) (slots_inj nd' (show xs[k]? = some (X.sl i) by simpa using h) (show xs[k']? = some (X.sl i) by simpa using h'))
theorem passXs_get : ∀ {xs : List X} {ps : Ev} {k : Nat}, passXs env xs = some ps → (∀ s, ps[k]? = some s → ∃ x, xs[k]? = some x ∧ passX env x = some s) ∧ (∀ x, xs[k]? = some x → ∃ s, ps[k]? = some s ∧ passX env x = some s) ∧ ps.length = xs.length
  | [], ps, k, e => by
    simp only [passXs] at e
    cases e
    exact ⟨fun s h => by simp at h, fun x h => by simp at h, rfl⟩
  | x :: xs, ps, k, e => by
    simp only [passXs] at e
    obtain ⟨s, e1, e⟩ := Option.bind_eq_some_iff.mp e
    obtain ⟨ss, e2, e⟩ := Option.bind_eq_some_iff.mp e
    cases e
    cases k with
    | zero =>
      have := (passXs_get (k := 0) e2).2.2
      exact ⟨fun t h => ⟨x, rfl, by simp at h; rw [← h]; exact e1⟩, fun t h => ⟨s, rfl, by simp at h; rw [← h]; exact e1⟩, by simp [this]⟩
    | succ k =>
      obtain ⟨a, b, c⟩ := passXs_get (k := k) e2
      exact ⟨fun t h => by simpa using a t (by simpa using h), fun t h => by simpa using b t (by simpa using h), by simp [c]⟩
theorem ra_get {H0 : Hp} : ∀ {xs : List X} {vs : List V} {k : Nat} {x : X}, RA K σ H0 M H env xs vs → xs[k]? = some x → ∃ v, vs[k]? = some v ∧ RX K σ H0 M H env x v
  | [], _, k, x, _, h => by simp at h
  | y :: xs, _, 0, x, .cons r rs, h => by
    simp at h
    subst h
    exact ⟨_, rfl, r⟩
  | y :: xs, _, k + 1, x, .cons r rs, h => by
    obtain ⟨v, e, r'⟩ := ra_get (k := k) (show RA K σ H0 M H env xs _ from rs) (by simpa using h)
    exact ⟨v, by simpa using e, r'⟩
theorem ra_len {H0 : Hp} {xs : List X} {vs : List V} (r : RA K σ H0 M H env xs vs) : xs.length = vs.length := Paired.length r
theorem temps_pos : ∀ {xs : List X} {k : Nat} {o : OD}, xs[k]? = some (.ow o) → 1 ≤ temps xs
  | [], k, o, h => by simp at h
  | x :: xs, 0, o, h => by
    simp at h
    subst h
    simp [temps]
  | x :: xs, k + 1, o, h => by
    have := temps_pos (xs := xs) (k := k) (o := o) (by simpa using h)
    cases x <;> simp [temps] <;> omega
theorem temps_one : ∀ {xs : List X} {k k' : Nat} {o o' : OD}, temps xs ≤ 1 → xs[k]? = some (.ow o) → xs[k']? = some (.ow o') → k = k'
  | [], k, k', o, o', _, h, _ => by simp at h
  | x :: xs, 0, 0, _, _, _, _, _ => rfl
  | x :: xs, 0, k' + 1, o, o', ht, h, h' => by
    simp at h
    subst h
    have := temps_pos (xs := xs) (k := k') (o := o') (by simpa using h')
    simp [temps] at ht
    omega
  | x :: xs, k + 1, 0, o, o', ht, h, h' => by
    simp at h'
    subst h'
    have := temps_pos (xs := xs) (k := k) (o := o) (by simpa using h)
    simp [temps] at ht
    omega
  | x :: xs, k + 1, k' + 1, o, o', ht, h, h' => by
    have ht' : temps xs ≤ 1 := by cases x <;> simp [temps] at ht <;> omega
    exact congrArg (· + 1) (temps_one ht' (show xs[k]? = some (X.ow o) by simpa using h) (show xs[k']? = some (X.ow o') by simpa using h'))
/-- an argument that is an object: the caller's, or new -/
theorem arg_ow {H0 : Hp} (hh : Holds K M1 env1 σ H1) {xs : List X} (r : RA K σ H0 M1 H1 env1 xs vs) (e : passXs env1 xs = some ps) {k : Nat} {p : Bool} {o : OD} {l : Addr} (q : ps[k]? = some (Sl.ow p o)) (q' : (sv vs)[k]? = some (some (V.ref l))) :
    p = true ∧ At K M1 H1 l o ∧ M1 l = none ∧ ((∃ i p0, xs[k]? = some (.sl i) ∧ env1[i]? = some (Sl.ow p0 o) ∧ σ[i]? = some (some (V.ref l))) ∨ (xs[k]? = some (.ow o) ∧ H0 l = none ∧ ¬ Own env1 σ l)) := by
  obtain ⟨x, e1, e2⟩ := (passXs_get (k := k) e).1 _ q
  obtain ⟨v, e3, r1⟩ := ra_get r e1
  have ev : v = V.ref l := by
    unfold sv at q'
    rw [List.getElem?_map, e3] at q'
    exact Option.some.inj (Option.some.inj q')
  subst ev
  cases x with
  | im d => cases e2
  | ow o0 =>
    cases e2
    obtain ⟨l2, el, a, m, no⟩ := r1.1
    cases el
    exact ⟨rfl, a, m, .inr ⟨e1, r1.2 o rfl l rfl, no⟩⟩
  | sl i =>
    obtain ⟨⟨p0, o0, t1⟩, t2⟩ := r1.1
    have e2' : (match env1[i]? with
      | some (.ow _ o) => some (Sl.ow true o)
      | _ => none) = some (Sl.ow p o) := e2
    rw [t1] at e2'
    cases e2'
    obtain ⟨l3, q3, a, m⟩ := hh.slot i _ t1
    rw [t2] at q3
    cases q3
    exact ⟨rfl, a, m, .inl ⟨i, p0, e1, t1, t2⟩⟩
/-- the callee's state -/
theorem call_in (hh0 : Holds K M env σ H) (g : Grow M env σ H M1 env1 σ H1) (hh : Holds K M1 env1 σ H1) {xs : List X} (r : RA K σ H M1 H1 env1 xs vs) (e : passXs env1 xs = some ps) (nd : (slots xs).Nodup) (nt : temps xs ≤ 1) :
    Holds K M1 ps (sv vs) H1 := by
  have hl := (passXs_get (k := 0) e).2.2
  refine ⟨hh.ex, by unfold sv; rw [List.length_map, ← ra_len r, hl], fun k s q => ?_, fun k k' l p o p' o' hk q1 q2 q3 q4 => ?_⟩
  · obtain ⟨x, e1, e2⟩ := (passXs_get (k := k) e).1 s q
    obtain ⟨v, e3, r1⟩ := ra_get r e1
    have ev : (sv vs)[k]? = some (some v) := by unfold sv; rw [List.getElem?_map, e3]; rfl
    cases x with
    | im d =>
      cases e2
      rw [ev]
      exact ⟨v, rfl, r1.1⟩
    | ow o =>
      cases e2
      obtain ⟨l, rfl, _⟩ := r1.1
      obtain ⟨_, a, m, _⟩ := arg_ow hh r e q ev
      rw [ev]
      exact ⟨l, rfl, a, m⟩
    | sl i =>
      obtain ⟨⟨p, o, q1⟩, q2⟩ := r1.1
      have e2' : (match env1[i]? with
        | some (.ow _ o) => some (Sl.ow true o)
        | _ => none) = some s := e2
      rw [q1] at e2'
      cases e2'
      obtain ⟨l, q3, a, m⟩ := hh.slot i _ q1
      rw [q2] at q3
      cases q3
      rw [ev]
      exact ⟨l, rfl, a, m⟩
  · obtain ⟨_, _, _, h1⟩ := arg_ow hh r e q1 q3
    obtain ⟨_, _, _, h2⟩ := arg_ow hh r e q2 q4
    rcases h1 with ⟨i, p0, a1, a2, a3⟩ | ⟨a1, a2, a3⟩ <;> rcases h2 with ⟨j, p1, b1, b2, b3⟩ | ⟨b1, b2, b3⟩
    · have hij : i ≠ j := fun z => hk (slots_inj nd a1 (z ▸ b1))
      exact hh.dj i j l p0 o p1 o' hij a2 b2 a3 b3
    · exact b3 ⟨i, p0, o, a2, a3⟩
    · exact a3 ⟨j, p1, o', b2, b3⟩
    · exact hk (temps_one nt a1 b1)
/-- the caller's state behind -/
theorem call_out (hh0 : Holds K M env σ H) (g : Grow M env σ H M1 env1 σ H1) (s1 : Shape env env1) (hh : Holds K M1 env1 σ H1) {xs : List X} (r : RA K σ H M1 H1 env1 xs vs) (e : passXs env1 xs = some ps) (nd : (slots xs).Nodup) {ps' : Ev}
    (g2 : Grow M1 ps (sv vs) H1 M2 ps' (sv vs) H2) (s2 : Shape ps ps') (hh2 : Holds K M2 ps' (sv vs) H2) :
    Grow M env σ H M2 (wb xs ps' env1) σ H2 ∧ Shape env (wb xs ps' env1) ∧ Holds K M2 (wb xs ps' env1) σ H2 ∧ ∀ y v, RX K (sv vs) H1 M2 H2 ps' y v → (∀ i, y ≠ .sl i) → RX K σ H M2 H2 (wb xs ps' env1) y v := by
  -- a slot that was lent
  have len1 : ∀ (k i : Nat), xs[k]? = some (.sl i) → ∃ p o o', env1[i]? = some (Sl.ow p o) ∧ ps[k]? = some (Sl.ow true o) ∧ ps'[k]? = some (Sl.ow true o') ∧ (wb xs ps' env1)[i]? = some (Sl.ow p o') ∧ (sv vs)[k]? = σ[i]? := fun k i h => by
    obtain ⟨v, e3, r1⟩ := ra_get r h
    obtain ⟨⟨p, o, t1⟩, t2⟩ := r1.1
    obtain ⟨s, e4, e5⟩ := (passXs_get (k := k) e).2.1 _ h
    have e5' : (match env1[i]? with
      | some (.ow _ o) => some (Sl.ow true o)
      | _ => none) = some s := e5
    rw [t1] at e5'
    cases e5'
    obtain ⟨o', e6⟩ := s2.ow e4
    refine ⟨p, o, o', t1, e4, e6, wb_in xs ps' env1 k nd h e6 t1, ?_⟩
    unfold sv
    rw [List.getElem?_map, e3, t2]
    rfl
  have shp : Shape env1 (wb xs ps' env1) := by
    show (wb xs ps' env1).map Sl.kind = env1.map Sl.kind
    apply List.ext_getElem?
    intro i
    rw [List.getElem?_map, List.getElem?_map]
    by_cases hi : i ∈ slots xs
    · obtain ⟨k, hk⟩ := slots_at hi
      obtain ⟨p, o, o', t1, _, _, t2, _⟩ := len1 k i hk
      rw [t1, t2]
      rfl
    · rw [wb_out xs ps' env1 hi]
  have ownP : ∀ l, Own ps (sv vs) l → Own env1 σ l ∨ (H l = none ∧ ¬ Own env1 σ l) := fun l ⟨k, p, o, q1, q2⟩ => by
    obtain ⟨_, _, _, h⟩ := arg_ow hh r e q1 q2
    rcases h with ⟨i, p0, a1, a2, a3⟩ | ⟨a1, a2, a3⟩
    · exact .inl ⟨i, p0, o, a2, a3⟩
    · exact .inr ⟨a2, a3⟩
  have g3 : Grow M env σ H M2 (wb xs ps' env1) σ H2 := by
    refine ⟨g.exM.trans g2.exM, fun l o q n => ?_, fun l o q => ?_, fun l z => g.own l (own_shape shp z), fun i s q pn => ⟨rfl, ?_⟩, fun l q => g.dom l (g2.dom l q), (wb_len _ _ _).trans g.len⟩
    · refine g2.fr l o (g.fr l o q n) fun z => ?_
      rcases ownP l z with z | z
      · rcases g.own l z with z | z
        · exact n z
        · rw [q] at z; cases z
      · rw [q] at z; cases z.1
    · rcases g2.new l o q with z | z | z
      · exact g.new l o z
      · exact .inr (.inl (g.dom l z))
      · rcases ownP l z with z | z
        · rcases g.own l z with z | z
          · exact .inr (.inr z)
          · exact .inr (.inl z)
        · exact .inr (.inl z.1)
    · have := congrArg (fun l => l[i]?) (show (wb xs ps' env1).map Sl.kind = env.map Sl.kind from Eq.trans shp s1)
      simp only [List.getElem?_map] at this
      rw [q] at this
      obtain ⟨s', e1, e2⟩ := Option.map_eq_some_iff.mp this
      exact ⟨s', e1, e2⟩
  · refine ⟨g3, Eq.trans shp s1, ⟨hh2.ex, by rw [wb_len]; exact hh.len, fun i s q => ?_, fun i j l p o p' o' hij q1 q2 q3 q4 => ?_⟩, fun y v ry ny => ?_⟩
    · by_cases hi : i ∈ slots xs
      · obtain ⟨k, hk⟩ := slots_at hi
        obtain ⟨p, o, o', t1, _, t3, t2, t4⟩ := len1 k i hk
        rw [t2] at q
        cases q
        have := hh2.slot k _ t3
        rw [t4] at this
        exact this
      · rw [wb_out xs ps' env1 hi] at q
        have := hh.slot i s q
        cases s with
        | no => trivial
        | hid => trivial
        | im d => obtain ⟨u, e1, e2⟩ := this; exact ⟨u, e1, Rep.mono g2.exM _ _ e2⟩
        | ow p o =>
          obtain ⟨l, e1, a, m⟩ := this
          have no : ¬ Own ps (sv vs) l := fun ⟨k, p2, o2, q1, q2⟩ => by
            obtain ⟨_, _, _, h⟩ := arg_ow hh r e q1 q2
            rcases h with ⟨j, p0, a1, a2, a3⟩ | ⟨a1, a2, a3⟩
            · have hij : i ≠ j := fun z => hi (z ▸ slots_mem a1)
              exact hh.dj i j l p o p0 o2 hij q a2 e1 a3
            · exact a3 ⟨i, p, o, q, e1⟩
          refine ⟨l, e1, a.mono g2.exM fun u z => g2.fr l u z no, ?_⟩
          cases z : M2 l with
          | none => rfl
          | some u =>
            obtain ⟨u2, hu⟩ := a.there
            rcases g2.new l u z with w | w | w
            · rw [m] at w; cases w
            · rw [hu] at w; cases w
            · exact (no w).elim
    · have f : ∀ (i : Nat) (p : Bool) (o : OD), (wb xs ps' env1)[i]? = some (Sl.ow p o) → ∃ o0, env1[i]? = some (Sl.ow p o0) := fun i p o q => (show Shape (wb xs ps' env1) env1 from Eq.symm shp).ow q
      obtain ⟨o1, h1⟩ := f i p o q1
      obtain ⟨o2, h2⟩ := f j p' o' q2
      exact hh.dj i j l p o1 p' o2 hij h1 h2 q3 q4
    · refine ⟨?_, fun o z l z2 => g.dom l (ry.2 o z l z2)⟩
      obtain ⟨ry, nn⟩ := ry
      cases y with
      | im d => exact ry
      | sl i => exact (ny i rfl).elim
      | ow o =>
        obtain ⟨l, rfl, a, m, _⟩ := ry
        refine ⟨l, rfl, a, m, fun z => ?_⟩
        obtain ⟨u, hu⟩ := hh.ownSome (own_shape shp z)
        rw [nn o rfl l rfl] at hu
        cases hu
/-- a def gives no slot of its caller's back -/
def NoSl (m : Ev → RE X) : Prop := ∀ ps y ps', m ps = .ok y ps' → ∀ i, y ≠ .sl i
theorem noSl_fn {N n : Nat} {ds : Ev → RS} : NoSl (fnM N n ds) := fun ps y ps' e i => by
  unfold fnM at e
  by_cases hc : ps.length = n ∧ n ≤ N ∧ ps.all Sl.par = true
  · rw [if_pos hc] at e
    cases q : ds (ps ++ List.replicate (N - n) .no) with
    | rt x env =>
      rw [q] at e
      have e' : opt (retX n env x) (backP ps env) = RE.ok y ps' := e
      cases q2 : retX n env x with
      | none => rw [q2] at e'; cases e'
      | some z =>
        rw [q2] at e'
        have ez : z = y := by
          have : RE.ok z (backP ps env) = RE.ok y ps' := e'
          injection this
        subst ez
        intro hz
        subst hz
        cases x with
        | im d => cases q2
        | ow o => cases q2
        | sl j =>
          have q3 : (if j < n then none else match env[j]? with
            | some (.ow _ o) => some (X.ow o)
            | _ => none) = some (X.sl i) := q2
          by_cases hj : j < n
          · rw [if_pos hj] at q3; cases q3
          · rw [if_neg hj] at q3
            split at q3 <;> cases q3
    | nx env => rw [q] at e; cases e; intro z; cases z
    | exc _ _ => rw [q] at e; cases e
    | bk _ => rw [q] at e; cases e
    | ct _ => rw [q] at e; cases e
    | bad => rw [q] at e; cases e
  · rw [if_neg hc] at e
    cases e
/-- f(..) -/
theorem de_call {m : Ev → RE X} {E : XK} {ta : TA} {da : Ev → RE (List X)} (hm : NoSl m) (ha : DA K (fun _ => E) ta da) : DE K (fun _ => E) (tCall (spD K m) [] E ta) (dCall m da) := fun M σ H env hh => by
  have h1 := ha M σ H env hh
  unfold dCall
  cases e1 : da env with
  | bad => trivial
  | exc e env1 => rw [e1] at h1; exact fun Q k => h1 _ k
  | ok xs env1 =>
    rw [e1] at h1
    show Sat K _ M σ H env (match passXs env1 xs with
      | none => .bad
      | some ps => if (slots xs).Nodup ∧ temps xs ≤ 1 then match m ps with
          | .ok y ps' => .ok y (wb xs ps' env1)
          | .exc e ps' => .exc e (wb xs ps' env1)
          | .bad => .bad
        else .bad) (RX K σ) _
    cases e2 : passXs env1 xs with
    | none => trivial
    | some ps =>
      show Sat K _ M σ H env (if (slots xs).Nodup ∧ temps xs ≤ 1 then match m ps with
          | .ok y ps' => .ok y (wb xs ps' env1)
          | .exc e ps' => .exc e (wb xs ps' env1)
          | .bad => .bad
        else .bad) (RX K σ) _
      by_cases nd : (slots xs).Nodup ∧ temps xs ≤ 1
      · rw [if_pos nd]
        cases e3 : m ps with
        | bad => trivial
        | ok y ps' =>
          refine fun Q k => h1 _ fun vs M1 H1 g s hh1 r => ?_
          rw [List.append_nil]
          refine ⟨_, ps, call_in hh g hh1 r e2 nd.1 nd.2, ?_⟩
          rw [e3]
          intro v M2 H2 g2 s2 hh2 ry
          obtain ⟨a, b, c, d⟩ := call_out hh g s hh1 r e2 nd.1 g2 s2 hh2
          exact k v M2 H2 a b c (d y v ry (hm ps y ps' e3))
        | exc x ps' =>
          refine fun Q k => h1 _ fun vs M1 H1 g s hh1 r => ?_
          rw [List.append_nil]
          refine ⟨_, ps, call_in hh g hh1 r e2 nd.1 nd.2, ?_⟩
          rw [e3]
          intro cls dd M2 H2 g2 s2 hh2 ry
          obtain ⟨a, b, c, d⟩ := call_out hh g s hh1 r e2 nd.1 g2 s2 hh2
          exact k cls dd M2 H2 a b c ry
      · rw [if_neg nd]
        trivial
end
end Dn
namespace Dn
open PySem PySem.Spec PyProof.Rows L2
def wipeE (env : Ev) : List Nat → Ev
  | [] => env
  | v :: vs => (wipeE env vs).set v .no
def restE (e1 : Ev) (e : Ev) : List Nat → Ev
  | [] => e
  | v :: vs => (restE e1 e vs).set v (e1.getD v .no)
def freeSl (e1 : Ev) (v : Nat) : Bool := match e1[v]? with
  | some .no => true
  | some (.im _) => true
  | _ => false
def lcGo (dg : D → Ev → Option Ev) (dt : Ev → RE Bool) (de : Ev → RE X) (vs : List Nat) : List D → Ev → List D → RE (List D)
  | [], e, acc => .ok acc e
  | x :: xs, e, acc => match dg x e with
    | none => .bad
    | some e2 => match dt e2 with
      | .ok true e3 => match de e3 with
        | .ok y e4 => match frz y with
          | some d => if fit (acc.length + 1) then lcGo dg dt de vs xs (wipeE e4 vs) (acc ++ [d]) else .bad
          | none => .bad
        | _ => .bad
      | .ok false e3 => lcGo dg dt de vs xs (wipeE e3 vs) acc
      | _ => .bad
def unhid (h : Option Nat) (e1 e : Ev) : Ev := match h with
  | none => e
  | some j => e.set j (e1.getD j .no)
def lcEnd (h : Option Nat) (e1 : Ev) (vs : List Nat) : RE (List D) → RE X
  | .ok ds e => .ok (.ow (.lst ds)) (unhid h e1 (restE (hideE h e1) e vs))
  | _ => .bad
def dLc (di : Ev → RE Its) (dg : D → Ev → Option Ev) (dt : Ev → RE Bool) (de : Ev → RE X) (vs : List Nat) : Ev → RE X := fun env => (di env).bind fun xh e1 => if vs.all (freeSl (hideE xh.2 e1)) = true then lcEnd xh.2 e1 vs (lcGo dg dt de vs xh.1 (wipeE (hideE xh.2 e1) vs) []) else .bad
/-- a target that stores into vs alone -/
def DGv (K : Fg) [WD K] (g : TG) (dg : D → Ev → Option Ev) (vs : List Nat) : Prop := (∀ (M : Hp) (σ : L2.St) (H : Hp) (env env' : Ev) (d : D) (v : V), Holds K M env σ H → Rep K M d v → dg d env = some env' → ∀ Q : L2.St → Hp → Prop, (∀ σ', Grow M env σ H M env' σ' H → Holds K M env' σ' H → (∀ i, i ∉ vs → σ'[i]? = σ[i]?) → Q σ' H) → g v σ H Q) ∧
  ∀ d env env', dg d env = some env' → ∀ i, i ∉ vs → env'[i]? = env[i]?
def DGsv (K : Fg) [WD K] (g : TGs) (dg : List D → Ev → Option Ev) (vs : List Nat) : Prop := (∀ (M : Hp) (σ : L2.St) (H : Hp) (env env' : Ev) (ds : List D) (us : List V), Holds K M env σ H → Reps K M ds us → dg ds env = some env' → ∀ Q : L2.St → Hp → Prop, (∀ σ', Grow M env σ H M env' σ' H → Holds K M env' σ' H → (∀ i, i ∉ vs → σ'[i]? = σ[i]?) → Q σ' H) → g us σ H Q) ∧
  ∀ ds env env', dg ds env = some env' → ∀ i, i ∉ vs → env'[i]? = env[i]?
section
variable {K : Fg} [WD K] {W : WS} {M M' M1 M2 : Hp} {env env' env1 env2 e e1 : Ev} {σ σ' σ1 : L2.St} {H H' H1 H2 : Hp} {x y : X} {v u : V} {te : TE} {de : Ev → RE X} {tt : TT} {dt : Ev → RE Bool} {vs : List Nat}
theorem setSl_other {i j : Nat} (h : setSl i x env = some env') (hj : j ≠ i) : env'[j]? = env[j]? := by
  unfold setSl at h
  split at h
  · cases h
  · cases h
  · cases h
  · obtain ⟨s, _, rfl⟩ := Option.map_eq_some_iff.mp h
    exact List.getElem?_set_ne (Ne.symm hj)
theorem dgv_name {i : Nat} (hi : i ∈ vs) : DGv K (gName i) (dgName i) vs := ⟨fun M σ H env env' d v hh r e Q k => by
  obtain ⟨g, h⟩ := setSl_grow hh .refl hh (rx_im r) e
  exact k _ g h fun j hj => List.getElem?_set_ne (fun (z : i = j) => hj (by rw [← z]; exact hi)), fun d env env' h j hj => setSl_other h (fun (z : j = i) => hj (by rw [z]; exact hi))⟩
theorem dgv_nil : DGsv K gNil dgNil vs := by
  refine ⟨fun M σ H env env' ds us hh r e Q k => ?_, fun ds env env' e => ?_⟩
  · cases ds with
    | cons d ds => cases e
    | nil =>
      cases e
      simp only [Reps] at r
      exact ⟨r, k σ .refl hh fun _ _ => rfl⟩
  · cases ds with
    | cons d ds => cases e
    | nil => cases e; exact fun _ _ => rfl
theorem dgv_cons {g : TG} {gs : TGs} {a : D → Ev → Option Ev} {b : List D → Ev → Option Ev} (ha : DGv K g a vs) (hb : DGsv K gs b vs) : DGsv K (gCons g gs) (dgCons a b) vs := by
  refine ⟨fun M σ H env env' ds us hh r e Q k => ?_, fun ds env env' e => ?_⟩
  · cases ds with
    | nil => cases e
    | cons d ds =>
      simp only [Reps] at r
      obtain ⟨v, r', rfl, h1, h2⟩ := r
      obtain ⟨env1, e1, e2⟩ := Option.bind_eq_some_iff.mp (show (a d env).bind (b ds) = some env' from e)
      exact ⟨v, r', rfl, ha.1 M σ H env env1 d v hh h1 e1 _ fun σ1 g1 hh1 k1 => hb.1 M σ1 H env1 env' ds r' hh1 h2 e2 _ fun σ2 g2 hh2 k2 => k σ2 (g1.trans hh g2) hh2 fun i hi => (k2 i hi).trans (k1 i hi)⟩
  · cases ds with
    | nil => cases e
    | cons d ds =>
      obtain ⟨env1, e1, e2⟩ := Option.bind_eq_some_iff.mp (show (a d env).bind (b ds) = some env' from e)
      exact fun i hi => (hb.2 _ _ _ e2 i hi).trans (ha.2 _ _ _ e1 i hi)
theorem dgv_tup {gs : TGs} {a : List D → Ev → Option Ev} {n : Nat} (ha : DGsv K gs a vs) : DGv K (gTup K n gs) (dgTup n a) vs := by
  refine ⟨fun M σ H env env' d v hh r e Q k => ?_, fun d env env' e => ?_⟩
  · cases d with
    | tup xs =>
      have e' : (if xs.length = n then a xs env else none) = some env' := e
      by_cases hn : xs.length = n
      · rw [if_pos hn] at e'
        simp only [Rep] at r
        obtain ⟨b, us, rfl, h1, h2⟩ := r
        exact ⟨b, us, rfl, sqT_mono hh.ex h1.t, by rw [← h2.length]; exact hn, ha.1 M σ H env env' xs us hh h2 e' Q k⟩
      · rw [if_neg hn] at e'
        cases e'
    | tupW xs =>
      have e' : (if xs.length = n then a xs env else none) = some env' := e
      by_cases hn : xs.length = n
      · rw [if_pos hn] at e'
        simp only [Rep] at r
        obtain ⟨b, us, rfl, h1, h2⟩ := r
        exact ⟨b, us, rfl, sqT_mono hh.ex h1, by rw [← h2.length]; exact hn, ha.1 M σ H env env' xs us hh h2 e' Q k⟩
      · rw [if_neg hn] at e'
        cases e'
    | _ => cases e
  · cases d with
    | tup xs =>
      have e' : (if xs.length = n then a xs env else none) = some env' := e
      by_cases hn : xs.length = n
      · rw [if_pos hn] at e'
        exact ha.2 _ _ _ e'
      · rw [if_neg hn] at e'
        cases e'
    | tupW xs =>
      have e' : (if xs.length = n then a xs env else none) = some env' := e
      by_cases hn : xs.length = n
      · rw [if_pos hn] at e'
        exact ha.2 _ _ _ e'
      · rw [if_neg hn] at e'
        cases e'
    | _ => cases e
theorem wipe_get : ∀ (vs : List Nat) (i : Nat), (wipe σ vs)[i]? = if i ∈ vs then (if i < σ.length then some none else none) else σ[i]?
  | [], i => by simp [wipe]
  | v :: vs, i => by
    show ((wipe σ vs).set v none)[i]? = _
    by_cases h : i = v
    · subst h
      rw [if_pos (by simp), List.getElem?_set]
      simp only [if_true, wipe_length]
    · rw [List.getElem?_set_ne (Ne.symm h), wipe_get vs i]
      simp [h]
theorem wipeE_len : ∀ vs : List Nat, (wipeE env vs).length = env.length
  | [] => rfl
  | v :: vs => by show ((wipeE env vs).set v .no).length = _; rw [List.length_set, wipeE_len vs]
theorem restE_len : ∀ vs : List Nat, (restE e1 e vs).length = e.length
  | [] => rfl
  | v :: vs => by show ((restE e1 e vs).set v _).length = _; rw [List.length_set, restE_len vs]
theorem wipeE_get : ∀ (vs : List Nat) (i : Nat), (wipeE env vs)[i]? = if i ∈ vs then (if i < env.length then some .no else none) else env[i]?
  | [], i => by simp [wipeE]
  | v :: vs, i => by
    show ((wipeE env vs).set v .no)[i]? = _
    by_cases h : i = v
    · subst h
      rw [if_pos (by simp), List.getElem?_set]
      simp only [if_true, wipeE_len]
    · rw [List.getElem?_set_ne (Ne.symm h), wipeE_get vs i]
      simp [h]
theorem restE_get : ∀ (vs : List Nat) (i : Nat), (restE e1 e vs)[i]? = if i ∈ vs then (if i < e.length then some (e1.getD i .no) else none) else e[i]?
  | [], i => by simp [restE]
  | v :: vs, i => by
    show ((restE e1 e vs).set v _)[i]? = _
    by_cases h : i = v
    · subst h
      rw [if_pos (by simp), List.getElem?_set]
      simp only [if_true, restE_len]
    · rw [List.getElem?_set_ne (Ne.symm h), restE_get vs i]
      simp [h]
theorem wipe_eq (h : ∀ i, i ∉ vs → σ'[i]? = σ[i]?) (hl : σ'.length = σ.length) : wipe σ' vs = wipe σ vs := by
  apply List.ext_getElem?
  intro i
  rw [wipe_get, wipe_get, hl]
  by_cases hi : i ∈ vs
  · rw [if_pos hi, if_pos hi]
  · rw [if_neg hi, if_neg hi, h i hi]
/-- the block's slots taken out -/
theorem wipe_holds (hh : Holds K M env σ' H) (h : ∀ i, i ∉ vs → σ[i]? = σ'[i]?) (hl : σ.length = σ'.length) : Holds K M (wipeE env vs) (wipe σ vs) H where
  ex := hh.ex
  len := by rw [wipe_length, wipeE_len, hl]; exact hh.len
  slot := fun i s q => by
    rw [wipeE_get] at q
    rw [wipe_get]
    by_cases hi : i ∈ vs
    · rw [if_pos hi] at q
      split at q
      · cases q; trivial
      · cases q
    · rw [if_neg hi] at q ⊢
      rw [h i hi]
      exact hh.slot i s q
  dj := fun i j l p o p' o' hij q1 q2 q3 q4 => by
    have f : ∀ (i : Nat) (p : Bool) (o : OD), (wipeE env vs)[i]? = some (Sl.ow p o) → i ∉ vs ∧ env[i]? = some (Sl.ow p o) := fun i p o q => by
      rw [wipeE_get] at q
      by_cases hi : i ∈ vs
      · rw [if_pos hi] at q
        split at q <;> cases q
      · rw [if_neg hi] at q
        exact ⟨hi, q⟩
    obtain ⟨a1, a2⟩ := f i p o q1
    obtain ⟨b1, b2⟩ := f j p' o' q2
    rw [wipe_get, if_neg a1, h i a1] at q3
    rw [wipe_get, if_neg b1, h j b1] at q4
    exact hh.dj i j l p o p' o' hij a2 b2 q3 q4
theorem wipe_own (h : ∀ i, i ∉ vs → σ[i]? = σ'[i]?) {l : Addr} : Own (wipeE env vs) (wipe σ vs) l → Own env σ' l := fun ⟨i, p, o, q1, q2⟩ => by
  rw [wipeE_get] at q1
  by_cases hi : i ∈ vs
  · rw [if_pos hi] at q1
    split at q1 <;> cases q1
  · rw [if_neg hi] at q1
    rw [wipe_get, if_neg hi, h i hi] at q2
    exact ⟨i, p, o, q1, q2⟩
/-- an object that nobody knows of is changed -/
theorem upd_holds {p : Addr} {o : HO} (hh : Holds K M env σ H) (m : M p = none) (n : ¬ Own env σ p) : Holds K M env σ (upd H p o) where
  ex := fun a u q => by
    have : a ≠ p := fun z => by subst z; rw [m] at q; cases q
    rw [upd_ne this]
    exact hh.ex a u q
  len := hh.len
  slot := fun i s q => by
    have := hh.slot i s q
    cases s with
    | no => trivial
    | hid => trivial
    | im d => exact this
    | ow pn od =>
      obtain ⟨l, e1, a, m2⟩ := this
      have : l ≠ p := fun z => n ⟨i, pn, od, q, z ▸ e1⟩
      exact ⟨l, e1, a.mono (Same.refl M) fun u z => by rw [upd_ne this]; exact z, m2⟩
  dj := hh.dj
theorem upd_grow {p : Addr} {o : HO} (g : Grow M env σ H M' env' σ' H') (h : H p = none) : Grow M env σ H M' env' σ' (upd H' p o) where
  exM := g.exM
  fr := fun l u q n => by
    have : l ≠ p := fun z => by subst z; rw [h] at q; cases q
    rw [upd_ne this]
    exact g.fr l u q n
  new := g.new
  own := g.own
  pin := g.pin
  dom := fun l q => by
    by_cases z : l = p
    · exact z ▸ h
    · rw [upd_ne z] at q; exact g.dom l q
  len := g.len
abbrev WF : WS := fun _ _ _ _ => False
/-- ahead of and behind the block -/
theorem rest_ok (hh : Holds K M env σ H) (hf : vs.all (freeSl env) = true) (g : Grow M (wipeE env vs) (wipe σ vs) H M' e (wipe σ vs) H') (hs : Shape (wipeE env vs) e) (hh' : Holds K M' e (wipe σ vs) H') :
    Grow M env σ H M' (restE env e vs) σ H' ∧ Shape env (restE env e vs) ∧ Holds K M' (restE env e vs) σ H' ∧ ∀ l, Own (restE env e vs) σ l → Own e (wipe σ vs) l := by
  have hl : e.length = env.length := by rw [g.len, wipeE_len]
  have fr : ∀ i, i ∈ vs → freeSl env i = true := fun i hi => List.all_eq_true.mp hf i hi
  have own1 : ∀ l, Own (restE env e vs) σ l → Own e (wipe σ vs) l := fun l ⟨i, p, o, q1, q2⟩ => by
    rw [restE_get] at q1
    by_cases hi : i ∈ vs
    · rw [if_pos hi] at q1
      split at q1
      · rename_i hlt
        have := fr i hi
        unfold freeSl at this
        rw [List.getD_eq_getElem?_getD] at q1
        cases q : env[i]? with
        | none => rw [q] at this; cases this
        | some s =>
          rw [q] at this q1
          cases q1
          cases this
      · cases q1
    · rw [if_neg hi] at q1
      exact ⟨i, p, o, q1, by rw [wipe_get, if_neg hi]; exact q2⟩
  have own2 : ∀ l, Own (wipeE env vs) (wipe σ vs) l → Own env σ l := fun l z => wipe_own (fun _ _ => rfl) z
  have shp : Shape env (restE env e vs) := by
    show (restE env e vs).map Sl.kind = env.map Sl.kind
    apply List.ext_getElem?
    intro i
    rw [List.getElem?_map, List.getElem?_map, restE_get]
    by_cases hi : i ∈ vs
    · rw [if_pos hi, hl]
      by_cases hlt : i < env.length
      · rw [if_pos hlt, List.getD_eq_getElem?_getD, List.getElem?_eq_getElem hlt]
        rfl
      · rw [if_neg hlt, List.getElem?_eq_none (by omega)]
    · rw [if_neg hi]
      have := congrArg (fun l => l[i]?) (show e.map Sl.kind = (wipeE env vs).map Sl.kind from hs)
      simp only [List.getElem?_map] at this
      rw [this, wipeE_get, if_neg hi]
  refine ⟨⟨g.exM, fun l u q n => g.fr l u q fun z => n (own2 l z), fun l u q => (g.new l u q).imp id (Or.imp id (own2 l)), fun l z => ?_, fun i s q pn => ⟨rfl, ?_⟩, g.dom, by rw [restE_len, hl]⟩, shp, ⟨hh'.ex, by rw [restE_len, hl]; exact hh.len, fun i s q => ?_, fun i j l p o p' o' hij q1 q2 q3 q4 => ?_⟩, own1⟩
  · rcases g.own l (own1 l z) with q | q
    · exact .inl (own2 l q)
    · exact .inr q
  · have := congrArg (fun l => l[i]?) (show (restE env e vs).map Sl.kind = env.map Sl.kind from shp)
    simp only [List.getElem?_map] at this
    rw [q] at this
    obtain ⟨s', e1, e2⟩ := Option.map_eq_some_iff.mp this
    exact ⟨s', e1, e2⟩
  · rw [restE_get] at q
    by_cases hi : i ∈ vs
    · rw [if_pos hi] at q
      split at q
      · rename_i hlt
        have := fr i hi
        unfold freeSl at this
        rw [List.getD_eq_getElem?_getD] at q
        cases q0 : env[i]? with
        | none => rw [q0] at this; cases this
        | some s0 =>
          rw [q0] at this q
          cases q
          cases s0 with
          | no => trivial
          | im d =>
            obtain ⟨u, e1, e2⟩ := hh.slot i _ q0
            exact ⟨u, e1, Rep.mono g.exM _ _ e2⟩
          | ow _ _ => cases this
          | hid => cases this
      · cases q
    · rw [if_neg hi] at q
      have := hh'.slot i s q
      rw [wipe_get, if_neg hi] at this
      exact this
  · have f : ∀ (i : Nat) (p : Bool) (o : OD), (restE env e vs)[i]? = some (Sl.ow p o) → i ∉ vs ∧ e[i]? = some (Sl.ow p o) := fun i p o q => by
      rw [restE_get] at q
      by_cases hi : i ∈ vs
      · rw [if_pos hi] at q
        split at q
        · have := fr i hi
          unfold freeSl at this
          rw [List.getD_eq_getElem?_getD] at q
          cases q0 : env[i]? with
          | none => rw [q0] at this; cases this
          | some s0 =>
            rw [q0] at this q
            cases q
            cases this
        · cases q
      · rw [if_neg hi] at q
        exact ⟨hi, q⟩
    obtain ⟨a1, a2⟩ := f i p o q1
    obtain ⟨b1, b2⟩ := f j p' o' q2
    exact hh'.dj i j l p o p' o' hij a2 b2 (by rw [wipe_get, if_neg a1]; exact q3) (by rw [wipe_get, if_neg b1]; exact q4)
/-- the block's turns -/
theorem lc_go {J : It} {as : List Addr} {xs : List D} {g : TG} {dg : D → Ev → Option Ev} (hg : DGv K g dg vs) (ht : DT K WF tt dt) (he : DE K WF te de) (hh : Holds K M env (wipe σ vs) H) (hi : ItOk K J as M H xs) (hn : ∀ a ∈ as, ¬ Own env (wipe σ vs) a ∧ ∃ o, H a = some o)
    {ds : List D} {e : Ev} (hr : lcGo dg dt de vs xs env [] = .ok ds e) (Q : VK) (k : ∀ (D : Addr) (M' H' : Hp), H D = none → Grow M env (wipe σ vs) H M' e (wipe σ vs) H' → Shape env e → Holds K M' e (wipe σ vs) H' → At K M' H' D (.lst ds) → M' D = none → ¬ Own e (wipe σ vs) D → Q (.ref D) H') (hw : wipeE env vs = env) :
    ∀ D, H D = none → ∃ Wd : Nat → Nat → Hp → Prop, (∃ m, Wd 0 m (upd H D (.lst []))) ∧ ∀ i m H, Wd i m H →
      (J.stop i H ∧ Q (.ref D) H) ∨ (J.go i H ∧ ∃ Nx : Hp → Prop, (∀ H', Nx H' → ∃ m', m' < m ∧ Wd (i + 1) m' H') ∧ ∀ x H', J.yld i H x H' → g x (wipe σ vs) H' fun σ2 H2 => wipe σ2 vs = wipe σ vs ∧ tt σ2 H2 fun b H3 =>
        if b = true then te σ2 H3 fun y H4 => ∃ acc, H4 D = some (.lst acc) ∧ acc.length < sizeLine ∧ Nx (upd H4 D (.lst (acc ++ [y]))) else Nx H3) := by
  intro D hD
  have noD : ¬ Own env (wipe σ vs) D := fun z => by
    obtain ⟨u, q⟩ := hh.ownSome z
    rw [hD] at q; cases q
  have mD : M D = none := hh.ex.free hD
  refine ⟨fun i m H' => m = xs.length - i ∧ i ≤ xs.length ∧ ∃ M' e' acc ws, lcGo dg dt de vs (xs.drop i) e' acc = .ok ds e ∧ Grow M env (wipe σ vs) H M' e' (wipe σ vs) H' ∧ Shape env e' ∧ Holds K M' e' (wipe σ vs) H' ∧ H' D = some (.lst ws) ∧ Reps K M' acc ws ∧ M' D = none ∧ ¬ Own e' (wipe σ vs) D ∧ wipeE e' vs = e',
    ⟨xs.length, by simp, Nat.zero_le _, M, env, [], [], hr, upd_grow .refl hD, .refl _, upd_holds hh mD noD, upd_same, Reps.nil, mD, noD, hw⟩, ?_⟩
  rintro i m H1 ⟨rfl, hi1, M1, e1, acc, ws, f1, g1, s1, hh1, hD1, rA, mD1, noD1, hw1⟩
  have src : ∀ a ∈ as, ∀ o, H a = some o → H1 a = some o := fun a ha o q => g1.fr a o q (hn a ha).1
  cases q : xs[i]? with
  | none =>
    have hl : i = xs.length := by
      have := List.getElem?_eq_none_iff.mp q
      omega
    subst hl
    rw [List.drop_length] at f1
    have f2 : RE.ok acc e1 = RE.ok ds e := f1
    cases f2
    exact .inl ⟨hi.stop M1 H1 g1.exM hh1.ex src, k D M1 H1 hD g1 s1 hh1 ⟨ws, hD1, rA⟩ mD1 noD1⟩
  | some d =>
    obtain ⟨go, yl⟩ := hi.go M1 H1 i d q g1.exM hh1.ex src
    have hlt : i < xs.length := (List.getElem?_eq_some_iff.mp q).1
    have hd : xs.drop i = d :: xs.drop (i + 1) := by
      rw [List.drop_eq_getElem_cons hlt]
      rw [List.getElem?_eq_getElem hlt] at q
      cases q
      rfl
    rw [hd] at f1
    refine .inr ⟨go, fun H' => ∃ M' e' acc ws, lcGo dg dt de vs (xs.drop (i + 1)) e' acc = .ok ds e ∧ Grow M env (wipe σ vs) H M' e' (wipe σ vs) H' ∧ Shape env e' ∧ Holds K M' e' (wipe σ vs) H' ∧ H' D = some (.lst ws) ∧ Reps K M' acc ws ∧ M' D = none ∧ ¬ Own e' (wipe σ vs) D ∧ wipeE e' vs = e', fun H' h => ⟨xs.length - (i + 1), by omega, rfl, hlt, h⟩, fun w H2 hy => ?_⟩
    obtain ⟨M2, ex, rp⟩ := yl w H2 hy
    have hh2 := ex.holds hh1
    cases q1 : dg d e1 with
    | none =>
      exfalso
      have : (match dg d e1 with
        | none => (RE.bad : RE (List Dn.D))
        | some e2 => match dt e2 with
          | .ok true e3 => match de e3 with
            | .ok y e4 => match frz y with
              | some d => if fit (acc.length + 1) then lcGo dg dt de vs (xs.drop (i + 1)) (wipeE e4 vs) (acc ++ [d]) else .bad
              | none => .bad
            | _ => .bad
          | .ok false e3 => lcGo dg dt de vs (xs.drop (i + 1)) (wipeE e3 vs) acc
          | _ => .bad) = RE.ok ds e := f1
      rw [q1] at this
      cases this
    | some e2 =>
      have f2 : (match dt e2 with
          | .ok true e3 => match de e3 with
            | .ok y e4 => match frz y with
              | some d => if fit (acc.length + 1) then lcGo dg dt de vs (xs.drop (i + 1)) (wipeE e4 vs) (acc ++ [d]) else .bad
              | none => .bad
            | _ => .bad
          | .ok false e3 => lcGo dg dt de vs (xs.drop (i + 1)) (wipeE e3 vs) acc
          | _ => .bad) = RE.ok ds e := by
        have : (match dg d e1 with
          | none => (RE.bad : RE (List Dn.D))
          | some e2 => match dt e2 with
            | .ok true e3 => match de e3 with
              | .ok y e4 => match frz y with
                | some d => if fit (acc.length + 1) then lcGo dg dt de vs (xs.drop (i + 1)) (wipeE e4 vs) (acc ++ [d]) else .bad
                | none => .bad
              | _ => .bad
            | .ok false e3 => lcGo dg dt de vs (xs.drop (i + 1)) (wipeE e3 vs) acc
            | _ => .bad) = RE.ok ds e := f1
        rw [q1] at this
        exact this
      have out := hg.2 d e1 e2 q1
      refine hg.1 M2 (wipe σ vs) H2 e1 e2 d w hh2 rp q1 _ fun σ3 g3 hh3 ko => ?_
      have hl3 : σ3.length = σ.length := by
        have h1 := hh3.len
        have h2 := hh2.len
        have h3 := g3.len
        have h4 := wipe_length σ vs
        omega
      have ko' : ∀ i, i ∉ vs → σ3[i]? = σ[i]? := fun i hi => by rw [ko i hi, wipe_get, if_neg hi]
      refine ⟨wipe_eq ko' hl3, ?_⟩
      -- the state of the turn against the block's
      have g4 : Grow M1 e1 (wipe σ vs) H1 M2 e2 σ3 H2 := (ex.grow hh1).trans hh1 g3
      have hD2 : H2 D = some (.lst ws) := ex.exH _ _ hD1
      have mD2 : M2 D = none := by
        cases z : M2 D with
        | none => rfl
        | some u =>
          rcases ex.new D u z with w | w
          · rw [mD1] at w; cases w
          · rw [hD1] at w; cases w
      have noD2 : ¬ Own e2 σ3 D := fun z => by
        rcases g3.own D z with w | w
        · exact noD1 w
        · rw [hD2] at w; cases w
      -- back to the block's own slots
      have back : ∀ {Mx Hx : Hp} {ex : Ev}, Grow M1 e1 (wipe σ vs) H1 Mx ex σ3 Hx → Shape e2 ex → Holds K Mx ex σ3 Hx → Grow M1 e1 (wipe σ vs) H1 Mx (wipeE ex vs) (wipe σ vs) Hx ∧ Shape e1 (wipeE ex vs) ∧ Holds K Mx (wipeE ex vs) (wipe σ vs) Hx ∧ (∀ l, Own (wipeE ex vs) (wipe σ vs) l → Own ex σ3 l) := fun {Mx Hx ex} gx sx hx => by
        have ow : ∀ l, Own (wipeE ex vs) (wipe σ vs) l → Own ex σ3 l := fun l z => wipe_own (fun i hi => (ko' i hi).symm) z
        have sh : Shape e1 (wipeE ex vs) := by
          show (wipeE ex vs).map Sl.kind = e1.map Sl.kind
          apply List.ext_getElem?
          intro i
          rw [List.getElem?_map, List.getElem?_map, wipeE_get]
          by_cases hi : i ∈ vs
          · rw [if_pos hi]
            have h1 : e1[i]? = if i < e1.length then some .no else none := by
              have := wipeE_get (env := e1) vs i
              rw [hw1, if_pos hi] at this
              exact this
            have h2 : ex.length = e1.length := gx.len
            rw [h1, h2]
          · rw [if_neg hi]
            have := congrArg (fun l => l[i]?) (show ex.map Sl.kind = e2.map Sl.kind from sx)
            simp only [List.getElem?_map] at this
            rw [this, out i hi]
        refine ⟨⟨gx.exM, gx.fr, gx.new, fun l z => gx.own l (ow l z), fun i s q pn => ⟨rfl, ?_⟩, gx.dom, by rw [wipeE_len, gx.len]⟩, sh, wipe_holds hx (fun i hi => (ko' i hi).symm) hl3.symm, ow⟩
        have := congrArg (fun l => l[i]?) (show (wipeE ex vs).map Sl.kind = e1.map Sl.kind from sh)
        simp only [List.getElem?_map] at this
        rw [q] at this
        obtain ⟨s', e1, e2⟩ := Option.map_eq_some_iff.mp this
        exact ⟨s', e1, e2⟩
      have idem : ∀ ex : Ev, wipeE (wipeE ex vs) vs = wipeE ex vs := fun ex => by
        apply List.ext_getElem?
        intro i
        rw [wipeE_get, wipeE_len, wipeE_get]
        by_cases hi : i ∈ vs
        · rw [if_pos hi, if_pos hi]
        · rw [if_neg hi, if_neg hi]
      have h5 := ht M2 σ3 H2 e2 hh3
      cases q2 : dt e2 with
      | bad => rw [q2] at f2; cases f2
      | exc _ _ => rw [q2] at f2; cases f2
      | ok b e3 =>
        rw [q2] at f2 h5
        refine h5 _ fun b' M3 H3 g5 s5 hh5 eb => ?_
        cases (show b = b' from eb)
        have hD3 : H3 D = some (.lst ws) := g5.fr D _ hD2 noD2
        have noD3 : ¬ Own e3 σ3 D := fun z => noD2 (own_shape s5 z)
        have mD3 : M3 D = none := by
          cases z : M3 D with
          | none => rfl
          | some u =>
            rcases g5.new D u z with w | w | w
            · rw [mD2] at w; cases w
            · rw [hD2] at w; cases w
            · exact (noD2 w).elim
        have g6 := g4.trans hh1 g5
        cases b with
        | false =>
          rw [if_neg (by decide)]
          obtain ⟨a1, a2, a3, a4⟩ := back g6 s5 hh5
          exact ⟨M3, wipeE e3 vs, acc, ws, f2, g1.trans hh a1, s1.trans a2, a3, hD3, Reps.mono (g4.exM.trans g5.exM) _ _ rA, mD3, fun z => noD3 (a4 D z), idem _⟩
        | true =>
          rw [if_pos rfl]
          have f3 : (match de e3 with
            | .ok y e4 => match frz y with
              | some d => if fit (acc.length + 1) then lcGo dg dt de vs (xs.drop (i + 1)) (wipeE e4 vs) (acc ++ [d]) else .bad
              | none => .bad
            | _ => .bad) = RE.ok ds e := f2
          have h6 := he M3 σ3 H3 e3 hh5
          cases q3 : de e3 with
          | bad => rw [q3] at f3; cases f3
          | exc _ _ => rw [q3] at f3; cases f3
          | ok y e4 =>
            rw [q3] at f3 h6
            have f4 : (match frz y with
              | some d => if fit (acc.length + 1) then lcGo dg dt de vs (xs.drop (i + 1)) (wipeE e4 vs) (acc ++ [d]) else .bad
              | none => .bad) = RE.ok ds e := f3
            cases q4 : frz y with
            | none => rw [q4] at f4; cases f4
            | some d' =>
              rw [q4] at f4
              have f5 : (if fit (acc.length + 1) then lcGo dg dt de vs (xs.drop (i + 1)) (wipeE e4 vs) (acc ++ [d']) else .bad) = RE.ok ds e := f4
              cases q5 : fit (acc.length + 1) with
              | false => rw [q5, if_neg (by decide)] at f5; cases f5
              | true =>
                rw [q5, if_pos rfl] at f5
                refine h6 _ fun w' M4 H4 g7 s7 hh7 r7 => ?_
                have rd := frz_rep r7 q4
                have g8 := frzM_grow g7
                have hh8 := frzM_holds (H := H3) hh7
                have hD4 : H4 D = some (.lst ws) := g7.fr D _ hD3 noD3
                have noD4 : ¬ Own e4 σ3 D := fun z => noD3 (own_shape s7 z)
                have mD4 : frzM M4 H3 H4 e4 σ3 D = none := by
                  cases z : frzM M4 H3 H4 e4 σ3 D with
                  | none => rfl
                  | some u =>
                    rcases g8.new D u z with w | w | w
                    · rw [mD3] at w; cases w
                    · rw [hD3] at w; cases w
                    · exact (noD3 w).elim
                have g9 := g6.trans hh1 g8
                obtain ⟨a1, a2, a3, a4⟩ := back g9 (s5.trans s7) hh8
                have noD5 : ¬ Own (wipeE e4 vs) (wipe σ vs) D := fun z => noD4 (a4 D z)
                have hlen := rA.length
                refine ⟨ws, hD4, by have := fit_ok q5; omega, _, wipeE e4 vs, acc ++ [d'], ws ++ [w'], f5, upd_grow (g1.trans hh a1) hD, s1.trans a2, upd_holds a3 mD4 noD5, upd_same, ?_, mD4, noD5, idem _⟩
                exact (Reps.mono ((g4.exM.trans g5.exM).trans g8.exM) _ _ rA).append (Reps.cons rd Reps.nil)
theorem de_lc {wi : TI} {di : Ev → RE Its} {g : TG} {dg : D → Ev → Option Ev} (hi : DI K W wi di) (hg : DGv K g dg vs) (ht : DT K WF tt dt) (he : DE K WF te de) : DE K W (tLc wi g tt te vs) (dLc di dg dt de vs) := fun M σ H env hh => by
  refine Sat.bind (c := fun (J : It) H1 Q => ∀ D, H1 D = none → ∃ W : Nat → Nat → Hp → Prop, (∃ m, W 0 m (upd H1 D (.lst []))) ∧ ∀ i m H, W i m H →
      (J.stop i H ∧ Q (.ref D) H) ∨ (J.go i H ∧ ∃ Nx : Hp → Prop, (∀ H', Nx H' → ∃ m', m' < m ∧ W (i + 1) m' H') ∧ ∀ x H', J.yld i H x H' → g x (wipe σ vs) H' fun σ2 H2 => wipe σ2 vs = wipe σ vs ∧ tt σ2 H2 fun b H3 =>
        if b = true then te σ2 H3 fun y H4 => ∃ acc, H4 D = some (.lst acc) ∧ acc.length < sizeLine ∧ Nx (upd H4 D (.lst (acc ++ [y]))) else Nx H3)) back_x hh (hi M σ H env hh) (fun Q q => q) fun M1 H1 env1 xh J g1 s1 hh1 r => ?_
  obtain ⟨xs, h⟩ := xh
  obtain ⟨as, hn, io, hs⟩ := r
  by_cases hf : vs.all (freeSl (hideE h env1)) = true
  · rw [if_pos hf]
    cases q : lcGo dg dt de vs xs (wipeE (hideE h env1) vs) [] with
    | bad => trivial
    | exc _ _ => trivial
    | ok ds e =>
      refine fun Q k => ?_
      have hhh : Holds K M1 (hideE h env1) σ H1 := by
        cases h with
        | none => exact hh1
        | some j => exact hide_holds hh1
      have hin : Holds K M1 (wipeE (hideE h env1) vs) (wipe σ vs) H1 := wipe_holds hhh (fun _ _ => rfl) rfl
      refine lc_go hg ht he hin io (fun a ha => ⟨fun z => (hn a ha).1 (wipe_own (fun _ _ => rfl) z), (hn a ha).2⟩) q Q (fun D M' H' hD g2 s2 hh2 at2 m2 no2 => ?_) ?_
      · obtain ⟨a1, a2, a3, a4⟩ := rest_ok hhh hf g2 s2 hh2
        have noD : ¬ Own (restE (hideE h env1) e vs) σ D := fun z => no2 (a4 D z)
        have rx : RX K σ H1 M' H' (restE (hideE h env1) e vs) (.ow (.lst ds)) (.ref D) := ⟨⟨D, rfl, at2, m2, noD⟩, fun o _ l z => by cases z; exact hD⟩
        cases h with
        | none => exact k _ M' H' a1 a2 a3 rx
        | some j =>
          obtain ⟨p, o, ej⟩ := hs j rfl
          have eg : env1.getD j .no = .ow p o := by rw [List.getD_eq_getElem?_getD, ej]; rfl
          obtain ⟨b1, b2, b3⟩ := unhide_ok hh1 ej a1 a3
          show Q _ _
          have hj : j < env1.length := (List.getElem?_eq_some_iff.mp ej).1
          have shp : Shape env1 ((restE (env1.set j .hid) e vs).set j (.ow p o)) := by
            show List.map Sl.kind ((restE (env1.set j .hid) e vs).set j (.ow p o)) = env1.map Sl.kind
            apply List.ext_getElem?
            intro i
            rw [List.getElem?_map, List.getElem?_map]
            by_cases hij : i = j
            · subst hij
              rw [List.getElem?_set_self (by have hq := a1.len; simp only [hideE, List.length_set] at hq ⊢; omega), ej]
              try rfl
            · rw [List.getElem?_set_ne (Ne.symm hij)]
              have := congrArg (fun l => l[i]?) (show (restE (env1.set j .hid) e vs).map Sl.kind = (env1.set j .hid).map Sl.kind from a2)
              simp only [List.getElem?_map] at this
              rw [this, List.getElem?_set_ne (Ne.symm hij)]
          refine k _ M' H' (by show Grow M1 env1 σ H1 M' ((restE (env1.set j .hid) e vs).set j (env1.getD j .no)) σ H'; rw [eg]; exact b1) (by show Shape env1 ((restE (env1.set j .hid) e vs).set j (env1.getD j .no)); rw [eg]; exact shp) (by show Holds K M' ((restE (env1.set j .hid) e vs).set j (env1.getD j .no)) σ H'; rw [eg]; exact b2) (by show RX K σ H1 M' H' ((restE (env1.set j .hid) e vs).set j (env1.getD j .no)) _ _; rw [eg]; exact b3 _ _ (fun i z => nomatch z) rx)
      · apply List.ext_getElem?
        intro i
        rw [wipeE_get, wipeE_len, wipeE_get]
        by_cases hi : i ∈ vs
        · rw [if_pos hi, if_pos hi]
        · rw [if_neg hi, if_neg hi]
  · rw [if_neg hf]
    trivial
theorem dt_yes : DT K W tYes (fun env => .ok true env) := fun M σ H env hh Q k => k true M H .refl (.refl _) hh rfl
end
end Dn
namespace Dn
open PySem PySem.Spec PyProof.Rows L2
def ofX (env : Ev) : X → Option Dn.Its
  | .im (.lst xs) => some (xs, none)
  | .im (.tup xs) => some (xs, none)
  | .im (.tupW xs) => some (xs, none)
  | .im (.scr ns) => some (ns.map D.int, none)
  | .im (.str z) => some (z.cps.toList.map fun c => D.str ⟨#[c]⟩, none)
  | .ow (.lst xs) => some (xs, none)
  | .sl j => match env[j]? with
    | some (.ow _ (.lst xs)) => some (xs, some j)
    | _ => none
  | _ => none
def diSeq (de : Ev → RE X) : Ev → RE Dn.Its := fun env => (de env).bind fun x e1 => opt (ofX e1 x) e1
/-- an end of a range -/
def rgOk (j : Int) : Bool := decide (j.natAbs.log2 < 62)
theorem rgOk_ok {j : Int} (h : rgOk j = true) : j < 2 ^ 62 ∧ -(2 ^ 62) ≤ j := by
  have h1 : j.natAbs.log2 < 62 := of_decide_eq_true h
  by_cases z : j.natAbs = 0
  · omega
  · have h2 := (Nat.log2_lt z).mp h1
    omega
def rgD (lo : Int) (n : Nat) : List D := (List.range n).map fun i : Nat => D.int (lo + (i : Int))
def diR1 (da : Ev → RE (List X)) : Ev → RE Dn.Its := fun env => (da env).bind fun xs e1 => match rds e1 xs with
  | some [.int j] => if rgOk j = true then .ok (rgD 0 j.toNat, none) e1 else .bad
  | _ => .bad
/-- over a list, a tuple, a text -/
def iSeq (K : Fg) (te : TE) : TI := fun σ H R => te σ H fun x H1 => (∃ a xs, x = V.ref a ∧ SqL K H1 a xs ∧ R (Itl K a) H1) ∨ (∃ a xs, x = V.ref a ∧ SqT K H1 a xs ∧ R (Itt K a) H1) ∨ ∃ z, x = V.str z ∧ R (L2.Its z) H1
theorem pi_seq {X : Cx} {tg e : Expr} {te : TE} (he : PE X e te) : PI X tg e (iSeq X.K te) := by
  refine ⟨fun pins s σ H R I h => ?_⟩
  refine thn (he.run pins s σ H _ I h) fun v s1 ⟨y, H1, I1, r1, q1⟩ => ?_
  rcases q1 with ⟨a, xs, rfl, hq, q⟩ | ⟨a, xs, rfl, hq, q⟩ | ⟨x, rfl, q⟩
  · cases r1
    obtain ⟨its, rv, p, hz⟩ := I1.list hq
    refine wpAny_pyIter_list p.isList ?_
    refine ⟨s1.heap.objs.size, [s1.heap.objs.size], _, _, H1, rfl, I1.kept (t' := s1.toks) fun b o e => Heap.get?_push_of_some _ e, turn_list a _, ⟨_, Heap.get?_push_size _ rfl, rfl, rfl⟩, fun b hb => ?_, q⟩
    have e : b = s1.heap.objs.size := by simpa using hb
    subst e
    exact I1.fpOk (Nat.le_refl _) (I1.hok.fresh (Nat.le_refl _))
  · cases r1
    obtain ⟨its, rv, p, hz⟩ := I1.tuple hq
    refine wpAny_pyIter_tuple (show s1.heap.IsTuple a its.toArray from p) ?_
    refine ⟨s1.heap.objs.size, [s1.heap.objs.size], _, _, H1, rfl, I1.kept (t' := s1.toks) fun b o e => Heap.get?_push_of_some _ e, turn_tuple a _, ⟨_, Heap.get?_push_size _ rfl, rfl, rfl⟩, fun b hb => ?_, q⟩
    have e : b = s1.heap.objs.size := by simpa using hb
    subst e
    exact I1.fpOk (Nat.le_refl _) (I1.hok.fresh (Nat.le_refl _))
  · obtain ⟨t, rfl⟩ := r1
    cases ha : x.cps.all (· < 128)
    · exact wpAny_pyIter_wide ha (pi_one (tk := s1.toks) I1 _ (turn_str _ x t "str_iterator" (.inr rfl)) ⟨_, Heap.get?_push_size _ rfl, rfl, rfl⟩ q)
    · exact wpAny_pyIter_ascii ha (pi_one (tk := s1.toks) I1 _ (turn_str _ x t "str_ascii_iterator" (.inl rfl)) ⟨_, Heap.get?_push_size _ rfl, rfl, rfl⟩ q)
section
variable {K : Fg} [WD K] {W : WS} {M M' M1 M2 : Hp} {env env' env1 env2 : Ev} {σ σ' σ1 : L2.St} {H H' H1 H2 : Hp} {x y : X} {v u : V} {te : TE} {de : Ev → RE X} {ta : TA} {da : Ev → RE (List X)}
theorem it_seqL {a : Addr} {vs : List V} {xs : List D} {as : List Addr} (r : Reps K M xs vs) (src : ∀ M2 H2, Same M M2 → Same M2 H2 → (∀ b ∈ as, ∀ o, H b = some o → H2 b = some o) → SqL K H2 a vs) : ItOk K (Itl K a) as M H xs where
  go := fun M2 H2 i d q e1 e2 f => by
    obtain ⟨v, h1, h2⟩ := r.get q
    have s := src M2 H2 e1 e2 f
    refine ⟨⟨vs, v, s, h1⟩, fun w H3 hy => ?_⟩
    obtain ⟨rfl, hy⟩ := hy
    have e : w = v := Option.some.inj ((hy vs s).symm.trans h1)
    subst e
    exact ⟨M2, Ext.refl e2, Rep.mono e1 _ _ h2⟩
  stop := fun M2 H2 e1 e2 f => ⟨vs, src M2 H2 e1 e2 f, by rw [r.length]; exact Nat.le_refl _⟩
theorem it_seqT {a : Addr} {vs : List V} {xs : List D} (r : Reps K M xs vs) (h : SqT K M a vs) : ItOk K (Itt K a) [] M H xs where
  go := fun M2 H2 i d q e1 e2 f => by
    obtain ⟨v, h1, h2⟩ := r.get q
    have s : SqT K H2 a vs := sqT_mono (e1.trans e2) h
    refine ⟨⟨vs, v, s, h1⟩, fun w H3 hy => ?_⟩
    obtain ⟨rfl, hy⟩ := hy
    have e : w = v := Option.some.inj ((hy vs s).symm.trans h1)
    subst e
    exact ⟨M2, Ext.refl e2, Rep.mono e1 _ _ h2⟩
  stop := fun M2 H2 e1 e2 f => ⟨vs, sqT_mono (e1.trans e2) h, by rw [r.length]; exact Nat.le_refl _⟩
theorem it_str {z : Str} : ItOk K (L2.Its z) [] M H (z.cps.toList.map fun c => D.str ⟨#[c]⟩) where
  go := fun M2 H2 i d q e1 e2 f => by
    rw [List.getElem?_map] at q
    obtain ⟨c, h1, rfl⟩ := Option.map_eq_some_iff.mp q
    have h2 : z.cps[i]? = some c := by simpa using h1
    refine ⟨(Array.getElem?_eq_some_iff.mp h2).1, fun w H3 hy => ?_⟩
    obtain ⟨rfl, c', h3, rfl⟩ := hy
    rw [h2] at h3
    cases h3
    exact ⟨M2, Ext.refl e2, rep_str⟩
  stop := fun M2 H2 e1 e2 f => by show z.cps.size ≤ _; simp
theorem it_rg {lo : Int} {n : Nat} : ItOk K (Itr lo n) [] M H (rgD lo n) where
  go := fun M2 H2 i d q e1 e2 f => by
    unfold rgD at q
    rw [List.getElem?_map] at q
    obtain ⟨c, h1, rfl⟩ := Option.map_eq_some_iff.mp q
    have hi : i < n := by
      have := (List.getElem?_eq_some_iff.mp h1).1
      simpa using this
    have hc : c = i := by
      rw [List.getElem?_range hi] at h1
      exact (Option.some.inj h1).symm
    subst hc
    refine ⟨hi, fun w H3 hy => ?_⟩
    obtain ⟨rfl, rfl⟩ := hy
    exact ⟨M2, Ext.refl e2, rep_int⟩
  stop := fun M2 H2 e1 e2 f => by show n ≤ _; unfold rgD; simp
theorem reps_ints : ∀ ns : List Int, Reps K M (ns.map D.int) (ns.map V.int)
  | [] => Reps.nil
  | n :: ns => Reps.cons rep_int (reps_ints ns)
theorem ofX_sl {j : Nat} {p : Bool} {o : OD} (e : env[j]? = some (Sl.ow p o)) : ofX env (.sl j) = match o with
      | .lst xs => some (xs, some j)
      | _ => none := by
  unfold ofX
  simp only [e]
  cases o <;> rfl
theorem di_seq (h : DE K W te de) : DI K W (iSeq K te) (diSeq de) := fun M σ H env hh => by
  refine Sat.bind (c := fun v H1 (R : It → Hp → Prop) => (∃ a xs, v = V.ref a ∧ SqL K H1 a xs ∧ R (Itl K a) H1) ∨ (∃ a xs, v = V.ref a ∧ SqT K H1 a xs ∧ R (Itt K a) H1) ∨ ∃ z, v = V.str z ∧ R (L2.Its z) H1) back_i hh (h M σ H env hh) (fun Q q => q) fun M1 H1 env1 x v g1 s1 hh1 r1 => ?_
  obtain ⟨r, n⟩ := r1
  cases x with
  | im d =>
    cases d with
    | lst xs =>
      refine fun Q k => ?_
      simp only [RepX, Rep] at r
      obtain ⟨a, vs, rfl, h1, h2⟩ := r
      exact .inl ⟨a, vs, rfl, SqL.of (hh1.ex _ _ h1), k _ M1 H1 .refl (.refl _) hh1 ⟨[], (fun a z => nomatch z), it_seqL h2 fun M2 H2 e1 e2 f => SqL.of (e2 _ _ (e1 _ _ h1)), (fun j z => nomatch z)⟩⟩
    | tup xs =>
      refine fun Q k => ?_
      simp only [RepX, Rep] at r
      obtain ⟨a, vs, rfl, h1, h2⟩ := r
      exact .inr (.inl ⟨a, vs, rfl, sqT_mono hh1.ex h1.t, k _ M1 H1 .refl (.refl _) hh1 ⟨[], (fun a z => nomatch z), it_seqT h2 h1.t, (fun j z => nomatch z)⟩⟩)
    | tupW xs =>
      refine fun Q k => ?_
      simp only [RepX, Rep] at r
      obtain ⟨a, vs, rfl, h1, h2⟩ := r
      exact .inr (.inl ⟨a, vs, rfl, sqT_mono hh1.ex h1, k _ M1 H1 .refl (.refl _) hh1 ⟨[], (fun a z => nomatch z), it_seqT h2 h1, (fun j z => nomatch z)⟩⟩)
    | scr ns =>
      refine fun Q k => ?_
      simp only [RepX, Rep] at r
      obtain ⟨a, rfl, h1⟩ := r
      have rr : Reps K M1 (ns.map D.int) (ns.map V.int) := by
        exact reps_ints ns
      exact .inl ⟨a, _, rfl, hh1.ex.seq h1, k _ M1 H1 .refl (.refl _) hh1 ⟨[], (fun a z => nomatch z), it_seqL rr fun M2 H2 e1 e2 f => (e1.trans e2).seq h1, (fun j z => nomatch z)⟩⟩
    | str z =>
      refine fun Q k => ?_
      have hv : v = .str z := by simpa [RepX, Rep] using r
      exact .inr (.inr ⟨z, hv, k _ M1 H1 .refl (.refl _) hh1 ⟨[], (fun a z => nomatch z), it_str, (fun j z => nomatch z)⟩⟩)
    | non => trivial
    | bl _ => trivial
    | int _ => trivial
    | obj _ _ => trivial
    | ty _ => trivial
    | cls _ => trivial
    | exn _ _ => trivial
    | dk _ => trivial
    | dt _ => trivial
  | ow o =>
    cases o with
    | lst xs =>
      refine fun Q k => ?_
      obtain ⟨a, rfl, ⟨vs, h1, h2⟩, m, no⟩ := r
      exact .inl ⟨a, vs, rfl, SqL.of h1, k _ M1 H1 .refl (.refl _) hh1 ⟨[a], fun b hb => by
        have : b = a := by simpa using hb
        subst this
        exact ⟨no, _, h1⟩, it_seqL h2 fun M2 H2 e1 e2 f => SqL.of (f a (by simp) _ h1), (fun j z => nomatch z)⟩⟩
    | ob _ _ => trivial
    | dk _ => trivial
    | dt _ => trivial
  | sl j =>
    obtain ⟨⟨p, o, e1⟩, e2⟩ := r
    show Sat K W M1 σ H1 env1 (opt (ofX env1 (.sl j)) env1) (RI K σ) _
    rw [ofX_sl e1]
    cases o with
    | lst xs =>
      refine fun Q k => ?_
      obtain ⟨a, e4, ⟨vs, h1, h2⟩, m⟩ := hh1.slot j _ e1
      rw [e2] at e4
      cases e4
      exact .inl ⟨a, vs, rfl, SqL.of h1, k _ M1 H1 .refl (.refl _) hh1 ⟨[a], fun b hb => by
        have : b = a := by simpa using hb
        subst this
        refine ⟨fun z => ?_, _, h1⟩
        obtain ⟨i, p2, o2, hi, q1, q2⟩ := hide_own z
        exact hh1.dj i j _ p2 o2 p _ hi q1 e1 q2 e2, it_seqL h2 fun M2 H2 e1 e2 f => SqL.of (f a (by simp) _ h1), fun i z => by cases z; exact ⟨p, _, e1⟩⟩⟩
    | ob _ _ => trivial
    | dk _ => trivial
    | dt _ => trivial
theorem rds1 {xs : List X} {vs : List V} {i : Int} (hh : Holds K M env σ H) (r : RepXs K M H env σ xs vs) (e : rds env xs = some [.int i]) : vs = [.int i] := by
  have := rds_ok hh r e
  cases this with
  | cons a b =>
    cases b
    rw [a.int]
theorem di_r1 (h : DA K W ta da) : DI K W (iRng1 ta) (diR1 da) := fun M σ H env hh => by
  refine Sat.bind (c := fun vs H1 (R : It → Hp → Prop) => ∃ j : Int, vs = [V.int j] ∧ -(2 ^ 62) ≤ j ∧ j < 2 ^ 62 ∧ R (Itr 0 j.toNat) H1) back_i hh (h M σ H env hh) (fun Q q => q) fun M1 H1 env1 x v g1 s1 hh1 r1 => ?_
  split
  · rename_i j e
    split
    · rename_i hb
      exact fun Q k => ⟨j, rds1 hh1 (ra_x r1) e, (rgOk_ok hb).2, (rgOk_ok hb).1, k _ M1 H1 .refl (.refl _) hh1 ⟨[], (fun a z => nomatch z), it_rg, (fun j z => nomatch z)⟩⟩
    · trivial
  · trivial
def pLen : List D → Option X
  | [.lst xs] => some (.im (.int xs.length))
  | [.tup xs] => some (.im (.int xs.length))
  | [.scr xs] => some (.im (.int xs.length))
  | [.str z] => if fit z.length then some (.im (.int z.length)) else none
  | _ => none
abbrev rLenU (K : Fg) : List V → Hp → VK → Prop := fun xs H Q => (∃ p ys, xs = [.ref p] ∧ (SqL K H p ys ∨ SqT K H p ys) ∧ Q (.int ys.length) H) ∨ ∃ z, xs = [.str z] ∧ z.length ≤ sizeLine ∧ Q (.int z.length) H
theorem call_lenU {X : Cx} : CallR X (.builtin "len") (rLenU X.K) := call_len_seq.or call_len_str
theorem one_rd {d : D} {vs : List V} (r : Paired (Rd2 K M H) [d] vs) : ∃ v, vs = [v] ∧ Rd2 K M H d v := by
  cases r with
  | cons a b => cases b; exact ⟨_, rfl, a⟩
theorem ok_len : CallOk K (rLenU K) pLen := by
  intro M H ds x vs e r hf Q q
  unfold pLen at hf
  split at hf
  · cases hf
    obtain ⟨v, rfl, h⟩ := one_rd r
    obtain ⟨a, us, rfl, h1, h2⟩ := h.lst e
    rw [h2.length] at q
    exact .inl ⟨a, us, rfl, .inl (SqL.of h1), q.im0 e rep_int⟩
  · cases hf
    obtain ⟨v, rfl, h⟩ := one_rd r
    obtain ⟨a, us, rfl, h1, h2⟩ := h.tup e
    rw [h2.length] at q
    exact .inl ⟨a, us, rfl, .inr h1, q.im0 e rep_int⟩
  · cases hf
    obtain ⟨v, rfl, h⟩ := one_rd r
    obtain ⟨a, rfl, h1⟩ := h.scr e
    refine .inl ⟨a, _, rfl, .inl h1, ?_⟩
    rw [List.length_map]
    exact q.im0 e rep_int
  · split at hf
    · rename_i hz
      cases hf
      obtain ⟨v, rfl, h⟩ := one_rd r
      rw [h.str]
      exact .inr ⟨_, rfl, fit_ok hz, q.im0 e rep_int⟩
    · cases hf
  · cases hf
def pInt : List D → Option X
  | [.int i] => some (.im (.int i))
  | [.bl b] => some (.im (.int (if b then 1 else 0)))
  | _ => none
theorem ok_int : CallOk K (fun xs H Q => (∃ i, xs = [.int i] ∧ Q (.int i) H) ∨ ∃ k, xs = [.bl k] ∧ Q (.int (if k then 1 else 0)) H) pInt := by
  intro M H ds x vs e r hf Q q
  unfold pInt at hf
  split at hf
  · cases hf
    obtain ⟨v, rfl, h⟩ := one_rd r
    rw [h.int]
    exact .inl ⟨_, rfl, q.im0 e rep_int⟩
  · cases hf
    obtain ⟨v, rfl, h⟩ := one_rd r
    rw [h.bl]
    exact .inr ⟨_, rfl, q.im0 e rep_int⟩
  · cases hf
def pTuple : List D → Option X
  | [.lst xs] => some (.im (.tup xs))
  | [.tup xs] => some (.im (.tup xs))
  | _ => none
abbrev rTupleU (K : Fg) : List V → Hp → VK → Prop := fun xs H Q => ∃ p ys, xs = [.ref p] ∧ ((SqL K H p ys ∧ ∀ l (o : Obj), H l = none → o.dict = none → Q (.ref l) (upd H l (.frz o (.tup ys)))) ∨ (SqT K H p ys ∧ Q (.ref p) H))
theorem call_tupleU {X : Cx} : CallR X (.type "tuple") (rTupleU X.K) := by
  intro pins s σ H xs us Q I r h
  obtain ⟨p, ys, rfl, h⟩ := h
  obtain ⟨u, rfl, rx⟩ := vals1 r
  cases rx
  rcases h with ⟨hq, q⟩ | ⟨hq, q⟩
  · obtain ⟨its, r', pl, hz⟩ := I.list hq
    have hlen := r'.length
    refine call_tuple_list pl.isList (fun h' kp => ?_) (by simp only [List.size_toArray] <;> omega)
    have I1 : Inv X pins σ H { s with heap := h' } := I.kept (t' := s.toks) kp
    exact ⟨.ref h'.objs.size, _, I1.newTup r' hz, rfl, q _ _ (I1.hok.fresh (Nat.le_refl _)) rfl⟩
  · obtain ⟨its, _, p1, _⟩ := I.tuple hq
    exact call_tuple_same (items := its.toArray) p1 ⟨.ref p, H, I, rfl, q⟩
theorem ok_tuple : CallOk K (rTupleU K) pTuple := by
  intro M H ds x vs e r hf Q q
  unfold pTuple at hf
  split at hf
  · cases hf
    obtain ⟨v, rfl, h⟩ := one_rd r
    obtain ⟨a, us, rfl, h1, h2⟩ := h.lst e
    exact ⟨a, us, rfl, .inl ⟨SqL.of h1, fun l o n hd => q.tup e h2 n hd⟩⟩
  · cases hf
    obtain ⟨v, rfl, h⟩ := one_rd r
    have hr := h.tupR
    obtain ⟨a, us, rfl, h1, h2⟩ := h.tup e
    exact ⟨a, us, rfl, .inr ⟨h1, q.im0 e hr⟩⟩
  · cases hf
def pList : List D → Option X
  | [.lst xs] => some (.ow (.lst xs))
  | [.tup xs] => some (.ow (.lst xs))
  | [.str z] => if fit z.length then some (.ow (.lst (z.cps.toList.map fun c => D.str ⟨#[c]⟩))) else none
  | _ => none
abbrev rListU (K : Fg) : List V → Hp → VK → Prop := fun xs H Q => (∃ p ys, xs = [.ref p] ∧ (SqL K H p ys ∨ SqT K H p ys) ∧ ∀ l, H l = none → Q (.ref l) (upd H l (.lst ys))) ∨
  ∃ z, xs = [.str z] ∧ z.length ≤ sizeLine ∧ ∀ l, H l = none → Q (.ref l) (upd H l (.lst (z.cps.toList.map fun c => V.str ⟨#[c]⟩)))
theorem signs_vals {z : Str} {acc : Array Value} (h : ItemsOf (SignAt z) acc z.cps.size) : Vals (z.cps.toList.map fun c => V.str ⟨#[c]⟩) acc.toList := by
  obtain ⟨h1, h2⟩ := h
  have key : ∀ (cs : List Nat) (us : List Value), cs.length = us.length → (∀ (i : Nat) (c : Nat) (u : Value), cs[i]? = some c → us[i]? = some u → RelV (V.str ⟨#[c]⟩) u) → Vals (cs.map fun c => V.str ⟨#[c]⟩) us := by
    intro cs
    induction cs with
    | nil =>
      intro us hl _
      cases us with
      | nil => exact .nil
      | cons u us => simp at hl
    | cons c cs ih =>
      intro us hl hv
      cases us with
      | nil => simp at hl
      | cons u us => exact .cons (hv 0 c u rfl rfl) (ih us (by simpa using hl) fun i c u a b => hv (i + 1) c u (by simpa using a) (by simpa using b))
  refine key _ _ (by simpa using h1.symm) fun i c u a b => ?_
  have hi : i < z.cps.size := by
    have := (List.getElem?_eq_some_iff.mp a).1
    simpa using this
  obtain ⟨c', t, e1, e2⟩ := h2 i u (by simpa using b)
  have a' : z.cps[i]? = some c := by simpa using a
  rw [a'] at e1
  cases e1
  exact ⟨t, e2⟩
theorem call_listS {X : Cx} (hc : X.calm = true) : CallR X (.type "list") (fun xs H Q => ∃ z, xs = [.str z] ∧ z.length ≤ sizeLine ∧ ∀ l, H l = none → Q (.ref l) (upd H l (.lst (z.cps.toList.map fun c => V.str ⟨#[c]⟩)))) := by
  intro pins s σ H xs us Q I r h
  obtain ⟨z, rfl, hz, q⟩ := h
  obtain ⟨u, rfl, t, rfl⟩ := vals1 r
  refine call_list_str (I.ok.hd hc) z t (fun h' tk acc c k e it => ?_) hz
  have new : ObjOk X.prog X.w (upd H s.heap.objs.size (.lst (z.cps.toList.map fun c => V.str ⟨#[c]⟩))) h' s.heap.objs.size (.lst (z.cps.toList.map fun c => V.str ⟨#[c]⟩)) :=
    ⟨by rw [List.length_map, Array.length_toList]; exact hz, acc.toList, c, signs_vals it, by simpa using e⟩
  exact ⟨.ref _, _, I.laid (t' := tk) k (Nat.le_refl _) new, rfl, q _ I.fresh⟩
theorem call_listU {X : Cx} (hc : X.calm = true) : CallR X (.type "list") (rListU X.K) := call_list_of.or (call_listS hc)
theorem reps_signs {cs : List Nat} : Reps K M (cs.map fun c => D.str ⟨#[c]⟩) (cs.map fun c => V.str ⟨#[c]⟩) := by
  induction cs with
  | nil => exact Reps.nil
  | cons c cs ih => exact Reps.cons rep_str ih
theorem ok_list : CallOk K (rListU K) pList := by
  intro M H ds x vs e r hf Q q
  unfold pList at hf
  split at hf
  · cases hf
    obtain ⟨v, rfl, h⟩ := one_rd r
    obtain ⟨a, us, rfl, h1, h2⟩ := h.lst e
    exact .inl ⟨a, us, rfl, .inl (SqL.of h1), fun l n => q.lst e h2 n⟩
  · cases hf
    obtain ⟨v, rfl, h⟩ := one_rd r
    obtain ⟨a, us, rfl, h1, h2⟩ := h.tup e
    exact .inl ⟨a, us, rfl, .inr h1, fun l n => q.lst e h2 n⟩
  · split at hf
    · rename_i hz
      cases hf
      obtain ⟨v, rfl, h⟩ := one_rd r
      rw [h.str]
      exact .inr ⟨_, rfl, fit_ok hz, fun l n => q.lst e reps_signs n⟩
    · cases hf
  · cases hf
def D.tyN : D → Option String
  | .non => some "NoneType"
  | .bl _ => some "bool"
  | .int _ => some "int"
  | .str _ => some "str"
  | .tup _ => some "tuple"
  | .lst _ => some "list"
  | .scr _ => some "list"
  | _ => none
def pIsi : List D → Option X
  | [d, .ty n] => (d.tyN.bind fun t => L2.kitB t n).map fun b => .im (.bl b)
  | _ => none
theorem ty_rd {d : D} {t : String} {v : V} (s : Same M H) (h : Rd2 K M H d v) (e : d.tyN = some t) : TyX K H v (.type t) := by
  cases d with
  | non => cases e; rw [h.non]; exact .base .non
  | bl b => cases e; rw [h.bl]; exact .base (.bl b)
  | int i => cases e; rw [h.int]; exact .base (.int i)
  | str i => cases e; rw [h.str]; exact .base (.str i)
  | tup xs =>
    cases e
    obtain ⟨a, us, rfl, h1, h2⟩ := h.tup s
    rcases h1 with (h1 | ⟨o, h1⟩) | ⟨o, its, n, h1, h2, _⟩
    · exact .base (.tup h1)
    · exact .fTuple h1
    · exact .kTuple h1 h2
  | lst xs =>
    cases e
    obtain ⟨a, us, rfl, h1, h2⟩ := h.lst s
    exact .base (.lst h1)
  | scr xs =>
    cases e
    obtain ⟨a, rfl, h1⟩ := h.scr s
    rcases h1 with (h1 | ⟨o, h1⟩) | ⟨o, its, n, h1, h2, _⟩
    · exact .base (.lst h1)
    · exact .base (.frz h1)
    · exact .kList h1 h2
  | _ => cases e
theorem ok_isi : CallOk K (rIsi K) pIsi := by
  intro M H ds x vs e r hf Q q
  unfold pIsi at hf
  split at hf
  · rename_i d n
    obtain ⟨b, h1, rfl⟩ := Option.map_eq_some_iff.mp hf
    obtain ⟨t, h2, h3⟩ := Option.bind_eq_some_iff.mp h1
    cases r with
    | cons a r =>
      cases r with
      | cons a2 r =>
        cases r
        rw [a2.ty]
        exact ⟨_, _, .type t, .type n, b, rfl, .ty n, ty_rd e a h2, kit_ty h3, q.im0 e rep_bl⟩
  · cases hf
theorem de_ty {n : String} : DE K W (tC (.ty n)) (dC (.ty n)) := de_c _ _ fun M => by simp [Rep]
theorem own_write {i : Nat} {p : Bool} {o o' : OD} {l : Addr} {ho : HO} (hh : Holds K M env σ H) (e : env[i]? = some (Sl.ow p o)) (es : σ[i]? = some (some (V.ref l))) (a : At K M (upd H l ho) l o') :
    Holds K M (env.set i (.ow p o')) σ (upd H l ho) ∧ Grow M env σ H M (env.set i (.ow p o')) σ (upd H l ho) ∧ Shape env (env.set i (.ow p o')) := by
  have hi : i < env.length := (List.getElem?_eq_some_iff.mp e).1
  obtain ⟨l', e1, a1, m1⟩ := hh.slot i _ e
  rw [es] at e1
  cases e1
  obtain ⟨u0, hu0⟩ := a1.there
  have shp : Shape env (env.set i (.ow p o')) := by
    show List.map Sl.kind (env.set i (.ow p o')) = env.map Sl.kind
    apply List.ext_getElem?
    intro j
    rw [List.getElem?_map, List.getElem?_map]
    by_cases hj : j = i
    · subst hj
      rw [List.getElem?_set_self hi, e]
      rfl
    · rw [List.getElem?_set_ne (Ne.symm hj)]
  have ow : ∀ l2, Own (env.set i (.ow p o')) σ l2 → Own env σ l2 := fun l2 z => own_shape shp z
  refine ⟨⟨fun b u q => ?_, by rw [List.length_set]; exact hh.len, fun j s q => ?_, fun j k l2 p1 o1 p2 o2 hjk q1 q2 q3 q4 => ?_⟩, ⟨Same.refl M, fun l2 u q n => ?_, fun _ _ z => .inl z, fun l2 z => .inl (ow l2 z), fun j s q pn => ⟨rfl, ?_⟩, fun l2 z => ?_, by rw [List.length_set]⟩, shp⟩
  · have : b ≠ l := fun z => by subst z; rw [m1] at q; cases q
    rw [upd_ne this]
    exact hh.ex b u q
  · by_cases hj : j = i
    · subst hj
      rw [List.getElem?_set_self hi] at q
      cases q
      exact ⟨l, es, a, m1⟩
    · rw [List.getElem?_set_ne (Ne.symm hj)] at q
      have := hh.slot j s q
      cases s with
      | no => trivial
      | hid => trivial
      | im d => exact this
      | ow p2 o2 =>
        obtain ⟨l2, e2, a2, m2⟩ := this
        have hne : l2 ≠ l := fun z => hh.dj j i l p2 o2 p o hj q e (z ▸ e2) es
        exact ⟨l2, e2, a2.mono (Same.refl M) fun u z => by rw [upd_ne hne]; exact z, m2⟩
  · have f : ∀ (j : Nat) (p1 : Bool) (o1 : OD), (env.set i (.ow p o'))[j]? = some (Sl.ow p1 o1) → ∃ o3, env[j]? = some (Sl.ow p1 o3) := fun j p1 o1 q => (show Shape (env.set i (.ow p o')) env from Eq.symm shp).ow q
    obtain ⟨o3, h1⟩ := f j p1 o1 q1
    obtain ⟨o4, h2⟩ := f k p2 o2 q2
    exact hh.dj j k l2 p1 o3 p2 o4 hjk h1 h2 q3 q4
  · have : l2 ≠ l := fun z => n ⟨i, p, o, e, z ▸ es⟩
    rw [upd_ne this]
    exact q
  · have := congrArg (fun l => l[j]?) (show (env.set i (.ow p o')).map Sl.kind = env.map Sl.kind from shp)
    simp only [List.getElem?_map] at this
    rw [q] at this
    obtain ⟨s', e1, e2⟩ := Option.map_eq_some_iff.mp this
    exact ⟨s', e1, e2⟩
  · by_cases hz : l2 = l
    · subst hz; rw [upd_same] at z; cases z
    · rw [upd_ne hz] at z; exact z
/-- a method that changes a slot's object -/
def slotOf (env : Ev) (i : Nat) : Option (Bool × OD) := match env[i]? with
  | some (.ow p o) => some (p, o)
  | _ => none
theorem slotOf_ok {i : Nat} {p : Bool} {o : OD} (h : slotOf env i = some (p, o)) : env[i]? = some (Sl.ow p o) := by
  unfold slotOf at h
  split at h
  · cases h; assumption
  · cases h
def optE (o : Option (X × Ev)) : RE X := match o with
  | some r => .ok r.1 r.2
  | none => .bad
def OD.isL : OD → Bool
  | .lst _ => true
  | _ => false
def dMut (i : Nat) (isT : OD → Bool) (f : OD → List D → Option (D × OD)) (da : Ev → RE (List X)) : Ev → RE X := fun env => if ((slotOf env i).map fun r => isT r.2) = some true then (da env).bind fun xs e1 => optE ((frzs xs).bind fun ds => (slotOf e1 i).bind fun po => (f po.2 ds).bind fun r => some (X.im r.1, e1.set i (.ow po.1 r.2))) else .bad
def MutOk (K : Fg) [WD K] (r : V → List V → Hp → VK → Prop) (f : OD → List D → Option (D × OD)) : Prop := ∀ M H l o ds vs d o', Same M H → At K M H l o → M l = none → Reps K M ds vs → f o ds = some (d, o') → ∀ Q : VK, (∀ z ho, At K M (upd H l ho) l o' → Rep K M d z → Q z (upd H l ho)) → r (.ref l) vs H Q
def TyOk (K : Fg) [WD K] (T : String) (isT : OD → Bool) : Prop := ∀ M H l o, At K M H l o → isT o = true → tyV K T (.ref l) H
theorem tyOk_lst : TyOk K "list" OD.isL := fun M H l o a e => by
  cases o with
  | lst xs => obtain ⟨vs, h, _⟩ := a; exact .inl ⟨rfl, vs, SqL.of h⟩
  | _ => cases e
theorem de_mut_core {i : Nat} {T : String} {isT : OD → Bool} {r : V → List V → Hp → VK → Prop} {f : OD → List D → Option (D × OD)} {t : L2.St → Hp → VK → Prop} (hT : TyOk K T isT) (hr : MutOk K r f) (ha : DA K W ta da)
    (ht : ∀ σ H Q v, σ[i]? = some (some v) → tyV K T v H → ta σ H (fun xs H2 => r v xs H2 Q) → t σ H Q) : DE K W t (dMut i isT f da) := fun M σ H env hh => by
  have h1 := ha M σ H env hh
  unfold dMut
  by_cases hc : ((slotOf env i).map fun r => isT r.2) = some true
  · rw [if_pos hc]
    obtain ⟨⟨p0, o0⟩, q1, q2⟩ := Option.map_eq_some_iff.mp hc
    obtain ⟨l, es, a0, m0⟩ := hh.slot i _ (slotOf_ok q1)
    have ty := hT M H l o0 a0 q2
    cases e1 : da env with
    | bad => trivial
    | exc e env1 => rw [e1] at h1; exact fun Q k => ht σ H Q _ es ty (h1 _ k)
    | ok xs env1 =>
      rw [e1] at h1
      show Sat K W M σ H env (optE ((frzs xs).bind fun ds => (slotOf env1 i).bind fun po => (f po.2 ds).bind fun r => some (X.im r.1, env1.set i (.ow po.1 r.2)))) (RX K σ) _
      cases e2 : ((frzs xs).bind fun ds => (slotOf env1 i).bind fun po => (f po.2 ds).bind fun r => some (X.im r.1, env1.set i (.ow po.1 r.2))) with
      | none => trivial
      | some rr =>
        obtain ⟨ds, t1, e3⟩ := Option.bind_eq_some_iff.mp e2
        obtain ⟨⟨p, o⟩, t2, e4⟩ := Option.bind_eq_some_iff.mp e3
        obtain ⟨⟨d, o'⟩, t3, e5⟩ := Option.bind_eq_some_iff.mp e4
        cases e5
        refine fun Q k => ht σ H Q _ es ty (h1 _ fun vs M1 H1 g s hh1 r1 => ?_)
        have g2 := frzM_grow g
        have hh2 := frzM_holds (H := H) hh1
        have rs := frzs_rep r1 t1
        obtain ⟨l', es', a', m'⟩ := hh2.slot i _ (slotOf_ok t2)
        rw [es] at es'
        cases es'
        refine hr _ H1 l o ds vs d o' hh2.ex a' m' rs t3 Q fun z ho az rz => ?_
        obtain ⟨w1, w2, w3⟩ := own_write hh2 (slotOf_ok t2) es az
        exact k z _ _ (g2.trans hh w2) (s.trans w3) w1 (rx_im rz)
  · rw [if_neg hc]
    trivial
theorem de_mut {i : Nat} {T : String} {isT : OD → Bool} {r : V → List V → Hp → VK → Prop} {f : OD → List D → Option (D × OD)} (hT : TyOk K T isT) (hr : MutOk K r f) (ha : DA K W ta da) : DE K W (tBM K T r (tVar i) ta) (dMut i isT f da) :=
  de_mut_core (t := tBM K T r (tVar i) ta) hT hr ha fun σ H Q v e ty q => ⟨v, e, ty, q⟩
def mApp : OD → List D → Option (D × OD)
  | .lst xs, [d] => if fit (xs.length + 1) then some (.non, .lst (xs ++ [d])) else none
  | _, _ => none
def mPopAt : OD → List D → Option (D × OD)
  | .lst xs, [.int k] => if 0 ≤ k ∧ k < xs.length ∧ rgOk k = true then (xs[k.toNat]?).map fun d => (d, .lst (xs.eraseIdx k.toNat)) else none
  | _, _ => none
theorem reps_one {d : D} {vs : List V} (r : Reps K M [d] vs) : ∃ v, vs = [v] ∧ Rep K M d v := by
  simp only [Reps] at r
  obtain ⟨v, r', rfl, h, rfl⟩ := r
  exact ⟨v, rfl, h⟩
theorem lst_len (h : Reps K M xs vs) (f : fit (xs.length + 1) = true) : vs.length < sizeLine := by
  have := fit_ok f
  have := h.length
  omega
theorem ok_app : MutOk K rAppend mApp := by
  intro M H l o ds vs d o' e a m r hf Q k
  unfold mApp at hf
  split at hf
  · split at hf
    · rename_i hz
      cases hf
      obtain ⟨v, rfl, h⟩ := reps_one r
      obtain ⟨us, h1, h2⟩ := a
      exact ⟨l, us, v, rfl, rfl, h1, lst_len h2 hz, k _ _ ⟨us ++ [v], upd_same, h2.append (Reps.cons h Reps.nil)⟩ rep_non⟩
    · cases hf
  · cases hf
theorem ok_popAt : MutOk K rPopAt mPopAt := by
  intro M H l o ds vs d o' e a m r hf Q k
  unfold mPopAt at hf
  split at hf
  · rename_i xs i
    split at hf
    · rename_i hz
      have hz2 := rgOk_ok hz.2.2
      obtain ⟨d', h0, h1⟩ := Option.map_eq_some_iff.mp hf
      cases h1
      obtain ⟨v, rfl, h⟩ := reps_one r
      have hv : v = .int i := by simpa [Rep] using h
      subst hv
      obtain ⟨us, h1, h2⟩ := a
      obtain ⟨u, h3, h4⟩ := h2.get h0
      have hl := h2.length
      have lim : sizeLine = 16777216 := sizeLine_eq
      have hi : i.toNat < us.length := (List.getElem?_eq_some_iff.mp h3).1
      have e2 : seqIndex? i us.length = some i.toNat := by
        obtain ⟨e3, _⟩ := ixN_seq (n := us.length) (i := i) (j := i.toNat) (by unfold ixN; rw [if_pos hz.1, if_pos (by omega)])
        exact e3
      exact ⟨l, us, i, i.toNat, u, rfl, rfl, h1, by omega, by omega, e2, h3, k _ _ ⟨_, upd_same, h2.eraseIdx _⟩ h4⟩
    · cases hf
  · cases hf
/-- an expression in the middle -/
theorem Sat.stmB {α β : Type} {r : RE α} {R : Hp → Hp → Hp → Ev → α → β → Prop} {f : α → Ev → RS} {t : (β → Hp → Prop) → Prop} {t' : Ends → Prop} {c : β → Hp → Ends → Prop} (hh : Holds K M env σ H) (g1 : Grow M env σ H M1 env1 σ H1) (h : Sat K W M1 σ H1 env1 r R t)
    (ht : ∀ D, t (fun v H1 => c v H1 D) → t' D) (hf : ∀ M2 H2 env2 x v, Grow M1 env1 σ H1 M2 env2 σ H2 → Shape env1 env2 → Holds K M2 env2 σ H2 → R H1 M2 H2 env2 x v → SatS K W M σ H env (f x env2) (c v H2)) : SatS K W M σ H env (r.stm f) t' := by
  cases r with
  | bad => trivial
  | exc e env1 => exact fun D k => ht D (h _ fun cls d M' H' g s hh' r => k cls d σ M' H' (g1.trans hh g) hh' r)
  | ok x env1 =>
    show SatS K W M σ H env (f x env1) t'
    cases e2 : f x env1 with
    | bad => trivial
    | nx env' => exact fun D k => ht D (h _ fun v M' H' g s hh' r => (by have := hf M' H' env1 x v g s hh' r; rw [e2] at this; exact this D k))
    | bk env' => exact fun D k => ht D (h _ fun v M' H' g s hh' r => (by have := hf M' H' env1 x v g s hh' r; rw [e2] at this; exact this D k))
    | ct env' => exact fun D k => ht D (h _ fun v M' H' g s hh' r => (by have := hf M' H' env1 x v g s hh' r; rw [e2] at this; exact this D k))
    | rt y env' => exact fun D k => ht D (h _ fun v M' H' g s hh' r => (by have := hf M' H' env1 x v g s hh' r; rw [e2] at this; exact this D k))
    | exc e env' => exact fun D k => ht D (h _ fun v M' H' g s hh' r => (by have := hf M' H' env1 x v g s hh' r; rw [e2] at this; exact this D k))
/-- xs[k] = e -/
def setI (ds : List D) (po : Bool × OD) : Option OD := match ds, po.2 with
  | [d, .int k], .lst xs => (ixN xs.length k).map fun j => .lst (xs.set j d)
  | _, _ => none
def dSetI (i : Nat) (de dk : Ev → RE X) : Ev → RS := fun env => if (slotOf env i).isSome = true then (de env).stm fun y e1 => (dk e1).stm fun k e2 => optS ((frzs [y, k]).bind fun ds => (slotOf e2 i).bind fun po => (setI ds po).map fun o => e2.set i (.ow po.1 o)) else .bad
theorem ds_setI {i : Nat} {tk : TE} {dk : Ev → RE X} (h : DE K W te de) (hk : DE K W tk dk) : DS K W (tAsg te (gSub (tVar i) tk rSetL)) (dSetI i de dk) := fun M σ H env hh => by
  unfold dSetI
  by_cases hc : (slotOf env i).isSome = true
  · rw [if_pos hc]
    obtain ⟨⟨p0, o0⟩, q1⟩ := Option.isSome_iff_exists.mp hc
    obtain ⟨l, es, a0, m0⟩ := hh.slot i _ (slotOf_ok q1)
    refine Sat.stm (c := fun x H1 D => ∃ v, σ[i]? = some (some v) ∧ tk σ H1 fun k H2 => rSetL v k x H2 fun H3 => D.nx σ H3) hh (h M σ H env hh) (fun D q => q) fun M1 H1 env1 y x g1 s1 hh1 r1 => ?_
    refine Sat.stmB (c := fun k H2 D => rSetL (.ref l) k x H2 fun H3 => D.nx σ H3) hh g1 (hk M1 σ H1 env1 hh1) (fun D q => ⟨_, es, q⟩) fun M2 H2 env2 yk kv g2 s2 hh2 r2 => ?_
    cases e2 : ((frzs [y, yk]).bind fun ds => (slotOf env2 i).bind fun po => (setI ds po).map fun o => env2.set i (.ow po.1 o)) with
    | none => trivial
    | some env' =>
      obtain ⟨ds, t1, e3⟩ := Option.bind_eq_some_iff.mp e2
      obtain ⟨⟨p, o⟩, t2, e4⟩ := Option.bind_eq_some_iff.mp e3
      obtain ⟨o', t3, rfl⟩ := Option.map_eq_some_iff.mp e4
      refine fun D k => ?_
      have g := g1.trans hh g2
      have gz := frzM_grow g
      have hz := frzM_holds (H := H) hh2
      have ra : RA K σ H M2 H2 env2 [y, yk] [x, kv] := Paired.cons ⟨RepX.grow hh1 r1.1 g2 s2, r1.2⟩ (Paired.cons (back_x _ _ _ _ _ _ _ g1.dom r2) Paired.nil)
      have rs := frzs_rep ra t1
      obtain ⟨l', es', a', m'⟩ := hz.slot i _ (slotOf_ok t2)
      rw [es] at es'
      cases es'
      unfold setI at t3
      split at t3
      · rename_i d j xs0 eo
        obtain ⟨jj, t4, rfl⟩ := Option.map_eq_some_iff.mp t3
        have eo' : o = .lst xs0 := eo
        subst eo'
        simp only [Reps] at rs
        obtain ⟨x', r1', e9, hx, kk, r2', e8, hk2, e7⟩ := rs
        subst e7
        cases e8
        cases e9
        have ek : kv = .int j := by simpa [Rep] using hk2
        subst ek
        obtain ⟨us, h1, h2⟩ := a'
        have az : At K (frzM M2 H H2 env2 σ) (upd H2 l (.lst (us.set jj x))) l (.lst (xs0.set jj d)) := ⟨_, upd_same, h2.set hx jj⟩
        obtain ⟨w1, w2, w3⟩ := own_write hz (slotOf_ok t2) es az
        exact ⟨l, us, j, jj, rfl, rfl, h1, by rw [← h2.length]; exact t4, k σ _ _ (gz.trans hh w2) w1⟩
      · cases t3
  · rw [if_neg hc]
    trivial
/-- s.join(xs) -/
def textsD : List D → Option (List Str)
  | [] => some []
  | .str z :: xs => (textsD xs).map fun r => z :: r
  | _ => none
def pJoin : D → D → Option X
  | .str a, .lst xs => (textsD xs).bind fun ys => if fit ((ys.map (·.length)).sum + ys.length * a.length) = true then some (.im (.str (Txt.join a ys))) else none
  | .str a, .tup xs => (textsD xs).bind fun ys => if fit ((ys.map (·.length)).sum + ys.length * a.length) = true then some (.im (.str (Txt.join a ys))) else none
  | _, _ => none
def isS : D → Bool
  | .str _ => true
  | _ => false
def dM1 (f : D → D → Option X) (da db : Ev → RE X) : Ev → RE X := fun env => (da env).bind fun x e1 => if ((rd e1 x).map isS) = some true then (db e1).bind fun y e2 => opt ((rd e2 x).bind fun dx => (rd e2 y).bind fun dy => f dx dy) e2 else .bad
def M1Ok (K : Fg) [WD K] (r : V → List V → Hp → VK → Prop) (f : D → D → Option X) : Prop := ∀ M H dx dy x v u, Same M H → Rd2 K M H dx v → Rd2 K M H dy u → f dx dy = some x → ∀ Q : VK, Fin K M H x Q → r v [u] H Q
theorem de_m1 {r : V → List V → Hp → VK → Prop} {f : D → D → Option X} {tb : TE} {db : Ev → RE X} (ho : M1Ok K r f) (ha : DE K W te de) (hb : DE K W tb db) : DE K W (tM1 r te tb) (dM1 f de db) := fun M σ H env hh => by
  refine Sat.bind (c := fun v H1 Q => (∃ a, v = V.str a) ∧ tb σ H1 fun y H2 => r v [y] H2 Q) back_x hh (ha M σ H env hh) (fun Q q => q) fun M1 H1 env1 x v g1 s1 hh1 r1 => ?_
  by_cases hc : ((rd env1 x).map isS) = some true
  · rw [if_pos hc]
    obtain ⟨d0, q1, q2⟩ := Option.map_eq_some_iff.mp hc
    have hv : ∃ a, v = V.str a := by
      cases d0 with
      | str a => exact ⟨a, (rd_ok hh1 r1.1 q1).str⟩
      | _ => cases q2
    refine Sat.bind (c := fun u H2 Q => r v [u] H2 Q) back_x hh1 (hb M1 σ H1 env1 hh1) (fun Q q => ⟨hv, q⟩) fun M2 H2 env2 y u g2 s2 hh2 r2 => ?_
    refine sat_fin hh2 fun z e Q q => ?_
    obtain ⟨dx, e1, e⟩ := Option.bind_eq_some_iff.mp e
    obtain ⟨dy, e2, e⟩ := Option.bind_eq_some_iff.mp e
    exact ho M2 H2 dx dy z v u hh2.ex (rd_ok hh2 (RepX.grow hh1 r1.1 g2 s2) e1) (rd_ok hh2 r2.1 e2) e Q q
  · rw [if_neg hc]
    trivial
theorem textsD_ok : ∀ {xs : List D} {ys : List Str} {vs : List V}, textsD xs = some ys → Reps K M xs vs → vs = ys.map V.str
  | [], ys, vs, e, r => by
    simp only [textsD] at e
    cases e
    simp only [Reps] at r
    exact r
  | x :: xs, ys, vs, e, r => by
    cases x with
    | str z =>
      simp only [textsD] at e
      obtain ⟨r1, e1, rfl⟩ := Option.map_eq_some_iff.mp e
      simp only [Reps] at r
      obtain ⟨v, r', rfl, h1, h2⟩ := r
      rw [textsD_ok e1 h2, show v = .str z by simpa [Rep] using h1]
      rfl
    | _ => cases e
abbrev rJoin (K : Fg) : V → List V → Hp → VK → Prop := fun x xs H Q => ∃ a p, ∃ ys : List Str, x = .str a ∧ xs = [.ref p] ∧ (SqL K H p (ys.map V.str) ∨ SqT K H p (ys.map V.str)) ∧ (ys.map (·.length)).sum + ys.length * a.length ≤ 16777216 ∧ Q (.str (Txt.join a ys)) H
theorem ok_join : M1Ok K (rJoin K) pJoin := by
  intro M H dx dy x v u e hx hy hf Q q
  unfold pJoin at hf
  split at hf
  · obtain ⟨ys, h1, hf⟩ := Option.bind_eq_some_iff.mp hf
    split at hf
    · rename_i hz
      cases hf
      obtain ⟨a, us, rfl, h3, h4⟩ := hy.lst e
      rw [textsD_ok h1 h4] at h3
      exact ⟨_, a, ys, hx.str, rfl, .inl (SqL.of h3), (by have h9 := fit_ok hz; rw [sizeLine_eq] at h9; exact h9), q.im0 e rep_str⟩
    · cases hf
  · obtain ⟨ys, h1, hf⟩ := Option.bind_eq_some_iff.mp hf
    split at hf
    · rename_i hz
      cases hf
      obtain ⟨a, us, rfl, h3, h4⟩ := hy.tup e
      rw [textsD_ok h1 h4] at h3
      exact ⟨_, a, ys, hx.str, rfl, .inr h3, (by have h9 := fit_ok hz; rw [sizeLine_eq] at h9; exact h9), q.im0 e rep_str⟩
    · cases hf
  · cases hf
end
end Dn
namespace Dn
open PySem PySem.Spec PyProof.Rows L2
/-- what a call of the def named x does -/
def CallF (CX : CXT) (P : Program) (w : World) (K : Fg) [WD K] (mg : Str → Option Value) (base : Heap) (k : Nat) (x : Str) (ps : List Str) (m : Ev → RE X) : Prop :=
  ∃ f fd, mg x = some (.ref f) ∧ PySem.W.keepIn K (.ref f) = true ∧ Binds K fd ps [] ∧ FnOk P w K mg base CX k f fd ps (spD K m)
theorem CallF.mono {CX : CXT} {P : Program} {w : World} {K : Fg} [WD K] {mg : Str → Option Value} {base : Heap} {j k : Nat} {x : Str} {ps : List Str} {m : Ev → RE X} (c : CallF CX P w K mg base j x ps m) (h : j ≤ k) : CallF CX P w K mg base k x ps m := by
  obtain ⟨f, fd, a, b, d, e⟩ := c
  exact ⟨f, fd, a, b, d, e.mono h⟩
section
variable {P : Program} {w : World} {K : Fg} [WD K] {mg : Str → Option Value} {base : Heap} {X : Cx}
theorem pe_callF {iw : WD X.K} {CX : CXT} {k : Nat} {x : Str} {ps : List Str} {m : Ev → RE Dn.X} {E : XK} {p pos : Pos} {e : Expr} {es : List Expr} {t : TA} (c : CallF CX X.prog X.w X.K X.mg X.base k x ps m) (hr : Room k X.A) (hx : Passes CX X E) (hg : Gl X x) (ha : PA X (e :: es) t)
    (hdb : (x == ("__debug__" : Str)) = false := by decide) (he : starEach (e :: es) X.env = (false, eval e X.env) :: starEach es X.env := by rfl) (hpl : (backTo pos (starEach es X.env)).any (·.1) = false := by rfl) :
    PE X (.Call (.Name x p) (e :: es) [] pos) (tCall (spD X.K m) [] E t) := by
  obtain ⟨f, fd, h1, h2, h3, h4⟩ := c
  exact pe_call h4 hr hg h1 h2 h3 .nil hx ha hdb he hpl
theorem passN {E : XK} : Passes CX0 X E := fun _ _ _ _ _ _ _ h => h.elim
/-- a def keeps what its denotation says -/
theorem mk_callF {x : Str} {ps N : List Str} {k n nn : Nat} {st : Stmt} {f : Addr} {ds : Ev → RS} (F : ∃ fd, FunD K x x (defArgs st) (defBody st) (defScope st) [] [] f fd) (g : mg x = some (.ref f)) (S : FnScope N ps (defScope st)) (hn : ps.length = n) (hN : N.length = nn)
    (b : ∀ (kV doc pm : Value) (an : Option Addr) (cdv ct : Value) (us : List Value), us.length = ps.length → bindArgs (PySem.W.fnOf x x (defArgs st) (defBody st) (defScope st) .none kV doc pm an cdv ct) ⟨us, []⟩ = pure (ps.zip us))
    (h : ∀ (cdv : Value) (A : Around) (outer : List Env) (s : Shared) (H : Hp) (E : XK), Room k (A.deeper (envOfC x (defScope st) s.heap.objs.size f cdv)) →
      ∃ t, PSs (cxOf CX0 P w K mg base N x (defScope st) f cdv A outer s H E).nox (defBody st) t ∧ DS K (fun _ => E) t ds) : CallF CX0 P w K mg base (k + 1) x ps (fnM nn n ds) := by
  subst hn hN
  obtain ⟨fd, F⟩ := F
  refine ⟨f, fd, g, F.kp, F.bindsN b, F.ok S (fun vs H Q E h => spD_len h) fun cdv A outer s H vs Q E hr hs => ?_⟩
  obtain ⟨t, h1, h2⟩ := h cdv A outer s H E hr
  exact ⟨t, PSs.nox h1, fn_body h2 hs⟩
theorem mk_fnOk {x : Str} {ps N : List Str} {k n nn : Nat} {st : Stmt} {f : Addr} {fd : FuncData} {ds : Ev → RS} (F : FunD K x x (defArgs st) (defBody st) (defScope st) [] [] f fd) (S : FnScope N ps (defScope st)) (hn : ps.length = n) (hN : N.length = nn)
    (h : ∀ (cdv : Value) (A : Around) (outer : List Env) (s : Shared) (H : Hp) (E : XK), Room k (A.deeper (envOfC x (defScope st) s.heap.objs.size f cdv)) →
      ∃ t, PSs (cxOf CX0 P w K mg base N x (defScope st) f cdv A outer s H E).nox (defBody st) t ∧ DS K (fun _ => E) t ds) : FnOk P w K mg base CX0 (k + 1) f fd ps (spD K (fnM nn n ds)) := by
  subst hn hN
  refine F.ok S (fun vs H Q E h => spD_len h) fun cdv A outer s H vs Q E hr hs => ?_
  obtain ⟨t, h1, h2⟩ := h cdv A outer s H E hr
  exact ⟨t, PSs.nox h1, fn_body h2 hs⟩
/-- at the end of what is counted -/
theorem mk_none {x : Str} {ps N : List Str} {k : Nat} {st : Stmt} {f : Addr} (F : ∃ fd, FunD K x x (defArgs st) (defBody st) (defScope st) [] [] f fd) (g : mg x = some (.ref f)) (S : FnScope N ps (defScope st))
    (b : ∀ (kV doc pm : Value) (an : Option Addr) (cdv ct : Value) (us : List Value), us.length = ps.length → bindArgs (PySem.W.fnOf x x (defArgs st) (defBody st) (defScope st) .none kV doc pm an cdv ct) ⟨us, []⟩ = pure (ps.zip us)) {CX : CXT} : CallF CX P w K mg base (k + 1) x ps (fun _ => .bad) := by
  obtain ⟨fd, F⟩ := F
  refine ⟨f, fd, g, F.kp, F.bindsN b, F.ok S (fun vs H Q E h => ?_) fun cdv A outer s H vs Q E hr hs => ?_⟩
  · obtain ⟨M, ps, _, z⟩ := h
    exact z.elim
  · obtain ⟨M, ps, _, z⟩ := hs
    exact z.elim
theorem noSl_bad : NoSl (fun _ => .bad) := fun _ _ _ e => by cases e
theorem room64 {k : Nat} {A : Around} (r : Room k A) : A.units + 64 < cLine := r.units
theorem room65 {k : Nat} {A : Around} (r : Room k A) : A.units + 65 < cLine := by have := r.un; omega
end
/-- the script is plain data: a law's call -/
theorem law_spD {K : Fg} [WD K] {m : Ev → RE X} {ns : List Int} {H : Hp} {a : Addr} {env' : Ev} (hS : SqL K H a (ns.map V.int)) (hm : m [.im (.scr ns)] = .ok (.im (.bl true)) env') : spD K m [.ref a] H (fun v _ => v = .bl true) fun _ _ _ => False := by
  refine ⟨H, [.im (.scr ns)], ⟨Same.refl H, rfl, fun i s q => ?_, fun i j l p o p' o' hij q1 q2 q3 q4 => ?_⟩, ?_⟩
  · cases i with
    | zero =>
      simp at q
      subst q
      refine ⟨.ref a, rfl, ?_⟩
      simp only [Rep]
      exact ⟨a, rfl, hS⟩
    | succ i => simp at q
  · cases i with
    | zero => simp at q1
    | succ i => simp at q1
  · rw [hm]
    intro v M' H' g s hh r
    have := r.1
    simpa [RepX, Rep] using this
theorem walk_ofEB {l : PySem.W.OpenLaw} {n k : Nat} {q : Program} {loose : List Str} {XP : (Str → Option Value) → Heap → Prop} {YP : World → Heap → Prop} {d : DefRec} {CX : CXT} {x : Str}
    (hn : l.most = some n) (hn2 : n ≤ sizeLine) (hdf : d.params.defaults = []) (hr : Room k callerA)
    (F : ∀ (w : World) (mg : Str → Option Value) (fa : Addr) (h : Heap), YP w h → h.Ns mainGlobals mg → mg d.name = some (.ref fa) →
      ∃ (K : PySem.W.Frag) (fd : FuncData) (sp : Sp), K.In h ∧ (∀ (s : Shared) (u : Value), BindsTo s fd ⟨[u], []⟩ [(x, u)]) ∧
        (∀ (H : Hp) (a : Addr) (ns : List Int), ns.length ≤ n → (∀ z ∈ ns, Builtin.Int.intBits z ≤ 1048576) → Only H → SqL K H a (ns.map V.int) → sp [.ref a] H (fun v _ => v = .bl true) fun _ _ _ => False) ∧
        ∀ base : Heap, K.In base → base.Ns mainGlobals mg → FnOk l.prog w K mg base CX k fa fd [x] sp)
    (hCX : ∀ (H : Hp) (s : Shared) (e : Value) (s' : Shared), CX [] H s (fun _ _ _ => False) e s' → False) :
    PySem.W.WalkO q loose XP YP l.row.toRowW d [] (fun f vs => PySem.call f vs) := by
  refine Att.attach_callB hn hdf fun w s₀ s₁ mg mb fa o pm cd doc a vs ns G Y ho hd hcd hmg hobj hints hlen hbits hg => ?_
  obtain ⟨K, fd, sp, KX, hb, hsp, hF⟩ := F w mg fa _ Y G.T.g hmg
  exact law_call KX G.T.g G.T.b G.T.builtins G.T.nolimit hg hobj hints (Nat.le_trans hlen hn2) hr hF hb (fun H hO hS => hsp H a ns hlen hbits hO hS) fun H e s' => hCX H s₁ e s'
end Dn
namespace Dn
open PySem PySem.Spec PyProof.Rows L2 TL
theorem log2_small {n : Nat} {k : Nat} (h : n < 2 ^ k) : n.log2 ≤ k := by
  by_cases z : n = 0
  · subst z; simp
  · exact Nat.le_of_lt ((Nat.log2_lt z).mpr h)
theorem mulFit_by {i j : Int} {a b : Nat} (h : i.natAbs < 2 ^ a) (h' : j.natAbs < 2 ^ b) (k : a + b < 100000000) : mulFit i j = true := by
  unfold mulFit
  have := log2_small h
  have := log2_small h'
  exact decide_eq_true (by omega)
theorem atI_i {α : Type} {xs : List α} {i : Int} (h : 0 ≤ i) : atI xs i = xs[i.toNat]? := by
  unfold atI ixN
  rw [if_pos h]
  by_cases q : i < xs.length
  · rw [if_pos q]; rfl
  · rw [if_neg q, List.getElem?_eq_none (by omega)]; rfl
theorem rgOk_s {j : Int} (h : -1000000 ≤ j) (h' : j ≤ 1000000) : rgOk j = true := by
  have := log2_small (k := 20) (show j.natAbs < 2 ^ 20 by omega)
  exact decide_eq_true (by omega)
theorem app_tl (x y : Str) : (x ++ y).cps.toList = x.cps.toList ++ y.cps.toList := tl_append x y
theorem app_len (x y : Str) : (x ++ y).length = x.length + y.length := by rw [len_tl, len_tl x, len_tl y, tl_append, List.length_append]
theorem repS_tl (z : Str) (n : Nat) : (repS z n).cps.toList = (List.replicate n z.cps.toList).flatten := by
  unfold repS
  simp
def LowS (w : Str) : Prop := ∀ c ∈ w.cps.toList, 97 ≤ c ∧ c ≤ 122
/-- a word of the laws -/
def WordS (w : Str) : Prop := 1 ≤ w.length ∧ w.length ≤ 12 ∧ LowS w
theorem LowS.app {x y : Str} (h : LowS x) (h' : LowS y) : LowS (x ++ y) := fun c hc => by
  rw [app_tl, List.mem_append] at hc
  exact hc.elim (h c) (h' c)
theorem LowS.rep {z : Str} (h : LowS z) (n : Nat) : LowS (repS z n) := fun c hc => by
  rw [repS_tl] at hc
  obtain ⟨l, h1, h2⟩ := List.mem_flatten.mp hc
  rw [(List.mem_replicate.mp h1).2] at h2
  exact h c h2
theorem joinE_tl : ∀ ws : List Str, (Txt.join "" ws).cps.toList = (ws.map fun w => w.cps.toList).flatten := fun ws => by
  rw [join_eq]
  show tl (Str.join "" ws) = _
  rw [tl_join]
  have e : tl ("" : Str) = [] := rfl
  rw [e]
  have key : ∀ l : List (List Nat), joinL [] l = l.flatten := by
    intro l
    induction l with
    | nil => rfl
    | cons p l ih =>
      cases l with
      | nil => simp [joinL]
      | cons q r =>
        show p ++ ([] ++ joinL [] (q :: r)) = _
        rw [ih]
        simp
  exact key _
theorem sum_ones : ∀ n : Nat, (List.replicate n 1).sum = n
  | 0 => rfl
  | n + 1 => by rw [List.replicate_succ, List.sum_cons, sum_ones n]; omega
theorem joinE_len : ∀ ws : List Str, (∀ w ∈ ws, w.length = 1) → (Txt.join "" ws).length = ws.length := fun ws h => by
  rw [len_tl]
  show (Txt.join "" ws).cps.toList.length = _
  rw [joinE_tl, List.length_flatten, List.map_map]
  have : ws.map (List.length ∘ fun w => w.cps.toList) = List.replicate ws.length 1 := by
    rw [List.eq_replicate_iff]
    refine ⟨by simp, fun b hb => ?_⟩
    obtain ⟨w, hw, rfl⟩ := List.mem_map.mp hb
    have := h w hw
    rw [len_tl] at this
    exact this
  rw [this, sum_ones]
theorem ones_sum : ∀ ws : List Str, (∀ w ∈ ws, w.length = 1) → (ws.map (·.length)).sum = ws.length := fun ws h => by
  have : ws.map (·.length) = List.replicate ws.length 1 := by
    rw [List.eq_replicate_iff]
    refine ⟨by simp, fun b hb => ?_⟩
    obtain ⟨w, hw, rfl⟩ := List.mem_map.mp hb
    exact h w hw
  rw [this, sum_ones]
theorem joinE_low : ∀ ws : List Str, (∀ w ∈ ws, LowS w) → LowS (Txt.join "" ws) := fun ws h c hc => by
  rw [joinE_tl] at hc
  obtain ⟨l, h1, h2⟩ := List.mem_flatten.mp hc
  obtain ⟨w, hw, rfl⟩ := List.mem_map.mp h1
  exact h w hw c h2
theorem textsD_map : ∀ ws : List Str, textsD (ws.map D.str) = some ws
  | [] => rfl
  | w :: ws => by
    show (textsD (ws.map D.str)).map _ = _
    rw [textsD_map ws]
    rfl
abbrev ALs : Str := "abcdefghijklmnopqrstuvwxyz"
theorem al_tl : (ALs.cps.toList) = [97, 98, 99, 100, 101, 102, 103, 104, 105, 106, 107, 108, 109, 110, 111, 112, 113, 114, 115, 116, 117, 118, 119, 120, 121, 122] := by decide +kernel
theorem al_at {r : Int} (h : 0 ≤ r) (h' : r < 26) : ∃ c, pIx (.str "abcdefghijklmnopqrstuvwxyz") (.int r) = some (.im (.str ⟨#[c]⟩)) ∧ 97 ≤ c ∧ c ≤ 122 := by
  have hf : fit (ALs.length) = true := by decide +kernel
  have hl : ALs.cps.toList.length = 26 := by rw [al_tl]; rfl
  refine ⟨97 + r.toNat, ?_, by omega, by omega⟩
  show (if fit ALs.length = true then (atI ALs.cps.toList r).map (fun c => X.im (.str ⟨#[c]⟩)) else none) = _
  rw [if_pos hf, atI_i h, al_tl]
  have key : ∀ k : _root_.Fin 26, ([97, 98, 99, 100, 101, 102, 103, 104, 105, 106, 107, 108, 109, 110, 111, 112, 113, 114, 115, 116, 117, 118, 119, 120, 121, 122] : List Nat)[k.val]? = some (97 + k.val) := by decide
  have := key ⟨r.toNat, by omega⟩
  simp only at this
  rw [this]
  rfl
theorem one_low {c : Nat} (h : 97 ≤ c) (h' : c ≤ 122) : LowS ⟨#[c]⟩ := fun d hd => by
  simp at hd
  omega
theorem fit_s {n : Nat} (h : n ≤ 100000) : fit n = true := by
  have := log2_small (k := 17) (show n < 2 ^ 17 by omega)
  exact decide_eq_true (by omega)
theorem scals_strs : ∀ ns : List Str, scals (ns.map D.str) = some (ns.map V.str)
  | [] => rfl
  | n :: ns => by simp [scals, scals_strs ns, D.scal]
theorem inV_strs (w : Str) : ∀ ns : List Str, inV (.str w) (ns.map V.str) = decide (w ∈ ns)
  | [] => by simp [inV]
  | n :: ns => by
    show ((n == w) || inV (.str w) (ns.map V.str)) = _
    rw [inV_strs w ns]
    by_cases h : n = w
    · subst h; simp
    · have h2 : w ≠ n := fun z => h z.symm
      simp [h, h2]
theorem in_tup (w : Str) (ns : List Str) : pIn (.str w) (.tup (ns.map D.str)) = some (.im (.bl (decide (w ∈ ns)))) := by
  simp [pIn, pInB, D.scal, scals_strs, inV_strs]
theorem in_lst (w : Str) (ns : List Str) : pIn (.str w) (.lst (ns.map D.str)) = some (.im (.bl (decide (w ∈ ns)))) := by
  simp [pIn, pInB, D.scal, scals_strs, inV_strs]
theorem notIn_tup (w : Str) (ns : List Str) : pNotIn (.str w) (.tup (ns.map D.str)) = some (.im (.bl (!decide (w ∈ ns)))) := by
  simp [pNotIn, pInB, D.scal, scals_strs, inV_strs]
theorem notIn_lst (w : Str) (ns : List Str) : pNotIn (.str w) (.lst (ns.map D.str)) = some (.im (.bl (!decide (w ∈ ns)))) := by
  simp [pNotIn, pInB, D.scal, scals_strs, inV_strs]
theorem pigeon {α : Type} [DecidableEq α] : ∀ (l ns : List α), l.Nodup → (∀ x ∈ l, x ∈ ns) → l.length ≤ ns.length
  | [], ns, _, _ => Nat.zero_le _
  | x :: l, ns, nd, h => by
    have hx := h x (by simp)
    have nd' := List.nodup_cons.mp nd
    have := pigeon l (ns.erase x) nd'.2 fun y hy => (List.mem_erase_of_ne (fun z => nd'.1 (by rw [← z]; exact hy))).mpr (h y (by simp [hy]))
    have e := List.length_erase_of_mem hx
    have : 0 < ns.length := List.length_pos_of_mem hx
    simp
    omega
theorem perm_at {α : Type} : ∀ (l : List α) (i : Nat) (h : i < l.length), l.Perm (l[i] :: l.eraseIdx i)
  | x :: l, 0, _ => List.Perm.refl _
  | x :: l, i + 1, h => by
    have := perm_at l i (by simpa using h)
    exact (List.Perm.cons x this).trans (List.Perm.swap _ _ _)
theorem perm_move {α : Type} (l cs : List α) (i : Nat) (h : i < l.length) : (l.eraseIdx i ++ (cs ++ [l[i]])).Perm (l ++ cs) := by
  have h1 := perm_at l i h
  rw [← List.append_assoc]
  refine (List.perm_append_comm (l₁ := l.eraseIdx i ++ cs) (l₂ := [l[i]])).trans ?_
  exact (List.Perm.append_right cs h1).symm
theorem len_s (w : Str) : w.length = w.cps.toList.length := len_tl w
theorem cut_take {w : Str} {r : Int} (h : 0 ≤ r) (h' : r ≤ w.length) : (cutS w none (some r)).cps.toList = w.cps.toList.take r.toNat := by
  have e : HT.sIx w.length w.length (some r) = r.toNat := by
    show (if r < 0 then _ else min r.toNat w.length) = _
    rw [if_neg (by omega)]
    omega
  unfold cutS
  rw [e, HT.sIx_none]
  simp
theorem cut_drop {w : Str} {r : Int} (h : 0 ≤ r) (h' : r ≤ w.length) : (cutS w (some r) none).cps.toList = w.cps.toList.drop r.toNat := by
  have e : HT.sIx w.length 0 (some r) = r.toNat := by
    show (if r < 0 then _ else min r.toNat w.length) = _
    rw [if_neg (by omega)]
    omega
  unfold cutS
  rw [e, HT.sIx_none]
  show (List.take (w.length - r.toNat) (List.drop r.toNat w.cps.toList)).toArray.toList = _
  rw [List.toList_toArray, List.take_of_length_le (by rw [List.length_drop, ← len_s]; exact Nat.le_refl _)]
theorem low_take {w : Str} (h : LowS w) {v : Str} (n : Nat) (e : v.cps.toList = w.cps.toList.take n) : LowS v := fun c hc => h c (List.mem_of_mem_take (e ▸ hc))
theorem low_drop {w : Str} (h : LowS w) {v : Str} (n : Nat) (e : v.cps.toList = w.cps.toList.drop n) : LowS v := fun c hc => h c (List.mem_of_mem_drop (e ▸ hc))
theorem cutD_take {α : Type} {w : List α} {r : Int} (h : 0 ≤ r) (h' : r ≤ w.length) : cutD w none (some r) = w.take r.toNat := by
  have e : HT.sIx w.length w.length (some r) = r.toNat := by
    show (if r < 0 then _ else min r.toNat w.length) = _
    rw [if_neg (by omega)]
    omega
  unfold cutD
  rw [e, HT.sIx_none]
  simp
end Dn
namespace PySem
open Sem (wp)
open AutoSeq1 (wpAny_loadPart')
theorem dn_enumerate_newT (l : Addr) (items : Array Value) (n : Nat) (dct : Option Addr) (sl : Array (Option Value)) :
    Meets (Builtin.«enumerate.__new__» ⟨[.type "enumerate", .ref l], []⟩) (fun _ R s => s.heap.get? l = some { cls := .type "tuple", dict := dct, data := .seq items n, slots := sl } ∧
      R (.ok (.ret (.ref (s.heap.push { cls := .type "tuple_iterator", data := .fields #[.ref l, .int 0 0] }).objs.size)))
        { s with heap := (s.heap.push { cls := .type "tuple_iterator", data := .fields #[.ref l, .int 0 0] }).push { cls := .type "enumerate", data := .fields #[.none, .bool false, .ref s.heap.objs.size, rawInt 0, .none, .none] } }) :=
  .of_wp fun prog w A R s h => by
    obtain ⟨hp, g, d, tk, os⟩ := s; obtain ⟨hl, h⟩ := h
    have hsub := sub_enumerate
    have hL : Heap.IsTuple (Shared.heap ⟨hp, g, d, tk, os⟩) l items := ⟨_, hl, rfl, n, rfl⟩
    wp_walk using wpAny_loadPart' hl
    refine wpAny_stack_any fun st => wpAny_pure ?_
    split
    · rename_i c _ _ _ _ _
      cases (c == Value.type "enumerate")
      · wp_walk using wpAny_loadPart' hl, wpAny_pyIter_tuple hL
        exact ⟨_, rfl, h⟩
      · wp_walk using wpAny_loadPart' hl, wpAny_pyIter_tuple hL
        exact ⟨_, rfl, h⟩
    · wp_walk using wpAny_loadPart' hl, wpAny_pyIter_tuple hL
      exact ⟨_, rfl, h⟩
section
variable {prog : Program} {w : World} {A : Around} {E : Value → Shared → Prop} {s : Shared}
theorem dn_call_enumerate_tuple {l : Addr} {items : Array Value} {Q : Value → Shared → Prop} (hL : s.heap.IsTuple l items)
    (h : ∀ h', IsEnum h' (s.heap.objs.size + 1) s.heap.objs.size 0 .none → h'.IsTupleIter s.heap.objs.size l 0 → h'.objs.size = s.heap.objs.size + 2 →
      (∀ b o, s.heap.get? b = some o → h'.get? b = some o) → Q (.ref (s.heap.objs.size + 1)) { s with heap := h' }) :
    wpAny (model prog w) A (call (.type "enumerate") [.ref l]) Q E s := by
  obtain ⟨⟨c, dct, dt, sl⟩, hl, hc, n, hd⟩ := hL
  replace hc : c = .type "tuple" := hc
  replace hd : dt = .seq items n := hd
  subst hc hd
  refine callType_new F.called_enumerate (by decide) (F.typeCall_enumerate_1 _) (F.newCall_enumerate_1 _) (fun obj => F.args_object_init_2 obj _) F.entry_enumerate_new
    (dn_enumerate_newT l items n dct sl) ⟨hl, ?_⟩
  have hz : (s.heap.push { cls := .type "tuple_iterator", data := .fields #[.ref l, .int 0 0] }).objs.size = s.heap.objs.size + 1 := Heap.size_push ..
  show _ ∧ _
  rw [hz]
  have he : IsEnum ((s.heap.push { cls := .type "tuple_iterator", data := .fields #[.ref l, .int 0 0] }).push
      { cls := .type "enumerate", data := .fields #[.none, .bool false, .ref s.heap.objs.size, rawInt 0, .none, .none] }) (s.heap.objs.size + 1) s.heap.objs.size 0 .none := by
    have := Heap.get?_push_size (s.heap.push { cls := .type "tuple_iterator", data := .fields #[.ref l, .int 0 0] })
      (o := { cls := .type "enumerate", data := .fields #[.none, .bool false, .ref s.heap.objs.size, rawInt 0, .none, .none] }) rfl
    rw [hz] at this; exact this
  refine ⟨⟨_, he, rfl⟩, h _ he ⟨_, Heap.get?_push_of_some _ (Heap.get?_push_size _ rfl), rfl, rfl⟩ (by rw [Heap.size_push, hz]) fun b o x => Heap.get?_push_of_some _ (Heap.get?_push_of_some _ x)⟩
end
end PySem
namespace L2
open PySem PySem.Spec PyProof.Rows
/-- the tuple at a, its items in new pairs -/
def IteT (K : PySem.W.Frag) (a : Addr) : It :=
  ⟨fun i H => ∃ (xs : List V) (x : V), SqT K H a xs ∧ xs[i]? = some x,
    fun i H v H' => ∃ T x, v = .ref T ∧ H T = none ∧ H' = upd H T (.tup [.int (i : Nat), x]) ∧ ∀ xs, SqT K H a xs → xs[i]? = some x,
    fun i H => ∃ xs : List V, SqT K H a xs ∧ xs.length = i⟩
theorem turn_enumT {P : Program} {w : World} {K : PySem.W.Frag} {elts : List Expr} {kk : Nat} {tpos : Pos} (a e it : Addr) :
    Turn P w K (.Tuple elts kk tpos) (IteT K a) [e, it] e (fun i h => (∃ old, IsEnum h e it ((i : Nat) : Int) old) ∧ h.IsTupleIter it a i ∧ e ≠ it ∧ e ≠ a ∧ a ≠ it) where
  mem := by simp
  obj := fun i h st b hb => by
    obtain ⟨⟨old, he⟩, ⟨o, ho, hc, hd⟩, _⟩ := st
    have e' : b = e ∨ b = it := by simpa using hb
    rcases e' with z | z
    · rw [z]; exact ⟨_, he, fun v q => nomatch q⟩
    · rw [z]; exact ⟨o, ho, fun v q => by rw [hd] at q; cases q⟩
  keep := fun i h h' st k => let ⟨⟨old, he⟩, hi, hne⟩ := st; ⟨⟨old, k e (by simp) _ he⟩, hi.at fun o q => k it (by simp) o q, hne⟩
  item := by
    intro X hP hw hK hc i pins s σ H E I hf st hg
    subst hP hw hK
    obtain ⟨⟨old, he⟩, hit, hne, hea, hai⟩ := st
    obtain ⟨xs, x, hq, hx⟩ := hg
    obtain ⟨its, rv, p, hz⟩ := I.tuple hq
    obtain ⟨u, hu, ru⟩ := rv.get hx
    have hel : e < s.heap.objs.size := Heap.lt_size he
    have hil : it < s.heap.objs.size := by obtain ⟨_, q, _⟩ := hit; exact Heap.lt_size q
    have hlt : i < its.toArray.size := by
      have := (List.getElem?_eq_some_iff.mp hu).1
      simpa using this
    have hh : X.A.in1.handled = none := I.ok.hd hc
    refine wpAny_pyNext_enum_itemD (Draws.tuple hh it a hai its.toArray) he ⟨hit, p⟩ hlt hne (by simp [hne, hea]) fun x' h' tk hx' ho st' hT hsz hk => ?_
    have ex : x' = u := by
      have : its.toArray[i]? = some u := by simpa using hu
      rw [this] at hx'
      exact (Option.some.inj hx').symm
    subst ex
    have hit' := st'.1
    refine ⟨_, rfl, wpAny_letOwnedTupleGo_enum (s := { s with heap := h', toks := tk + 1 }) ho fun h'' he' sb => ?_⟩
    have hT2 : h''.get? s.heap.objs.size = some { cls := .type "tuple", data := .seq #[.int i tk, x'] } := (sb.2 _ (Nat.ne_of_gt hel)).trans hT
    have new : ObjOk X.prog X.w (upd H s.heap.objs.size (.tup [.int (i : Nat), x])) h'' s.heap.objs.size (.tup [.int (i : Nat), x]) :=
      ⟨by show 2 ≤ sizeLine; decide, [.int i tk, x'], .cons ⟨_, rfl⟩ (.cons ru .nil), ⟨_, hT2, rfl, _, rfl⟩⟩
    have I1 : Inv X pins σ (upd H s.heap.objs.size (.tup [.int (i : Nat), x])) { s with heap := h'', toks := tk + 1 } :=
      I.turnedNew (ch := [e, it]) (fun b ob hb q => (sb.2 b (fun z => hb (by simp [z]))).trans (hk b ob (fun z => hb (by simp [z])) (fun z => hb (by simp [z])) q)) hf (Nat.le_refl _) new
    refine ⟨.ref s.heap.objs.size, _, I1, rfl, ⟨_, x, rfl, I.hok.fresh (Nat.le_refl _), rfl, fun ys hy => by rw [I.tuple_inj hy hq]; exact hx⟩, ⟨⟨x', ?_⟩, hit'.at fun o q => (sb.2 it (Ne.symm hne)).trans q, hne, hea, hai⟩, fun b hb => ?_⟩
    · have e1 : ((i + 1 : Nat) : Int) = (i : Int) + 1 := by omega
      rw [e1]; exact he'
    · have hb' : b < s.heap.objs.size := by
        have e' : b = e ∨ b = it := by simpa using hb
        rcases e' with z | z
        · rw [z]; exact hel
        · rw [z]; exact hil
      rw [upd_ne (Nat.ne_of_lt hb')]
      exact (hf b hb).1
  done := by
    intro X hP hw hK hc i pins s σ H E I hf st hg
    subst hP hw hK
    obtain ⟨⟨old, he⟩, hit, hne, hea, hai⟩ := st
    obtain ⟨xs, hq, hx⟩ := hg
    obtain ⟨its, rv, p, hz⟩ := I.tuple hq
    obtain ⟨f0, f1, f2, f3, f4, f5⟩ := hf it (by simp)
    have hl := rv.length
    have hh : X.A.in1.handled = none := I.ok.hd hc
    have hn : i = its.toArray.size := by rw [List.size_toArray, ← hl, hx]
    exact wpAny_pyNext_enum_endD (Draws.tuple hh it a hai its.toArray) he (by rw [← hn]; exact ⟨hit, p⟩) fun h' eb => ⟨rfl, I.turned (t' := s.toks) (fun b o hb q => eb b o hb q) f0 f1 f3 f4 f5⟩
  self := fun A i s Q E st h => let ⟨⟨_, he⟩, _⟩ := st; wpAny_pyIter_enum he h
end L2
namespace HT
open PySem PySem.Spec PyProof.Rows
section
end
end HT
namespace L2
open PySem PySem.Spec PyProof.Rows
end L2
namespace Dn
open PySem PySem.Spec PyProof.Rows L2
def enumD : Nat → List D → List D
  | _, [] => []
  | i, x :: xs => .tupW [.int (i : Int), x] :: enumD (i + 1) xs
theorem enumD_len : ∀ (i : Nat) (xs : List D), (enumD i xs).length = xs.length
  | _, [] => rfl
  | i, x :: xs => by rw [enumD, List.length_cons, enumD_len, List.length_cons]
theorem enumD_get : ∀ (xs : List D) (k i : Nat) (d : D), (enumD k xs)[i]? = some d → ∃ x, xs[i]? = some x ∧ d = .tupW [.int ((k + i : Nat) : Int), x]
  | [], k, i, d, h => by simp [enumD] at h
  | x :: xs, k, 0, d, h => by
    simp [enumD] at h
    exact ⟨x, rfl, h.symm⟩
  | x :: xs, k, i + 1, d, h => by
    simp [enumD] at h
    obtain ⟨y, h1, h2⟩ := enumD_get xs (k + 1) i d h
    exact ⟨y, by simpa using h1, by rw [h2, show k + 1 + i = k + (i + 1) by omega]⟩
def noStr : X → Bool
  | .im (.str _) => false
  | .im (.scr _) => false
  | _ => true
def diEnum (de : Ev → RE X) : Ev → RE Dn.Its := fun env => (de env).bind fun x e1 => opt ((ofX e1 x).bind fun r => if noStr x = true then some (enumD 0 r.1, r.2) else none) e1
def iEnumU (K : Fg) (te : TE) : TI := fun σ H R => te σ H fun v H1 => (∃ a xs, v = V.ref a ∧ SqL K H1 a xs ∧ R (Ite K a) H1) ∨ (∃ a xs, v = V.ref a ∧ SqT K H1 a xs ∧ R (IteT K a) H1)
theorem pi_enumU {X : Cx} {e : Expr} {te : TE} {p pos tpos : Pos} {elts : List Expr} {kk : Nat} (hg : Gl X "enumerate") (hm : X.mg "enumerate" = none) (ha : PA X [e] (tCons te tNil)) (hs : starEach [e] X.env = [(false, eval e X.env)] := by rfl) :
    PI X (.Tuple elts kk tpos) (.Call (.Name "enumerate" p) [e] [] pos) (iEnumU X.K te) := by
  refine ⟨fun pins s σ H R I h => ?_⟩
  refine Call_ (ld_blt I hg hm boot_enumerate (PyProof.Rows.callWith_type1 (thn (ha.run pos pins s σ H (fun vs H1 => (∃ a xs, vs = [V.ref a] ∧ SqL X.K H1 a xs ∧ R (Ite X.K a) H1) ∨ (∃ a xs, vs = [V.ref a] ∧ SqT X.K H1 a xs ∧ R (IteT X.K a) H1)) I ?_) fun us s1 ⟨vs, H1, I1, r1, q1⟩ => ?_) hs rfl))
  · have h' : te σ H fun v H1 => (∃ a xs, v = V.ref a ∧ SqL X.K H1 a xs ∧ R (Ite X.K a) H1) ∨ (∃ a xs, v = V.ref a ∧ SqT X.K H1 a xs ∧ R (IteT X.K a) H1) := h
    show te σ H fun v H1 => (∃ a xs, [v] = [V.ref a] ∧ SqL X.K H1 a xs ∧ R (Ite X.K a) H1) ∨ (∃ a xs, [v] = [V.ref a] ∧ SqT X.K H1 a xs ∧ R (IteT X.K a) H1)
    simpa using h'
  rcases q1 with ⟨a, xs, ex, hq, q⟩ | ⟨a, xs, ex, hq, q⟩
  · subst ex
    cases r1 with
    | cons r rr =>
      cases rr
      cases r
      obtain ⟨its, rv, p', hz⟩ := I1.list hq
      refine call_enumerate_list p'.isList fun h' he hit hsz hk => wpAny_pyIter_enum he ?_
      have I2 : Inv X pins σ H1 { s1 with heap := h' } := I1.kept (t' := s1.toks) hk
      refine ⟨s1.heap.objs.size + 1, [s1.heap.objs.size + 1, s1.heap.objs.size], _, _, H1, rfl, I2, turn_enum a (s1.heap.objs.size + 1) s1.heap.objs.size, ⟨⟨.none, he⟩, hit, Nat.succ_ne_self _⟩, fun b hb => ?_, q⟩
      have e' : b = s1.heap.objs.size + 1 ∨ b = s1.heap.objs.size := by simpa using hb
      have hle : s1.heap.objs.size ≤ b := by
        rcases e' with z | z
        · rw [z]; exact Nat.le_add_right _ _
        · rw [z]; exact Nat.le_refl _
      exact I1.fpOk hle (I1.hok.fresh hle)
  · subst ex
    cases r1 with
    | cons r rr =>
      cases rr
      cases r
      obtain ⟨its, rv, p', hz⟩ := I1.tuple hq
      have hal : a < s1.heap.objs.size := by obtain ⟨o, q, _⟩ := p'; exact Heap.lt_size q
      refine dn_call_enumerate_tuple p' fun h' he hit hsz hk => wpAny_pyIter_enum he ?_
      have I2 : Inv X pins σ H1 { s1 with heap := h' } := I1.kept (t' := s1.toks) hk
      refine ⟨s1.heap.objs.size + 1, [s1.heap.objs.size + 1, s1.heap.objs.size], _, _, H1, rfl, I2, turn_enumT a (s1.heap.objs.size + 1) s1.heap.objs.size, ⟨⟨.none, he⟩, hit, Nat.succ_ne_self _, Nat.ne_of_gt (Nat.lt_succ_of_lt hal), Nat.ne_of_lt hal⟩, fun b hb => ?_, q⟩
      have e' : b = s1.heap.objs.size + 1 ∨ b = s1.heap.objs.size := by simpa using hb
      have hle : s1.heap.objs.size ≤ b := by
        rcases e' with z | z
        · rw [z]; exact Nat.le_add_right _ _
        · rw [z]; exact Nat.le_refl _
      exact I1.fpOk hle (I1.hok.fresh hle)
section
open Dn
variable {K : Fg} [WD K] {W : WS} {M M' M1 M2 : Hp} {env env' env1 env2 : Ev} {σ σ' σ1 : L2.St} {H H' H1 H2 : Hp} {x y : X} {v u : V} {te : TE} {de : Ev → RE X} {ta : TA} {da : Ev → RE (List X)}
theorem new_pair {a b : D} {v w : V} {T : Addr} (ha : Rep K M a v) (hb : Rep K M b w) (e : Same M H) (n : H T = none) : Ext M H (upd M T (.tup [v, w])) (upd H T (.tup [v, w])) ∧ Rep K (upd M T (.tup [v, w])) (.tupW [a, b]) (.ref T) := by
  have ex := ext_tup (o := .tup [v, w]) e n
  exact ⟨ex, rep_tupW (SqT.of upd_same) (Reps.cons (Rep.mono ex.exM _ _ ha) (Reps.cons (Rep.mono ex.exM _ _ hb) Reps.nil))⟩
theorem it_enumL {a : Addr} {vs : List V} {xs : List D} {as : List Addr} (r : Reps K M xs vs) (src : ∀ M2 H2, Same M M2 → Same M2 H2 → (∀ b ∈ as, ∀ o, H b = some o → H2 b = some o) → SqL K H2 a vs) : ItOk K (Ite K a) as M H (enumD 0 xs) where
  go := fun M2 H2 i d q e1 e2 f => by
    obtain ⟨x, h1, rfl⟩ := enumD_get _ _ _ _ q
    obtain ⟨v, h3, h4⟩ := r.get h1
    have s := src M2 H2 e1 e2 f
    refine ⟨⟨vs, v, s, h3⟩, fun w H3 hy => ?_⟩
    obtain ⟨T, x', rfl, n, rfl, hy⟩ := hy
    have e : x' = v := Option.some.inj ((hy vs s).symm.trans h3)
    subst e
    rw [Nat.zero_add]
    obtain ⟨ex, rp⟩ := new_pair (T := T) (rep_int (i := (i : Int))) (Rep.mono e1 _ _ h4) e2 n
    exact ⟨_, ex, rp⟩
  stop := fun M2 H2 e1 e2 f => ⟨vs, src M2 H2 e1 e2 f, by rw [enumD_len, r.length]; exact Nat.le_refl _⟩
theorem it_enumT {a : Addr} {vs : List V} {xs : List D} (r : Reps K M xs vs) (h : SqT K M a vs) : ItOk K (IteT K a) [] M H (enumD 0 xs) where
  go := fun M2 H2 i d q e1 e2 f => by
    obtain ⟨x, h1, rfl⟩ := enumD_get _ _ _ _ q
    obtain ⟨v, h3, h4⟩ := r.get h1
    have s : SqT K H2 a vs := sqT_mono (e1.trans e2) h
    refine ⟨⟨vs, v, s, h3⟩, fun w H3 hy => ?_⟩
    obtain ⟨T, x', rfl, n, rfl, hy⟩ := hy
    have e : x' = v := Option.some.inj ((hy vs s).symm.trans h3)
    subst e
    rw [Nat.zero_add]
    obtain ⟨ex, rp⟩ := new_pair (T := T) (rep_int (i := (i : Int))) (Rep.mono e1 _ _ h4) e2 n
    exact ⟨_, ex, rp⟩
  stop := fun M2 H2 e1 e2 f => ⟨vs, sqT_mono (e1.trans e2) h, by rw [enumD_len, r.length]⟩
theorem di_enum (h : DE K W te de) : DI K W (iEnumU K te) (diEnum de) := fun M σ H env hh => by
  refine Sat.bind (c := fun v H1 (R : It → Hp → Prop) => (∃ a xs, v = V.ref a ∧ SqL K H1 a xs ∧ R (Ite K a) H1) ∨ (∃ a xs, v = V.ref a ∧ SqT K H1 a xs ∧ R (IteT K a) H1)) back_i hh (h M σ H env hh) (fun Q q => q) fun M1 H1 env1 x v g1 s1 hh1 r1 => ?_
  obtain ⟨r, n⟩ := r1
  cases x with
  | im d =>
    cases d with
    | lst xs =>
      refine fun Q k => ?_
      simp only [RepX, Rep] at r
      obtain ⟨a, vs, rfl, h1, h2⟩ := r
      exact .inl ⟨a, vs, rfl, SqL.of (hh1.ex _ _ h1), k _ M1 H1 .refl (.refl _) hh1 ⟨[], (fun a z => nomatch z), it_enumL h2 fun M2 H2 e1 e2 f => SqL.of (e2 _ _ (e1 _ _ h1)), (fun j z => nomatch z)⟩⟩
    | tup xs =>
      refine fun Q k => ?_
      simp only [RepX, Rep] at r
      obtain ⟨a, vs, rfl, h1, h2⟩ := r
      exact .inr ⟨a, vs, rfl, sqT_mono hh1.ex (SqN.t h1), k _ M1 H1 .refl (.refl _) hh1 ⟨[], (fun a z => nomatch z), it_enumT h2 (SqN.t h1), (fun j z => nomatch z)⟩⟩
    | tupW xs =>
      refine fun Q k => ?_
      simp only [RepX, Rep] at r
      obtain ⟨a, vs, rfl, h1, h2⟩ := r
      exact .inr ⟨a, vs, rfl, sqT_mono hh1.ex h1, k _ M1 H1 .refl (.refl _) hh1 ⟨[], (fun a z => nomatch z), it_enumT h2 h1, (fun j z => nomatch z)⟩⟩
    | _ => trivial
  | ow o =>
    cases o with
    | lst xs =>
      refine fun Q k => ?_
      obtain ⟨a, rfl, ⟨vs, h1, h2⟩, m, no⟩ := r
      exact .inl ⟨a, vs, rfl, SqL.of h1, k _ M1 H1 .refl (.refl _) hh1 ⟨[a], fun b hb => by
        have : b = a := by simpa using hb
        subst this
        exact ⟨no, _, h1⟩, it_enumL h2 fun M2 H2 e1 e2 f => SqL.of (f a (by simp) _ h1), (fun j z => nomatch z)⟩⟩
    | _ => trivial
  | sl j =>
    obtain ⟨⟨p, o, e1⟩, e2⟩ := r
    show Sat K W M1 σ H1 env1 (opt ((ofX env1 (.sl j)).bind fun r => if noStr (.sl j) = true then some (enumD 0 r.1, r.2) else none) env1) (RI K σ) _
    rw [ofX_sl e1]
    cases o with
    | lst xs =>
      refine fun Q k => ?_
      obtain ⟨a, e4, ⟨vs, h1, h2⟩, m⟩ := hh1.slot j _ e1
      rw [e2] at e4
      cases e4
      exact .inl ⟨a, vs, rfl, SqL.of h1, k _ M1 H1 .refl (.refl _) hh1 ⟨[a], fun b hb => by
        have : b = a := by simpa using hb
        subst this
        refine ⟨fun z => ?_, _, h1⟩
        obtain ⟨i, p2, o2, hi, q1, q2⟩ := hide_own z
        exact hh1.dj i j _ p2 o2 p _ hi q1 e1 q2 e2, it_enumL h2 fun M2 H2 e1 e2 f => SqL.of (f a (by simp) _ h1), fun i z => by cases z; exact ⟨p, _, e1⟩⟩⟩
    | _ => trivial
def blsD : List D → Option (List Bool)
  | [] => some []
  | .bl b :: r => (blsD r).map (b :: ·)
  | _ :: _ => none
theorem blsD_rep : ∀ {xs : List D} {vs : List V} {bs : List Bool}, Reps K M xs vs → blsD xs = some bs → vs = bs.map V.bl
  | [], vs, bs, h, e => by
    simp only [Reps] at h
    cases e
    exact h
  | x :: xs, vs, bs, h, e => by
    simp only [Reps] at h
    obtain ⟨v, r, rfl, h1, h2⟩ := h
    cases x with
    | bl b =>
      obtain ⟨cs, e1, rfl⟩ := Option.map_eq_some_iff.mp (show (blsD xs).map (b :: ·) = some bs from e)
      rw [blsD_rep h2 e1, show v = .bl b by simpa [Rep] using h1]
      rfl
    | _ => cases e
def intsD : List D → Option (List Int)
  | [] => some []
  | .int b :: r => (intsD r).map (b :: ·)
  | _ :: _ => none
theorem intsD_rep : ∀ {xs : List D} {vs : List V} {bs : List Int}, Reps K M xs vs → intsD xs = some bs → vs = bs.map V.int
  | [], vs, bs, h, e => by
    simp only [Reps] at h
    cases e
    exact h
  | x :: xs, vs, bs, h, e => by
    simp only [Reps] at h
    obtain ⟨v, r, rfl, h1, h2⟩ := h
    cases x with
    | int b =>
      obtain ⟨cs, e1, rfl⟩ := Option.map_eq_some_iff.mp (show (intsD xs).map (b :: ·) = some bs from e)
      rw [intsD_rep h2 e1, show v = .int b by simpa [Rep] using h1]
      rfl
    | _ => cases e
def pAll : List D → Option X
  | [.lst xs] => (blsD xs).map fun bs => .im (.bl (bs.all id))
  | _ => none
theorem ok_all : CallOk K (rAll K) pAll := by
  intro M H ds x vs e r hf Q q
  unfold pAll at hf
  split at hf
  · obtain ⟨bs, h1, rfl⟩ := Option.map_eq_some_iff.mp hf
    obtain ⟨v, rfl, h⟩ := one_rd r
    obtain ⟨a, us, rfl, h2, h3⟩ := h.lst e
    rw [blsD_rep h3 h1] at h2
    exact ⟨a, bs, rfl, SqL.of h2, q.im0 e rep_bl⟩
  · cases hf
def pSum : List D → Option X
  | [.lst xs] => (intsD xs).map fun bs => .im (.int bs.sum)
  | _ => none
theorem ok_sum : CallOk K (rSum K) pSum := by
  intro M H ds x vs e r hf Q q
  unfold pSum at hf
  split at hf
  · obtain ⟨bs, h1, rfl⟩ := Option.map_eq_some_iff.mp hf
    obtain ⟨v, rfl, h⟩ := one_rd r
    obtain ⟨a, us, rfl, h2, h3⟩ := h.lst e
    rw [intsD_rep h3 h1] at h2
    exact ⟨a, bs, rfl, SqL.of h2, q.im0 e rep_int⟩
  · cases hf
def minI : List Int → Option Int
  | [] => none
  | x :: xs => some (xs.foldl (fun a b => if b < a then b else a) x)
theorem minI_go : ∀ (xs : List Int) (x : Int), (xs.foldl (fun a b => if b < a then b else a) x = x ∨ xs.foldl (fun a b => if b < a then b else a) x ∈ xs) ∧ xs.foldl (fun a b => if b < a then b else a) x ≤ x ∧ ∀ y ∈ xs, xs.foldl (fun a b => if b < a then b else a) x ≤ y
  | [], x => ⟨.inl rfl, Int.le_refl _, fun y h => nomatch h⟩
  | z :: xs, x => by
    rw [List.foldl_cons]
    obtain ⟨h1, h2, h3⟩ := minI_go xs (if z < x then z else x)
    refine ⟨?_, ?_, fun y hy => ?_⟩
    · rcases h1 with h1 | h1
      · rw [h1]
        by_cases h : z < x
        · rw [if_pos h]; exact .inr (by simp)
        · rw [if_neg h]; exact .inl rfl
      · exact .inr (by simp [h1])
    · refine Int.le_trans h2 ?_
      split <;> omega
    · rcases List.mem_cons.mp hy with rfl | hy
      · refine Int.le_trans h2 ?_
        split <;> omega
      · exact h3 y hy
theorem minI_ok {xs : List Int} {m : Int} (h : minI xs = some m) : 0 < xs.length ∧ m ∈ xs ∧ ∀ y ∈ xs, m ≤ y := by
  cases xs with
  | nil => cases h
  | cons x xs =>
    cases h
    obtain ⟨h1, h2, h3⟩ := minI_go xs x
    refine ⟨by simp, ?_, fun y hy => ?_⟩
    · rcases h1 with h1 | h1
      · rw [h1]; simp
      · simp [h1]
    · rcases List.mem_cons.mp hy with rfl | hy
      · exact h2
      · exact h3 y hy
theorem minI_eq {xs : List Int} {m n : Int} (h : minI xs = some n) (h1 : m ∈ xs) (h2 : ∀ y ∈ xs, m ≤ y) : n = m := by
  obtain ⟨_, a, b⟩ := minI_ok h
  have := h2 n a
  have := b m h1
  omega
def pMin : List D → Option X
  | [.lst xs] => ((intsD xs).bind minI).map fun m => .im (.int m)
  | [.int i, .int j] => some (.im (.int (if j < i then j else i)))
  | _ => none
abbrev rMinU (K : Fg) : List V → Hp → VK → Prop := fun xs H Q => rMin K xs H Q ∨ ∃ i j, xs = [.int i, .int j] ∧ Q (.int (if j < i then j else i)) H
theorem call_minU {X : Cx} (hc : X.calm = true) : CallR X (.builtin "min") (rMinU X.K) := (cr_min hc).or (call_min2 hc)
theorem two_rd {d d2 : D} {vs : List V} (r : Paired (Rd2 K M H) [d, d2] vs) : ∃ v w, vs = [v, w] ∧ Rd2 K M H d v ∧ Rd2 K M H d2 w := by
  cases r with
  | cons a b =>
    cases b with
    | cons b c => cases c; exact ⟨_, _, rfl, a, b⟩
theorem ok_min : CallOk K (rMinU K) pMin := by
  intro M H ds x vs e r hf Q q
  unfold pMin at hf
  split at hf
  · obtain ⟨m, h1, rfl⟩ := Option.map_eq_some_iff.mp hf
    obtain ⟨bs, h0, h1⟩ := Option.bind_eq_some_iff.mp h1
    obtain ⟨v, rfl, h⟩ := one_rd r
    obtain ⟨a, us, rfl, h2, h3⟩ := h.lst e
    rw [intsD_rep h3 h0] at h2
    exact .inl ⟨a, bs, rfl, SqL.of h2, (minI_ok h1).1, fun m' hm hy => by rw [← minI_eq h1 hm hy]; exact q.im0 e rep_int⟩
  · cases hf
    obtain ⟨v, w, rfl, h1, h2⟩ := two_rd r
    rw [h1.int, h2.int]
    exact .inr ⟨_, _, rfl, q.im0 e rep_int⟩
  · cases hf
abbrev rInsert : V → List V → Hp → VK → Prop := fun x vs H Q => ∃ (l : Addr) (xs : List V) (i : Int) (y : V), x = .ref l ∧ vs = [.int i, y] ∧ H l = some (.lst xs) ∧ xs.length < sizeLine ∧ 0 ≤ i ∧ i < 2 ^ 63 ∧ Q .non (upd H l (.lst (xs.take i.toNat ++ [y] ++ xs.drop i.toNat)))
def mIns : OD → List D → Option (D × OD)
  | .lst xs, [.int i, d] => if 0 ≤ i ∧ rgOk i = true ∧ fit (xs.length + 1) = true then some (.non, .lst (xs.take i.toNat ++ [d] ++ xs.drop i.toNat)) else none
  | _, _ => none
theorem ok_ins : MutOk K rInsert mIns := by
  intro M H l o ds vs d o' e a m r hf Q k
  unfold mIns at hf
  split at hf
  · split at hf
    · rename_i xs i d0 hz
      cases hf
      simp only [Reps] at r
      obtain ⟨v, r1, rfl, h, v2, r2, rfl, h5, rfl⟩ := r
      obtain ⟨us, h1, h2⟩ := a
      have hv : v = .int i := by simpa [Rep] using h
      subst hv
      have := (rgOk_ok hz.2.1).1
      refine ⟨l, us, _, v2, rfl, rfl, h1, lst_len h2 hz.2.2, hz.1, by omega, k _ _ ⟨_, upd_same, ?_⟩ rep_non⟩
      exact ((h2.take _).append (Reps.cons h5 Reps.nil)).append (h2.drop _)
    · cases hf
  · cases hf
theorem pe_globE {X : Cx} {x : Str} {pos : Pos} {v : V} (hg : Gl X x) (hm : ∃ u, X.mg x = some u ∧ RelV v u) (hd : (x == ("__debug__" : Str)) = false := by decide) : PE X (.Name x pos) (tC v) := by
  obtain ⟨u, h, r⟩ := hm
  exact pe_glob hg h r hd
end
end Dn
namespace Dn
open PySem PySem.Spec PyProof.Rows L2
def fzE (i : Nat) (env : Ev) : Option Ev := match env[i]? with
  | some (.im _) => some env
  | some (.ow false o) => o.toD.map fun d => env.set i (.im d)
  | some .no => some env
  | _ => none
def fzAll : List Nat → Ev → Option Ev
  | [], env => some env
  | i :: is, env => (fzE i env).bind (fzAll is)
def dFz (is : List Nat) (ds : Ev → RS) : Ev → RS := fun env => match fzAll is env with
  | some e => ds e
  | none => .bad
section
variable {K : Fg} [WD K] {W : WS} {M M' M1 M2 : Hp} {env env' env1 env2 : Ev} {σ σ' σ1 : L2.St} {H H' H1 H2 : Hp} {x y : X} {v u : V} {te : TE} {de : Ev → RE X} {ta : TA} {da : Ev → RE (List X)} {ts : TS} {ds : Ev → RS}
theorem fzE_ok {i : Nat} (hh : Holds K M env σ H) (e : fzE i env = some env') : ∃ M', Grow M env σ H M' env' σ H ∧ Holds K M' env' σ H := by
  unfold fzE at e
  split at e
  · cases e
    exact ⟨M, .refl, hh⟩
  · rename_i o e0
    obtain ⟨d, e1, rfl⟩ := Option.map_eq_some_iff.mp e
    have hi : i < env.length := (List.getElem?_eq_some_iff.mp e0).1
    obtain ⟨l, es, a, m⟩ := hh.slot i _ e0
    obtain ⟨u, hu⟩ := a.there
    have sm : Same M (upd M l u) := fun b o q => by
      rw [upd_ne (ne_of_none q m)]
      exact q
    have ow : ∀ l2, Own (env.set i (.im d)) σ l2 → Own env σ l2 ∧ l2 ≠ l := fun l2 ⟨j, p, o2, q1, q2⟩ => by
      by_cases hj : j = i
      · subst hj
        rw [List.getElem?_set_self hi] at q1
        cases q1
      · rw [List.getElem?_set_ne (Ne.symm hj)] at q1
        exact ⟨⟨j, p, o2, q1, q2⟩, fun z => hh.dj j i l2 p o2 false o hj q1 e0 q2 (z ▸ es)⟩
    have rp : Rep K (upd M l u) d (.ref l) := by
      cases o with
      | lst xs =>
        cases e1
        obtain ⟨vs, h1, h2⟩ := a
        rw [h1] at hu
        cases hu
        simp only [Rep]
        exact ⟨l, vs, rfl, upd_same, Reps.mono sm _ _ h2⟩
      | ob c fs =>
        cases e1
        obtain ⟨dx, fvs, h1, h2⟩ := a
        rw [h1] at hu
        cases hu
        simp only [Rep]
        exact ⟨l, dx, fvs, rfl, upd_same, RepF.mono sm _ _ h2⟩
      | dk kvs =>
        cases e1
        obtain ⟨o, vs, h1, h3, h2⟩ := a
        rw [h1] at hu
        cases hu
        simp only [Rep]
        exact ⟨l, o, vs, rfl, upd_same, h3, repG_iff.mpr (RepK.mono sm h2)⟩
      | dt kvs =>
        cases e1
        obtain ⟨o, vs, h1, h3, h2⟩ := a
        rw [h1] at hu
        cases hu
        simp only [Rep]
        exact ⟨l, o, vs, rfl, upd_same, h3, repH_iff.mpr (RepT.mono sm h2)⟩
    refine ⟨upd M l u, ⟨sm, fun _ _ q _ => q, fun b o2 q => ?_, fun l2 z => .inl (ow l2 z).1, fun j s q pn => ⟨rfl, ?_⟩, fun _ q => q, by rw [List.length_set]⟩, ⟨fun b o2 q => ?_, by rw [List.length_set]; exact hh.len, fun j s q => ?_, fun j k l2 p1 o1 p2 o2 hjk q1 q2 q3 q4 => ?_⟩⟩
    · by_cases hb : b = l
      · subst hb
        exact .inr (.inr ⟨i, false, o, e0, es⟩)
      · rw [upd_ne hb] at q
        exact .inl q
    · have hj : j ≠ i := fun z => by
        subst z
        rw [e0] at q
        cases q
        cases pn
      exact ⟨s, by rw [List.getElem?_set_ne (Ne.symm hj)]; exact q, rfl⟩
    · by_cases hb : b = l
      · subst hb
        rw [upd_same] at q
        cases q
        exact hu
      · rw [upd_ne hb] at q
        exact hh.ex _ _ q
    · by_cases hj : j = i
      · subst hj
        rw [List.getElem?_set_self hi] at q
        cases q
        exact ⟨_, es, rp⟩
      · rw [List.getElem?_set_ne (Ne.symm hj)] at q
        have := hh.slot j s q
        cases s with
        | no => trivial
        | hid => trivial
        | im d2 => obtain ⟨w, e2, r⟩ := this; exact ⟨w, e2, Rep.mono sm _ _ r⟩
        | ow p2 o2 =>
          obtain ⟨l2, e2, a2, m2⟩ := this
          have hne : l2 ≠ l := fun z => hh.dj j i l2 p2 o2 false o hj q e0 e2 (z ▸ es)
          exact ⟨l2, e2, a2.mono sm fun _ z => z, by rw [upd_ne hne]; exact m2⟩
    · have f : ∀ (j : Nat) (p : Bool) (o1 : OD), (env.set i (.im d))[j]? = some (Sl.ow p o1) → env[j]? = some (Sl.ow p o1) := fun j p o1 q => by
        by_cases hj : j = i
        · subst hj
          rw [List.getElem?_set_self hi] at q
          cases q
        · rwa [List.getElem?_set_ne (Ne.symm hj)] at q
      exact hh.dj j k l2 p1 o1 p2 o2 hjk (f j p1 o1 q1) (f k p2 o2 q2) q3 q4
  · cases e
    exact ⟨M, .refl, hh⟩
  · cases e
theorem fzAll_ok : ∀ (is : List Nat) {M : Hp} {env env' : Ev}, Holds K M env σ H → fzAll is env = some env' → ∃ M', Grow M env σ H M' env' σ H ∧ Holds K M' env' σ H
  | [], M, env, env', hh, e => by
    cases e
    exact ⟨M, .refl, hh⟩
  | i :: is, M, env, env', hh, e => by
    obtain ⟨e1, h1, h2⟩ := Option.bind_eq_some_iff.mp (show (fzE i env).bind (fzAll is) = some env' from e)
    obtain ⟨M1, g1, hh1⟩ := fzE_ok hh h1
    obtain ⟨M2, g2, hh2⟩ := fzAll_ok is hh1 h2
    exact ⟨M2, g1.trans hh g2, hh2⟩
theorem ds_fz {is : List Nat} (h : DS K W ts ds) : DS K W ts (dFz is ds) := fun M σ H env hh => by
  unfold dFz
  cases e : fzAll is env with
  | none => trivial
  | some env' =>
    obtain ⟨M', g, hh'⟩ := fzAll_ok is hh e
    exact SatS.later hh g (h M' σ H env' hh')
end
end Dn
namespace Dn
open PySem PySem.Spec PyProof.Rows L2 NdefX
def PSsC (X : Cx) (c : Code) (st : List Stmt) (t : TS) : Prop := ∀ (pins : List (Addr × Obj)) (s : Shared) (σ : L2.St) (H : Hp) (D : Ends), Inv X pins σ H s → t D σ H → _root_.PySem.wpAt (model X.prog X.w) X.A c (execs st X.env) (SP X pins D) X.xe s
section
end
/-- what the written part says of such a function, at f: its class at D, the cell at cc -/
structure FunC (K : Fg) (mf : Str) (D : Addr) (name qual : Str) (params : Arguments) (body : List Stmt) (scope : Scope) (f : Addr) (fd : FuncData) : Prop where
  ex : ∃ (oc cl : Value) (od cld : Option Addr) (kV doc pm : Value) (an : Option Addr) (ct : Value) (osl csl : Array (Option Value)) (cc cda : Addr) (cvs : Array Value) (ccl : Value) (cdd : Option Addr) (ccs : Array (Option Value)) (tf : Tok),
    fd = PySem.W.fnX name qual params body scope [("__class__", cc)] .none kV doc pm an (.ref cda) ct ∧ K.lookup f = some ⟨oc, od, .func fd, osl⟩ ∧ PySem.W.codeIn K (.ref cda) qual = true ∧
    K.lookup cc = some ⟨cl, cld, .cell (some (.ref D)), csl⟩ ∧ K.lookup cda = some ⟨ccl, cdd, .fields cvs, ccs⟩ ∧ cvs[2]? = some (.str mf tf)
  kp : PySem.W.keepIn K (.ref f) = true
abbrev nfC (name qual : Str) (params : Arguments) (body : List Stmt) (scope : Scope) (cc cda : Addr) : NF := ⟨name, qual, params, body, scope, [("__class__", cc)], cda⟩
section
variable {CX : CXT} {P : Program} {w : World} {K : Fg} [WD K] {mg : Str → Option Value} {base : Heap} {N ps : List Str} {mf : Str} {D : Addr} {name qual : Str} {params : Arguments} {body : List Stmt} {scope : Scope} {f : Addr} {fd : FuncData} {k : Nat} {sp : Sp}
/-- THE RULE: such a def by its body -/
theorem FunC.ok (F : FunC K mf D name qual params body scope f fd) (S : NScope N ps ["__class__"] scope) (len : ∀ vs H Q E, sp vs H Q E → vs.length = ps.length)
    (hbody : ∀ (cc cda : Addr) (A : Around) (outer : List Env) (s : Shared) (H : Hp) (vs : List V) (Q : VK) (E : XK), Room k (A.deeper (envF (nfC name qual params body scope cc cda) f s.heap.objs.size)) → sp vs H Q E →
      (∃ oc od osl kV doc pm an ct, K.lookup f = some ⟨oc, od, .func (PySem.W.fnX name qual params body scope [("__class__", cc)] .none kV doc pm an (.ref cda) ct), osl⟩) → (∃ cl cld csl, K.lookup cc = some ⟨cl, cld, .cell (some (.ref D)), csl⟩) →
      (∃ ccl cdd cvs ccs tf, K.lookup cda = some ⟨ccl, cdd, .fields cvs, ccs⟩ ∧ cvs[2]? = some (.str mf tf)) →
      ∃ t, PSsC (ncx CX P w K mg base N (nfC name qual params body scope cc cda) f A outer s H E) (.func body (envF (nfC name qual params body scope cc cda) f s.heap.objs.size)) body t ∧ t { nx := fun _ H' => Q .non H', rt := Q } (startF N vs [some (.ref D)]) H) :
    FnOk P w K mg base CX (k + 1) f fd ps sp := by
  obtain ⟨oc, cl, od, cld, kV, doc, pm, an, ct, osl, csl, cc, cda, cvs, ccl, cdd, ccs, tf, rfl, lk, hcd, hcell, hcda, hmf⟩ := F.ex
  refine ⟨len, fun A outer s H args us vs Q E hr e0 hb r hsp => ?_⟩
  have hl := len _ _ _ _ hsp
  have KX : K.In s.heap := e0.mod.kin.keeps fun b o e => (e0.bs b o e).1
  have lim : s.heap.NoLimit := e0.mod.nolimit.keeps fun b o e => (e0.bs b o e).1
  refine codeAny_call_function hr.depth (KX _ _ lk) rfl S.co S.gen rfl (PySem.W.codeRec_of KX hcd) (hb _ _ _ _ ?_)
  refine wpAny_newFunctionEnv S.nocell (fun ⟨n, _⟩ hy => S.par n (List.of_mem_zip hy).1) (fun h₁ hns hsb => ⟨lim.fresh _ hsb, ?_⟩) S.kind
  have kp : ∀ b o, s.heap.get? b = some o → h₁.get? b = some o := fun b o e => hsb.extBut b o (Nat.ne_of_lt (Heap.lt_size e)) (Heap.get?_push_of_some _ e)
  have hcc : base.get? cc = some ⟨cl, cld, .cell (some (.ref D)), csl⟩ := e0.mod.kin _ _ hcell
  have C : CellsAt [("__class__", cc)] ["__class__"] [some (.ref D)] s.heap H := by
    refine ⟨rfl, fun y c e => ?_, fun x y c e1 e2 => ?_, fun i y e => ?_⟩
    · have : c = cc := by
        simp only [List.lookup] at e
        split at e <;> simp at e
        exact e.symm
      subst this
      exact ⟨(e0.bs _ _ hcc).2, _, _, (e0.bs _ _ hcc).1, rfl⟩
    · have f : ∀ z, List.lookup z [(("__class__" : Str), cc)] = some c → z = "__class__" := fun z h => by
        simp only [List.lookup] at h
        split at h
        · rename_i q; exact beq_iff_eq.mp q
        · simp at h
      rw [f x e1, f y e2]
    · cases i with
      | zero =>
        simp at e
        subst e
        exact ⟨cc, rfl, fun v hv => by simp at hv; subst hv; exact ⟨.ref D, rfl, _, (e0.bs _ _ hcc).1, rfl⟩⟩
      | succ i => simp at e
  obtain ⟨t, ht, hq⟩ := hbody cc cda A outer s H vs Q E (hr.deeper _) hsp ⟨_, _, _, _, _, _, _, _, lk⟩ ⟨_, _, _, hcell⟩ ⟨_, _, _, _, _, hcda, hmf⟩
  show codeAny _ _ (.func body (envF (nfC name qual params body scope cc cda) f s.heap.objs.size)) _ _
  have I : Inv (ncx CX P w K mg base N (nfC name qual params body scope cc cda) f A outer s H E) [] (startF N vs [some (.ref D)]) H { s with heap := h₁, toks := s.toks + (ps.zip us).length } := inv_startN S hr.hd e0 hl r C hns kp
  refine ks_codeAny_funcAt (ks_wpAt_mono (ht [] _ _ H _ I hq) (fun fl s' hs => ?_) fun e s' hs => hs)
  have fin : ∀ {σ' : L2.St} {H' : Hp} {v : V} {u : Value}, Inv (ncx CX P w K mg base N (nfC name qual params body scope cc cda) f A outer s H E) [] σ' H' s' → L2.RelV v u → Q v H' → CE outer P w H s Q u s' :=
    fun {σ' H' v u} J rv q => ⟨v, H', J.os, J.bare, J.base, J.hok, rv, q⟩
  cases fl with
  | ret u =>
    obtain ⟨v, σ', H', J, rv, q⟩ := hs
    exact fin J rv q
  | next =>
    obtain ⟨σ', H', J, q⟩ := hs
    exact fin (v := V.non) (u := Value.none) J rfl q
  | brk =>
    obtain ⟨_, _, _, q⟩ := hs
    exact False.elim q
  | cont =>
    obtain ⟨_, _, _, q⟩ := hs
    exact False.elim q
end
end Dn
namespace Dn
open PySem PySem.Spec PyProof.Rows L2 NdefX
section
end
/-- what the written part says of the exception class at C beside OexC -/
structure OexS (K : Fg) (C : Addr) : Prop extends OexC K C where
  ve : PySem.W.subIn K (.ref C) (.type "ValueError") = some true
  self : PySem.W.mroIn K C (.ref C) = some true
  sup : PySem.W.ks_superIn K C C "__init__" = some (some (.builtin "ValueError.__init__"))
  opq : PySem.W.nsIn K cStatics "thirdparty.any" = some none
section
end
end Dn
namespace Dn
open PySem PySem.Spec PyProof.Rows L2 NdefX
section
end
section
variable {K : Fg} [WD K] {W : WS} {M M' M1 M2 : Hp} {env env' env1 env2 : Ev} {σ σ' σ1 : L2.St} {H H' H1 H2 : Hp} {ta : TA} {da : Ev → RE (List X)}
theorem RepF.append : ∀ {xs ys : List (Str × D)} {vs us : List (Str × V)}, RepF K M xs vs → RepF K M ys us → RepF K M (xs ++ ys) (vs ++ us)
  | [], ys, vs, us, h, h' => by
    simp only [RepF] at h
    subst h
    exact h'
  | (k, x) :: xs, ys, vs, us, h, h' => by
    simp only [RepF] at h
    obtain ⟨v, r, rfl, h1, h2⟩ := h
    simp only [List.cons_append, RepF]
    exact ⟨v, _, rfl, h1, RepF.append h2 h'⟩
theorem RepF.reverse : ∀ {xs : List (Str × D)} {vs : List (Str × V)}, RepF K M xs vs → RepF K M xs.reverse vs.reverse
  | [], vs, h => by
    simp only [RepF] at h
    subst h
    simp [RepF]
  | (k, x) :: xs, vs, h => by
    simp only [RepF] at h
    obtain ⟨v, r, rfl, h1, h2⟩ := h
    rw [List.reverse_cons, List.reverse_cons]
    refine RepF.append (RepF.reverse h2) ?_
    simp only [RepF]
    exact ⟨v, [], rfl, h1, rfl⟩
end
section
end
/-- exceptions are not looked for -/
def RE.calm {α : Type} : RE α → RE α
  | .exc _ _ => .bad
  | r => r
section
variable {K : Fg} [WD K] {W : WS} {m : Ev → RE X} {ta : TA} {da : Ev → RE (List X)}
theorem de_callS (hm : NoSl m) (ha : DA K W ta da) : DE K W (tCallSD (spD K m) [] W ta) (dCall m da) := fun M σ H env hh => by
  have h1 := ha M σ H env hh
  unfold dCall
  cases e1 : da env with
  | bad => trivial
  | exc e env1 => rw [e1] at h1; exact fun Q k => h1 _ k
  | ok xs env1 =>
    rw [e1] at h1
    show Sat K _ M σ H env (match passXs env1 xs with
      | none => .bad
      | some ps => if (slots xs).Nodup ∧ temps xs ≤ 1 then match m ps with
          | .ok y ps' => .ok y (wb xs ps' env1)
          | .exc e ps' => .exc e (wb xs ps' env1)
          | .bad => .bad
        else .bad) (RX K σ) _
    cases e2 : passXs env1 xs with
    | none => trivial
    | some ps =>
      show Sat K _ M σ H env (if (slots xs).Nodup ∧ temps xs ≤ 1 then match m ps with
          | .ok y ps' => .ok y (wb xs ps' env1)
          | .exc e ps' => .exc e (wb xs ps' env1)
          | .bad => .bad
        else .bad) (RX K σ) _
      by_cases nd : (slots xs).Nodup ∧ temps xs ≤ 1
      · rw [if_pos nd]
        cases e3 : m ps with
        | bad => trivial
        | ok y ps' =>
          refine fun Q k => h1 _ fun vs M1 H1 g s hh1 r => ?_
          rw [List.append_nil]
          refine ⟨_, ps, call_in hh g hh1 r e2 nd.1 nd.2, ?_⟩
          rw [e3]
          intro v M2 H2 g2 s2 hh2 ry
          obtain ⟨a, b, c, d⟩ := call_out hh g s hh1 r e2 nd.1 g2 s2 hh2
          exact k v M2 H2 a b c (d y v ry (hm ps y ps' e3))
        | exc x ps' =>
          refine fun Q k => h1 _ fun vs M1 H1 g s hh1 r => ?_
          rw [List.append_nil]
          refine ⟨_, ps, call_in hh g hh1 r e2 nd.1 nd.2, ?_⟩
          rw [e3]
          intro cls dd M2 H2 g2 s2 hh2 ry
          obtain ⟨a, b, c, d⟩ := call_out hh g s hh1 r e2 nd.1 g2 s2 hh2
          exact k cls dd M2 H2 a b c ry
      · rw [if_neg nd]
        trivial
end
end Dn
namespace Dn
open PySem PySem.Spec PyProof.Rows L2 NdefX
section
end
section
end
end Dn
namespace Dn
open PySem PySem.Spec PyProof.Rows L2 NdefX
/-- slot i let go -/
def unSl (i : Nat) (env : Ev) : Option Ev := match env[i]? with
  | none => none
  | some (.ow true _) => none
  | some .hid => none
  | some _ => some (env.set i .no)
section
end
def RS.un (oi : Option Nat) (r : RS) : RS := match oi with
  | none => (match r with
    | .exc _ _ => .bad
    | r => r)
  | some i => (match r with
    | .nx e => optS (unSl i e)
    | .rt x e => .rt x e
    | .bk e => (match unSl i e with
      | some e' => .bk e'
      | none => .bad)
    | .ct e => (match unSl i e with
      | some e' => .ct e'
      | none => .bad)
    | _ => .bad)
section
end
section
end
end Dn
namespace Dn
open PySem PySem.Spec PyProof.Rows L2 NdefX
section
variable {K : Fg} [WD K] {W : WS} {te : TE} {de : Ev → RE X} {cs : List Str} {n : Str}
theorem repF_lookup {M : Hp} : ∀ {xs : List (Str × D)} {vs : List (Str × V)} {d : D}, RepF K M xs vs → xs.lookup n = some d → ∃ v, vs.lookup n = some v ∧ Rep K M d v
  | [], vs, d, h, e => nomatch e
  | (k, x) :: xs, vs, d, h, e => by
    simp only [RepF] at h
    obtain ⟨v, r, rfl, h1, h2⟩ := h
    rw [List.lookup_cons] at e ⊢
    cases q : (n == k) with
    | true =>
      rw [q] at e
      cases e
      exact ⟨v, rfl, h1⟩
    | false =>
      rw [q] at e
      exact repF_lookup h2 e
end
end Dn
namespace PySem.W
open PySem PySem.Spec PySem.Calls PyProof.Rows
section
end
end PySem.W
namespace Dn
open PySem PySem.Spec PyProof.Rows L2 NdefX
theorem de_cls {K : Fg} [WD K] {W : WS} {C : Str} : DE K W (tC (.ref (He.ga K C))) (dC (.cls C)) := de_c _ _ fun M => by simp [Rep]
def fndB (K : Fg) (C : Value) (n : Str) (v : Option Value) : Bool := decide (PySem.W.findIn K C n = some v)
def excCB (K : Fg) (C : Addr) : Bool := fndB K (.ref C) "__getattribute__" (some (.builtin "BaseException.__getattribute__")) && (fndB K (.ref C) "__getattr__" none && (decide (PySem.W.subIn K (.ref C) (.type "BaseException") = some true) && (PySem.W.hasDictIn K C && (fndB K (.ref C) "__class__" (some (.builtin "object.__class__")) &&
  (decide (PySem.W.specialIn K (.builtin "object.__class__") "__get__" = some (some (.builtin "getset_descriptor.__get__"))) && (decide (PySem.W.takesIn K (.builtin "object.__class__") = some true) && decide (PySem.W.mroIn K C (.type "object") = some true)))))))
theorem excCB_ok {K : Fg} [WD K] {C : Addr} (h : excCB K C = true) : ExcC K C ∧ XfC K C := by
  obtain ⟨h1, h⟩ := He.ba h
  obtain ⟨h2, h⟩ := He.ba h
  obtain ⟨h3, h⟩ := He.ba h
  obtain ⟨h4, h⟩ := He.ba h
  obtain ⟨h5, h⟩ := He.ba h
  obtain ⟨h6, h⟩ := He.ba h
  obtain ⟨h7, h8⟩ := He.ba h
  exact ⟨⟨of_decide_eq_true h1, of_decide_eq_true h2, of_decide_eq_true h3, h4, of_decide_eq_true h5, of_decide_eq_true h6, of_decide_eq_true h7, of_decide_eq_true h8⟩, ⟨of_decide_eq_true h1, of_decide_eq_true h2, of_decide_eq_true h3, h4⟩⟩
def oexB (K : Fg) (C : Addr) : Bool := (match K.lookup C with
  | some ⟨.type "type", _, .cls cd, sl⟩ => (match cd.mro, sl.toList with
    | .ref C' :: bm, [_, _, _, _, some (.builtin n), _] => C' == C && (n == "ValueError.__new__" && (!cd.hasDel && (cd.hasDict && PySem.HandSPX.refsVE bm)))
    | _, _ => false)
  | _ => false) && (fndB K (.ref C) "__setattr__" (some (.builtin "object.__setattr__")) && (decide (PySem.W.subIn K (.ref C) (.type "BaseException") = some true) && (decide (PySem.W.typeIn K (.ref C) = some (.type "type")) && PySem.W.keepIn K (.ref C))))
theorem oexB_ok {K : Fg} [WD K] {C : Addr} (h : oexB K C = true) : OexC K C := by
  obtain ⟨h1, h⟩ := He.ba h
  obtain ⟨h2, h⟩ := He.ba h
  obtain ⟨h3, h⟩ := He.ba h
  obtain ⟨h4, h5⟩ := He.ba h
  refine ⟨?_, of_decide_eq_true h2, of_decide_eq_true h3, of_decide_eq_true h4, h5⟩
  split at h1
  · rename_i dd cd sl ho
    split at h1
    · rename_i C' bm k0 k1 k2 k3 n k5 hm hs
      simp only [Bool.and_eq_true, beq_iff_eq, Bool.not_eq_true'] at h1
      obtain ⟨rfl, rfl, hdel, hdict, ht⟩ := h1
      obtain ⟨nm, bs, mro, ns, qn, hd, sn, sub, ab, col, del⟩ := cd
      dsimp only at hm hdel hdict
      subst hm hdel hdict
      have hsl : sl = #[k0, k1, k2, k3, some (.builtin "ValueError.__new__"), k5] := by
        obtain ⟨l⟩ := sl
        simp only at hs
        rw [hs]
      subst hsl
      exact ⟨nm, qn, ns, bs, bm, sn, sub, ab, col, dd, k0, k1, k2, k3, k5, ho, ht⟩
    · cases h1
  · cases h1
def oexSB (K : Fg) (C : Addr) : Bool := oexB K C && (decide (PySem.W.subIn K (.ref C) (.type "ValueError") = some true) && (decide (PySem.W.mroIn K C (.ref C) = some true) && (decide (PySem.W.ks_superIn K C C "__init__" = some (some (.builtin "ValueError.__init__"))) && decide (PySem.W.nsIn K cStatics "thirdparty.any" = some none))))
theorem oexSB_ok {K : Fg} [WD K] {C : Addr} (h : oexSB K C = true) : OexS K C := by
  obtain ⟨h1, h⟩ := He.ba h
  obtain ⟨h2, h⟩ := He.ba h
  obtain ⟨h3, h⟩ := He.ba h
  obtain ⟨h4, h5⟩ := He.ba h
  exact { oexB_ok h1 with ve := of_decide_eq_true h2, self := of_decide_eq_true h3, sup := of_decide_eq_true h4, opq := of_decide_eq_true h5 }
/-- own facts -/
inductive Fx where
  | oex (c : Str) | exc (c : Str) | noat (c f : Str) | exm (c d : Str) (b : Bool) | kit (c d : Str) (b : Bool) | kitT (c : Str) (n : String) (b : Bool) | ini (c : Str)
  | any (f : Fg → Bool)
def Fx.ok (K : Fg) : Fx → Bool
  | .any f => f K
  | .oex c => oexSB K (He.ga K c)
  | .exc c => excCB K (He.ga K c)
  | .noat c f => fndB K (.ref (He.ga K c)) f none
  | .exm c d b => decide (PySem.W.exmOne K (.ref (He.ga K c)) (.ref (He.ga K d)) = some b)
  | .kit c d b => decide (PySem.W.kitOne K (.ref (He.ga K c)) (.ref (He.ga K d)) = some b)
  | .kitT c n b => decide (PySem.W.kitOne K (.ref (He.ga K c)) (.type n) = some b)
  | .ini c => decide (PySem.W.findIn K (.ref (He.ga K c)) "__init__" = some (some (.ref (He.ma K (He.ga K c) "__init__")))) && decide (PySem.W.typeIn K (.ref (He.ma K (He.ga K c) "__init__")) = some (.type "function"))
/-- a method that knows its class: the class, its name -/
structure FnS where
  cls : Str
  name : Str
  qual : Str
  params : Arguments
  body : List Stmt
  scope : Scope
  /-- 0 a method that knows its class, 1 a property's getter, 2 a class method's def -/
  kind : Nat := 0
/-- what a descriptor of the class holds first -/
def dsA (K : Fg) (T : String) (C : Addr) (m : Str) : Addr := match PySem.W.findIn K (.ref C) m with
  | some (some (.ref p)) => (match PySem.W.recIn K p T with
    | some (.ref g :: _) => g
    | _ => C)
  | _ => C
abbrev pgA (K : Fg) (C : Addr) (m : Str) : Addr := dsA K "property" C m
abbrev cmA (K : Fg) (C : Addr) (m : Str) : Addr := dsA K "classmethod" C m
def FnS.adr (K : Fg) (d : FnS) : Addr := match d.kind with
  | 0 => He.ma K (He.ga K d.cls) d.name
  | 1 => pgA K (He.ga K d.cls) d.name
  | _ => cmA K (He.ga K d.cls) d.name
abbrev FnSV : Type := Option (Str × Str × Arguments × FuncBody × Scope × Addr × Addr)
def fnS (K : Fg) (d : FnS) : FnSV := match K.lookup (d.adr K) with
  | some ⟨_, _, .func fd, _⟩ => some (fd.name, fd.qualname, fd.params, fd.body, fd.scope, fd.globals, fd.builtins)
  | _ => none
def FnS.val (d : FnS) : FnSV := some (d.name, d.qual, d.params, .stmts d.body, d.scope, mainGlobals, builtinsNs)
def FnS.ok (mf : Str) (K : Fg) (d : FnS) : Bool := PySem.W.keepIn K (.ref (d.adr K)) && (match K.lookup (d.adr K) with
  | some ⟨_, _, .func fd, _⟩ => bif d.kind != 0 then fd.closure.isEmpty && (PySem.W.codeIn K fd.code d.qual && (He.dflB K fd.defaults [] && He.kwdB K fd.kwdefaults [])) else (match fd.defaults, fd.closure, fd.code with
    | .none, [(x, cc)], .ref cda => (x == ("__class__" : Str)) && (PySem.W.codeIn K (.ref cda) d.qual && ((match K.lookup cc with
      | some ⟨_, _, .cell (some (.ref D)), _⟩ => D == He.ga K d.cls
      | _ => false) && (match K.lookup cda with
        | some ⟨_, _, .fields vs, _⟩ => (match vs[2]? with
          | some (Value.str f _) => decide (f = mf)
          | _ => false)
        | _ => false)))
    | _, _, _ => false)
  | _ => false)
theorem FnS.funP {K : Fg} {mf : Str} {d : FnS} (hk : (d.kind != 0) = true) (e : fnS K d = d.val) (c : d.ok mf K = true) : ∃ fd, FunD K d.name d.qual d.params d.body d.scope [] [] (d.adr K) fd := by
  obtain ⟨kp, c2⟩ := He.ba c
  unfold fnS at e
  generalize d.adr K = ad at *
  rw [hk] at c2
  cases q : K.lookup ad with
  | none =>
    rw [q] at c2
    cases c2
  | some o =>
    obtain ⟨oc, od, dt, osl⟩ := o
    rw [q] at c2 e
    cases dt with
    | func fd =>
      obtain ⟨n1, n2, n3, n4, n5, n6, n7, n8, n9, n10, n11, n12, n13, n14, n15⟩ := fd
      have e2 : (some (n1, n2, n3, n4, n5, n6, n15) : FnSV) = some (d.name, d.qual, d.params, .stmts d.body, d.scope, mainGlobals, builtinsNs) := e
      simp only [Option.some.injEq, Prod.mk.injEq] at e2
      obtain ⟨h1, h2, h3, h4, h5, h6, h7⟩ := e2
      have c3 : (n7.isEmpty && (PySem.W.codeIn K n13 d.qual && (He.dflB K n8 [] && He.kwdB K n9 []))) = true := c2
      obtain ⟨k0, k1⟩ := He.ba c3
      obtain ⟨k1, k2⟩ := He.ba k1
      obtain ⟨k3, k4⟩ := He.ba k2
      obtain rfl : n7 = [] := List.isEmpty_iff.mp k0
      subst h1 h2 h3 h4 h5 h6 h7
      exact ⟨_, ⟨oc, od, n8, n9, n10, n11, n12, n13, n14, osl, rfl, q, k1, He.dflB_ok k3, He.kwdB_ok k4⟩, kp⟩
    | _ => cases c2
abbrev AlX : Type := He.AlD × Bool × List FnSV
def obsX (mf : Str) (fa : List He.Fa) (fn : List He.DefD) (fx : List Fx) (fs : List FnS) (K : Fg) : AlX := (He.obsD fa fn K, (fx.all fun f => f.ok K) && fs.all fun d => d.ok mf K, fs.map (fnS K))
def valX (fn : List He.DefD) (fs : List FnS) : AlX := (He.valD fn, true, fs.map FnS.val)
def SaysX (mf : Str) (fa : List He.Fa) (fn : List He.DefD) (fx : List Fx) (fs : List FnS) (K : Fg) : Prop := obsX mf fa fn fx fs K = valX fn fs
section
variable {mf : Str} {fa : List He.Fa} {fn : List He.DefD} {fx : List Fx} {fs : List FnS} {K : Fg} [WD K]
theorem SaysX.dd (c : SaysX mf fa fn fx fs K) : He.SaysD fa fn K := congrArg (fun z : AlX => z.1) c
theorem SaysX.fact (c : SaysX mf fa fn fx fs K) (i : Nat) {f : Fx} (h : fx[i]? = some f := by rfl) : f.ok K = true := by
  have c1 := (He.ba (show ((fx.all fun f => f.ok K) && fs.all fun d => d.ok mf K) = true from congrArg (fun z : AlX => z.2.1) c)).1
  exact List.all_eq_true.mp c1 f (List.mem_of_getElem? h)
theorem SaysX.mem (c : SaysX mf fa fn fx fs K) {f : Fx} (h : f ∈ fx) : f.ok K = true := by
  have c1 := (He.ba (show ((fx.all fun f => f.ok K) && fs.all fun d => d.ok mf K) = true from congrArg (fun z : AlX => z.2.1) c)).1
  exact List.all_eq_true.mp c1 f h
theorem SaysX.getter (c : SaysX mf fa fn fx fs K) (i : Nat) {d : FnS} (h : fs[i]? = some d := by rfl) (hk : (d.kind != 0) = true := by rfl) : ∃ fd, FunD K d.name d.qual d.params d.body d.scope [] [] (d.adr K) fd := by
  have c2 := (He.ba (show ((fx.all fun f => f.ok K) && fs.all fun d => d.ok mf K) = true from congrArg (fun z : AlX => z.2.1) c)).2
  have e : fs.map (fnS K) = fs.map FnS.val := congrArg (fun z : AlX => z.2.2) c
  have e2 : (fs.map (fnS K))[i]? = (fs.map FnS.val)[i]? := by rw [e]
  rw [List.getElem?_map, List.getElem?_map, h] at e2
  exact FnS.funP hk (Option.some.inj e2) (List.all_eq_true.mp c2 d (List.mem_of_getElem? h))
end
end Dn
namespace Dn
open PySem PySem.Spec PyProof.Rows L2 NdefX
def tTM (K : Fg) (r : V → List V → Hp → VK → Prop) (to : TE) (t : TA) : TE := fun σ H Q => to σ H fun x H1 => (∃ p xs, x = .ref p ∧ SqN K H1 p xs) ∧ t σ H1 fun xs H2 => r x xs H2 Q
theorem pe_tm {X : Cx} {o e : Expr} {es : List Expr} {to : TE} {t : TA} {name : Str} {apos cpos : Pos} {id : String} {r : V → List V → Hp → VK → Prop} (slot : Slot "tuple" name id) (hty : typeOf (.builtin id) = pure (.type "method_descriptor")) (hm : MtR X id r) (ho : PE X o to) (ha : PA X (e :: es) t)
    (hbase : attributeBase o name X.env (eval o X.env) = eval o X.env := by rfl)
    (hfew : ((backTo cpos (starEach (e :: es) X.env)).all (fun x => !x.1) && (backToKw cpos (keywordEach [] X.env)).all (fun x => x.1.isSome)
      && decide ((e :: es).length + ([] : List Keyword).length + (if ([] : List Keyword).isEmpty then 0 else 1) < 30)) = true := by rfl)
    (hline : (apos.endLine == cpos.line) = true := by rfl) (hs : starEach (e :: es) X.env = (false, eval e X.env) :: starEach es X.env := by rfl) (hplain : (backTo cpos (starEach es X.env)).any (·.1) = false := by rfl) :
    PE X (.Call (.Attribute o name apos) (e :: es) [] cpos) (tTM X.K r to t) := by
  refine ⟨fun pins s σ H Q I h => ?_⟩
  refine wpAny_Call_method_late hbase hfew hline rfl (thn (ho.run pins s σ H _ I h) fun v s1 ⟨x, H1, I1, r1, ty, q1⟩ => ?_)
  obtain ⟨p, xs, rfl, hq⟩ := ty
  obtain rfl : v = Value.ref p := r1
  have hh : s1.TypeIs (.ref p) "tuple" ∧ ∀ a, Value.ref p = .ref a → ∃ ob, s1.heap.get? a = some ob ∧ ob.dict = none := by
    rcases hq with ⟨ob, h1, h2⟩ | ⟨ob, its, n, h1, h2, h3, _⟩
    · obtain ⟨e1, z, its, r', pl⟩ := I1.hok p _ h1
      obtain ⟨o', ho', hc', _⟩ := pl
      refine ⟨⟨o', ho', hc'⟩, fun a e => ?_⟩
      cases e
      exact ⟨ob, e1, h2⟩
    · refine ⟨⟨ob, I1.kIn p ob h1, h2⟩, fun a e => ?_⟩
      cases e
      exact ⟨ob, I1.kIn _ ob h1, h3⟩
  refine ⟨"tuple", id, PySem.F.plainAttrs_tuple, slot, hty, hh.1, hh.2, ?_⟩
  have hA := ha.run cpos pins s1 σ H1 _ I1 q1
  rw [hs] at hA ⊢
  refine Calls.callWith_builtin (by show (false || (backTo cpos (starEach es X.env)).any (·.1)) = false; rw [hplain] <;> rfl) (Calls.evalArgs_plain ?_)
  exact thn hA fun us s2 ⟨vs, H2, I2, r2, q2⟩ => hm pins s2 σ H2 (.ref p) vs _ us Q I2 rfl r2 q2
abbrev rTIx (K : Fg) : V → List V → Hp → VK → Prop := fun x xs H Q => ∃ p, ∃ ys : List Str, ∃ z j, x = .ref p ∧ xs = [.str z] ∧ SqT K H p (ys.map V.str) ∧ ys[j]? = some z ∧ (∀ m, m < j → ys[m]? ≠ some z) ∧ Q (.int (j : Nat)) H
/-- the first place of z -/
def ixOf (z : Str) : List Str → Option Nat
  | [] => none
  | y :: ys => if y = z then some 0 else (ixOf z ys).map (· + 1)
theorem ixOf_ok {z : Str} : ∀ {ys : List Str} {j : Nat}, ixOf z ys = some j → ys[j]? = some z ∧ ∀ m, m < j → ys[m]? ≠ some z
  | [], j, e => nomatch e
  | y :: ys, j, e => by
    have e' : (if y = z then some 0 else (ixOf z ys).map (· + 1)) = some j := e
    by_cases h : y = z
    · rw [if_pos h] at e'
      cases e'
      exact ⟨by simp [h], fun m hm => absurd hm (Nat.not_lt_zero _)⟩
    · rw [if_neg h] at e'
      obtain ⟨k, e1, rfl⟩ := Option.map_eq_some_iff.mp e'
      obtain ⟨h1, h2⟩ := ixOf_ok e1
      refine ⟨by simpa using h1, fun m hm => ?_⟩
      cases m with
      | zero => simpa using h
      | succ m => simpa using h2 m (by omega)
/-- t.index(z) -/
def dTIx (da db : Ev → RE X) : Ev → RE X := fun env => (da env).bind fun x e1 => match x with
  | .im (.tup xs) => (db e1).bind fun y e2 => match y with
    | .im (.str z) => opt ((textsD xs).bind fun ys => (ixOf z ys).map fun j => .im (.int (j : Nat))) e2
    | _ => .bad
  | _ => .bad
section
variable {K : Fg} [WD K] {W : WS} {te tb : TE} {de db : Ev → RE X}
theorem de_tix (ha : DE K W te de) (hb : DE K W tb db) : DE K W (tTM K (rTIx K) te (tCons tb tNil)) (dTIx de db) := fun M σ H env hh => by
  refine Sat.bind (c := fun v H1 Q => (∃ p xs, v = V.ref p ∧ SqN K H1 p xs) ∧ tb σ H1 fun y H2 => rTIx K v [y] H2 Q) back_x hh (ha M σ H env hh) (fun Q q => q) fun M1 H1 env1 x v g1 s1 hh1 r1 => ?_
  cases x with
  | sl i => trivial
  | ow o => trivial
  | im d =>
    cases d with
    | tup xs =>
      have r := r1.1
      simp only [RepX, Rep] at r
      obtain ⟨a, vs, rfl, h1, h2⟩ := r
      refine Sat.bind (c := fun u H2 Q => rTIx K (.ref a) [u] H2 Q) back_x hh1 (hb M1 σ H1 env1 hh1) (fun Q q => ⟨⟨a, vs, rfl, h1.mono hh1.ex⟩, q⟩) fun M2 H2 env2 y u g2 s2 hh2 r2 => ?_
      cases y with
      | sl i => trivial
      | ow o => trivial
      | im dy =>
        cases dy with
        | str z =>
          show Sat K W M2 σ H2 env2 (opt ((textsD xs).bind fun ys => (ixOf z ys).map fun j => .im (.int (j : Nat))) env2) (RX K σ) _
          cases e1 : textsD xs with
          | none => trivial
          | some ys =>
            show Sat K W M2 σ H2 env2 (opt ((ixOf z ys).map fun j => X.im (.int (j : Nat))) env2) (RX K σ) _
            cases e2 : ixOf z ys with
            | none => trivial
            | some j =>
              intro Q k
              have hz : u = .str z := by simpa [RepX, Rep] using r2.1
              subst hz
              have := textsD_ok e1 h2
              subst this
              obtain ⟨k1, k2⟩ := ixOf_ok e2
              exact ⟨a, ys, z, j, rfl, rfl, (h1.mono (g2.exM.trans hh2.ex)).t, k1, k2, k _ _ _ .refl (.refl _) hh2 (rx_im rep_int)⟩
        | _ => trivial
    | _ => trivial
end
def RS.calm : RS → RS
  | .exc _ _ => .bad
  | r => r
section
end
abbrev XTab := List ((Str × Str) × Bool)
def XTab.get (t : XTab) (c C : Str) : Option Bool := t.lookup (c, C)
abbrev XTab2 := List ((Str × String) × Bool)
def XTab2.get (t : XTab2) (c : Str) (C : String) : Option Bool := t.lookup (c, C)
theorem lookup_mem {α β : Type} [BEq α] [LawfulBEq α] {a : α} {b : β} : ∀ {t : List (α × β)}, t.lookup a = some b → (a, b) ∈ t
  | [], e => nomatch e
  | (a', b') :: t, e => by
    rw [List.lookup_cons] at e
    cases q : (a == a') with
    | true =>
      rw [q] at e
      cases e
      rw [eq_of_beq q]
      exact List.mem_cons_self
    | false =>
      rw [q] at e
      exact List.mem_cons_of_mem _ (lookup_mem e)
end Dn
namespace Dn
open PySem PySem.Spec PyProof.Rows L2
section
end
end Dn
namespace Dn
open PySem PySem.Spec PyProof.Rows L2 NdefX
def callD (m : Ev → RE X) (xs : List X) (env : Ev) : RE X := match passXs env xs with
  | none => .bad
  | some ps => if (slots xs).Nodup ∧ temps xs ≤ 1 then match m ps with
      | .ok y ps' => .ok y (wb xs ps' env)
      | .exc e ps' => .exc e (wb xs ps' env)
      | .bad => .bad
    else .bad
/-- what is wanted behind an outcome -/
def KX (K : Fg) [WD K] (E : XK) (M : Hp) (σ : L2.St) (H : Hp) (env : Ev) (Q : VK) : RE X → Prop
  | .ok y env2 => ∀ v M' H', Grow M env σ H M' env2 σ H' → Shape env env2 → Holds K M' env2 σ H' → RX K σ H M' H' env2 y v → Q v H'
  | .exc e env2 => ∀ cls d M' H', Grow M env σ H M' env2 σ H' → Shape env env2 → Holds K M' env2 σ H' → RepE K M' H' e cls d → E cls d H'
  | .bad => False
section
variable {K : Fg} [WD K] {W : WS} {E : XK} {M M' M1 M2 : Hp} {env env' env1 env2 : Ev} {σ σ' σ1 : L2.St} {H H' H1 H2 : Hp} {x y : X} {v u : V} {xs : List X} {vs : List V} {m : Ev → RE X} {Q : VK}
theorem sat_of {r : RE X} {t : (V → Hp → Prop) → Prop} (h : ∀ Q, KX K (W σ) M σ H env Q r → t Q) : Sat K W M σ H env r (RX K σ) t := by
  cases r with
  | bad => trivial
  | ok y env2 => exact fun Q k => h Q k
  | exc e env2 => exact fun Q k => h Q k
theorem Sat.bindG {α β γ δ : Type} {r : RE α} {f : α → Ev → RE γ} {R : Hp → Hp → Hp → Ev → α → β → Prop} {R' : Hp → Hp → Hp → Ev → γ → δ → Prop} {t : (β → Hp → Prop) → Prop} {t' : (δ → Hp → Prop) → Prop} {c : β → Hp → (δ → Hp → Prop) → Prop}
    (h : Sat K W M σ H env r R t) (ht : ∀ Q, t (fun v H1 => c v H1 Q) → t' Q)
    (hf : ∀ M1 H1 env1 x v, Grow M env σ H M1 env1 σ H1 → Shape env env1 → Holds K M1 env1 σ H1 → R H M1 H1 env1 x v → Sat K W M σ H env (f x env1) R' (c v H1)) : Sat K W M σ H env (r.bind f) R' t' := by
  cases r with
  | bad => trivial
  | exc e env1 => exact fun Q k => ht Q (h _ k)
  | ok x env1 =>
    show Sat K W M σ H env (f x env1) R' t'
    cases e2 : f x env1 with
    | bad => trivial
    | exc e env2 =>
      refine fun Q k => ht Q (h _ fun v M1 H1 g1 s1 hh1 r1 => ?_)
      have h2 := hf M1 H1 env1 x v g1 s1 hh1 r1
      rw [e2] at h2
      exact h2 Q k
    | ok y env2 =>
      refine fun Q k => ht Q (h _ fun v M1 H1 g1 s1 hh1 r1 => ?_)
      have h2 := hf M1 H1 env1 x v g1 s1 hh1 r1
      rw [e2] at h2
      exact h2 Q k
/-- the receiver: an instance, plain or a slot's -/
def recvX (env : Ev) : X → Option (Str × List (Str × D))
  | .im (.obj c fs) => some (c, fs)
  | .sl i => match env[i]? with
    | some (.ow _ (.ob c fs)) => some (c, fs)
    | _ => none
  | _ => none
theorem recv_ok {c : Str} {fs : List (Str × D)} (hh : Holds K M env σ H) (r : RepX K M H env σ x v) (e : recvX env x = some (c, fs)) : ∃ a dx fvs, v = .ref a ∧ H a = some (.ins (He.ga K c) dx fvs) ∧ RepF K M fs fvs := by
  cases x with
  | im d =>
    cases d with
    | obj c' fs' =>
      cases e
      simp only [RepX, Rep] at r
      obtain ⟨a, dx, fvs, h1, h2, h3⟩ := r
      exact ⟨a, dx, fvs, h1, hh.ex _ _ h2, h3⟩
    | _ => cases e
  | ow o => cases e
  | sl i =>
    obtain ⟨⟨p, o, q1⟩, q2⟩ := r
    have e' : (match env[i]? with
      | some (.ow _ (.ob c fs)) => some (c, fs)
      | _ => none) = some (c, fs) := e
    rw [q1] at e'
    cases o with
    | ob c' fs' =>
      cases e'
      obtain ⟨l, q3, a, _⟩ := hh.slot i _ q1
      rw [q2] at q3
      cases q3
      obtain ⟨dx, fvs, h1, h2⟩ := a
      exact ⟨l, dx, fvs, rfl, h1, h2⟩
    | _ => cases e'
/-- a method of the class c at whose call den happens -/
def MethF (CX : CXT) (P : Program) (w : World) (K : Fg) [WD K] (mg : Str → Option Value) (base : Heap) (k : Nat) (c m : Str) (den : Ev → RE X) : Prop :=
  ∃ f, Cls K (He.ga K c) ∧ Meth K (He.ga K c) m f ∧ FnR P w K mg base CX k f (spD K den) ∧ NoSl den
theorem MethF.mono {CX : CXT} {P : Program} {w : World} {K : Fg} [WD K] {mg : Str → Option Value} {base : Heap} {j k : Nat} {c m : Str} {den : Ev → RE X} (h : MethF CX P w K mg base j c m den) (l : j ≤ k) : MethF CX P w K mg base k c m den := by
  obtain ⟨f, h1, h2, h4, h5⟩ := h
  exact ⟨f, h1, h2, h4.mono l, h5⟩
abbrev MTab := List (Str × (Ev → RE X))
def MTab.get (t : MTab) (c : Str) : Option (Ev → RE X) := t.lookup c
/-- where a rule runs -/
structure CxIs (X : Cx) (K : Fg) (P : Program) (w : World) (mg : Str → Option Value) (base : Heap) : Prop where
  hK : X.K = K
  hP : X.prog = P
  hw : X.w = w
  hmg : X.mg = mg
  hb : X.base = base
end
theorem run_fnRS {X : Cx} {CX : CXT} {k : Nat} {f : Addr} {sp : Sp} {E : XK} {Q : VK} {us : List Value} {vs : List V} {pins : List (Addr × Obj)} {σ : L2.St} {H : Hp} {s : Shared} (F : FnR X.prog X.w X.K X.mg X.base CX k f sp) (hr : Room k X.A) (hx : PassesAt CX X σ E) (I : Inv X pins σ H s) (r : Vals vs us) (h : sp vs H Q E) :
    codeAny (model X.prog X.w) X.A (.call (.ref f) ⟨us, []⟩) (fun r s' => match r with | .ok (.ret v) => EP X pins σ Q v s' | .ok _ => False | .error e => X.xe e s') s := by
  refine codeAny_mono (F X.A X.stack s H us vs Q E hr I.env0 r h) fun r s' hq => ?_
  cases r with
  | error e => exact hx pins H s e s' I hq
  | ok fl =>
    cases fl with
    | ret u => exact I.after hq
    | next => exact False.elim hq
    | brk => exact False.elim hq
    | cont => exact False.elim hq
theorem fnR_ok {P : Program} {w : World} {K : Fg} [WD K] {mg : Str → Option Value} {base : Heap} {CX : CXT} {k : Nat} {f : Addr} {fd : FuncData} {ps : List Str} {sp : Sp} (F : FnOk P w K mg base CX k f fd ps sp) (hb : Binds K fd ps []) : FnR P w K mg base CX k f sp := fun A outer s H us vs Q E hr e0 r hs => by
  have KX : K.In s.heap := e0.mod.kin.keeps fun b o e => (e0.bs b o e).1
  have hl : us.length = ps.length := by rw [← r.length]; exact F.len _ _ _ _ hs
  have b := hb s us KX (by rw [List.append_nil]; exact hl)
  rw [List.append_nil] at b
  exact F.run A outer s H ⟨us, []⟩ us vs Q E hr e0 b r hs
section
variable {X : Cx} {CX : CXT} {K : Fg} [WD K] {P : Program} {w : World} {mg : Str → Option Value} {base : Heap} {k : Nat} {tab : Str → Option (Ev → RE Dn.X)} {E : L2.St → XK} {m c : Str} {p pos apos : Pos} {e o : Expr} {es : List Expr} {ta : TE} {t : TA} {den : Ev → RE Dn.X}
def tMakeF (K : Fg) [WD K] (c : Str) (den : Ev → RE Dn.X) (E : L2.St → XK) (t : TA) : TE := fun σ H Q => t σ H fun vs H1 => ∀ x dx, H1 x = none → H1 dx = none → dx ≠ x →
  spD K den (V.ref x :: vs) (upd (upd H1 dx (.own x)) x (.ins (He.ga K c) dx [])) (fun v H2 => v = .non ∧ Q (.ref x) H2) (E σ)
end
def makeD (c : Str) (m : Ev → RE X) (xs : List X) (env : Ev) : RE X := match passXs env xs with
  | none => .bad
  | some ps => if (slots xs).Nodup ∧ temps xs = 0 then match m (.ow true (.ob c []) :: ps) with
      | .ok (.im .non) (.ow true o :: ps') => .ok (.ow o) (wb xs ps' env)
      | .exc e (_ :: ps') => .exc e (wb xs ps' env)
      | _ => .bad
    else .bad
section
variable {K : Fg} [WD K] {W : WS} {E : XK} {M M' M1 M2 : Hp} {env env' env1 env2 : Ev} {σ σ' σ1 : L2.St} {H H' H1 H2 : Hp} {x y : X} {v u : V} {xs : List X} {vs : List V} {m : Ev → RE X} {Q : VK} {c : Str}
theorem make_mid (hh : Holds K M env σ H) (g : Grow M env σ H M1 env1 σ H1) (s : Shape env env1) (hh1 : Holds K M1 env1 σ H1) (r : RA K σ H M1 H1 env1 xs vs) (k : KX K E M σ H env Q (makeD c m xs env1))
    (a dx : Addr) (ha : H1 a = none) (hd : H1 dx = none) (ne : dx ≠ a) : spD K m (V.ref a :: vs) (upd (upd H1 dx (.own a)) a (.ins (He.ga K c) dx [])) (fun v H2 => v = .non ∧ Q (.ref a) H2) E := by
  have same : Same H1 (upd (upd H1 dx (.own a)) a (.ins (He.ga K c) dx [])) := fun b o e => by
    rw [upd_ne (ne_of_none e ha), upd_ne (ne_of_none e hd)]
    exact e
  have ex : Ext M1 H1 M1 (upd (upd H1 dx (.own a)) a (.ins (He.ga K c) dx [])) := ⟨Same.refl M1, same, fun l o e => .inl e, fun l o e => same _ _ (hh1.ex _ _ e)⟩
  have g' := g.trans hh (ex.grow hh1)
  have hh1' := ex.holds hh1
  have noown : ¬ Own env1 σ a := fun z => by
    obtain ⟨u, q⟩ := hh1.ownSome z
    rw [ha] at q
    cases q
  have ma : M1 a = none := by
    cases q : M1 a with
    | none => rfl
    | some o =>
      have := hh1.ex _ _ q
      rw [ha] at this
      cases this
  have r' : RA K σ H M1 (upd (upd H1 dx (.own a)) a (.ins (He.ga K c) dx [])) env1 (X.ow (.ob c []) :: xs) (V.ref a :: vs) := by
    refine Paired.cons ⟨⟨a, rfl, ⟨dx, [], upd_same, by simp [RepF]⟩, ma, noown⟩, fun o z l e => ?_⟩ (Paired.imp1 (fun x v q => ⟨RepX.grow hh1 q.1 (ex.grow hh1) (.refl _), q.2⟩) r)
    cases e
    exact g.dom a ha
  unfold makeD at k
  cases e2 : passXs env1 xs with
  | none => rw [e2] at k; exact k.elim
  | some ps =>
    rw [e2] at k
    by_cases nd : (slots xs).Nodup ∧ temps xs = 0
    · have k : KX K E M σ H env Q (if (slots xs).Nodup ∧ temps xs = 0 then match m (.ow true (.ob c []) :: ps) with
        | .ok (.im .non) (.ow true o :: ps') => .ok (.ow o) (wb xs ps' env1)
        | .exc e (_ :: ps') => .exc e (wb xs ps' env1)
        | _ => .bad
      else .bad) := k
      rw [if_pos nd] at k
      have e2' : passXs env1 (X.ow (.ob c []) :: xs) = some (.ow true (.ob c []) :: ps) := by
        show ((passX env1 (X.ow (.ob c []))).bind fun s => (passXs env1 xs).bind fun ss => some (s :: ss)) = _
        rw [e2]
        rfl
      have nd1 : (slots (X.ow (.ob c []) :: xs)).Nodup := nd.1
      have nt1 : temps (X.ow (.ob c []) :: xs) ≤ 1 := by
        show temps xs + 1 ≤ 1
        omega
      refine ⟨_, _, call_in hh g' hh1' r' e2' nd1 nt1, ?_⟩
      cases e3 : m (.ow true (.ob c []) :: ps) with
      | bad => rw [e3] at k; exact k.elim
      | ok y ps' =>
        rw [e3] at k
        intro v M2 H2 g2 s2 hh2 ry
        have hlen : ps'.length = ps.length + 1 := by
          have := congrArg List.length (show ps'.map Sl.kind = _ from s2)
          simpa using this
        cases ps' with
        | nil => simp at hlen
        | cons s0 ps' =>
          obtain ⟨a1, a2, a3, a4⟩ := call_out hh g' s hh1' r' e2' nd1 g2 s2 hh2
          have k2 : ∀ o, y = .im .non → s0 = .ow true o → v = .non ∧ Q (.ref a) H2 := fun o ey e0 => by
            subst ey e0
            refine ⟨by simpa [RepX, Rep] using ry.1, ?_⟩
            obtain ⟨l, q1, q2, q3⟩ := hh2.slot 0 _ rfl
            cases q1
            refine k _ M2 H2 a1 a2 a3 ⟨⟨a, rfl, q2, q3, fun z => ?_⟩, fun o' z l e => ?_⟩
            · exact noown (own_shape (Eq.trans (show Shape env (wb xs ps' env1) from a2) (Eq.symm s)) z)
            · cases e
              exact g.dom a ha
          cases y with
          | im d =>
            cases d with
            | non =>
              cases s0 with
              | ow p o =>
                cases p with
                | true => exact k2 o rfl rfl
                | false => exact k.elim
              | _ => exact k.elim
            | _ => exact k.elim
          | _ => exact k.elim
      | exc x ps' =>
        rw [e3] at k
        intro cls dd M2 H2 g2 s2 hh2 ry
        have hlen : ps'.length = ps.length + 1 := by
          have := congrArg List.length (show ps'.map Sl.kind = _ from s2)
          simpa using this
        cases ps' with
        | nil => simp at hlen
        | cons s0 ps' =>
          obtain ⟨a1, a2, a3, a4⟩ := call_out hh g' s hh1' r' e2' nd1 g2 s2 hh2
          exact k cls dd M2 H2 a1 a2 a3 ry
    · have k : KX K E M σ H env Q (if (slots xs).Nodup ∧ temps xs = 0 then match m (.ow true (.ob c []) :: ps) with
        | .ok (.im .non) (.ow true o :: ps') => .ok (.ow o) (wb xs ps' env1)
        | .exc e (_ :: ps') => .exc e (wb xs ps' env1)
        | _ => .bad
      else .bad) := k
      rw [if_neg nd] at k
      exact k.elim
def dMakeF (c : Str) (m : Ev → RE X) (da : Ev → RE (List X)) : Ev → RE X := fun env => (da env).bind (makeD c m)
theorem de_makeF {ta : TA} {da : Ev → RE (List X)} (ha : DA K W ta da) : DE K W (tMakeF K c m W ta) (dMakeF c m da) := fun M σ H env hh => by
  refine Sat.bindG (c := fun vs H1 Q => ∀ a dx, H1 a = none → H1 dx = none → dx ≠ a → spD K m (V.ref a :: vs) (upd (upd H1 dx (.own a)) a (.ins (He.ga K c) dx [])) (fun v H2 => v = .non ∧ Q (.ref a) H2) (W σ)) (ha M σ H env hh) (fun Q q => q) fun M1 H1 env1 xs vs g1 s1 hh1 r1 => ?_
  exact sat_of fun Q k a dx h1 h2 h3 => make_mid hh g1 s1 hh1 r1 k a dx h1 h2 h3
end
end Dn
namespace Dn
open PySem PySem.Spec PyProof.Rows L2 NdefX
/-- any instance: plain, a slot's, a new one -/
def rcvA (env : Ev) : X → Option (Str × List (Str × D))
  | .ow (.ob c fs) => some (c, fs)
  | x => recvX env x
section
variable {K : Fg} [WD K] {W : WS} {E : XK} {M M' M1 M2 : Hp} {env env' env1 env2 : Ev} {σ σ' σ1 : L2.St} {H H' H1 H2 : Hp} {x y : X} {v u : V} {xs : List X} {vs : List V} {m : Ev → RE X} {Q : VK} {te tv : TE} {de dv : Ev → RE X} {T : List Str}
theorem rcvA_ok {c : Str} {fs : List (Str × D)} (hh : Holds K M env σ H) (r : RepX K M H env σ x v) (e : rcvA env x = some (c, fs)) : ∃ a dx fvs, v = .ref a ∧ H a = some (.ins (He.ga K c) dx fvs) ∧ RepF K M fs fvs := by
  cases x with
  | im d => exact recv_ok hh r e
  | sl i => exact recv_ok hh r e
  | ow o =>
    cases o with
    | ob c' fs' =>
      cases e
      obtain ⟨l, rfl, ⟨dx, fvs, h1, h2⟩, _⟩ := r
      exact ⟨l, dx, fvs, rfl, h1, h2⟩
    | _ => cases e
def FldT (K : Fg) (T : List Str) (f : Str) : Prop := ∀ c ∈ T, Cls K (He.ga K c) ∧ NoAttr K (He.ga K c) f
def dFldF (T : List Str) (f : Str) (de : Ev → RE X) : Ev → RE X := fun env => (de env).bind fun x e1 => match rcvA e1 x with
  | some (c, fs) => if c ∈ T then (match fs.lookup f with
    | some d => .ok (.im d) e1
    | none => .bad) else .bad
  | none => .bad
theorem de_fldF {f : Str} (hT : FldT K T f) (h : DE K W te de) : DE K W (tFld K te f) (dFldF T f de) := fun M σ H env hh => by
  refine Sat.bind (c := fun x H1 Q => ∃ a C dx fs v, x = V.ref a ∧ H1 a = some (.ins C dx fs) ∧ Cls K C ∧ NoAttr K C f ∧ fs.lookup f = some v ∧ Q v H1) back_x hh (h M σ H env hh) (fun Q q => q) fun M1 H1 env1 x v g1 s1 hh1 r1 => ?_
  cases e1 : rcvA env1 x with
  | none => trivial
  | some cf =>
    obtain ⟨c, fs⟩ := cf
    obtain ⟨a, dx, fvs, rfl, ea, rf⟩ := rcvA_ok hh1 r1.1 e1
    show Sat K W M1 σ H1 env1 (if c ∈ T then (match fs.lookup f with
      | some d => .ok (.im d) env1
      | none => .bad) else .bad) (RX K σ) _
    by_cases hc : c ∈ T
    · rw [if_pos hc]
      cases e2 : fs.lookup f with
      | none => trivial
      | some d =>
        obtain ⟨v, h1, h2⟩ := repF_lookup rf e2
        exact fun Q k => ⟨a, _, dx, fvs, v, rfl, ea, (hT c hc).1, (hT c hc).2, h1, k _ _ _ .refl (.refl _) hh1 (rx_im h2)⟩
    · rw [if_neg hc]
      trivial
def putFD (f : Str) (v : D) : List (Str × D) → List (Str × D)
  | [] => [(f, v)]
  | (g, x) :: r => if g = f then (g, v) :: r else (g, x) :: putFD f v r
theorem repF_put {f : Str} {d : D} (hd : Rep K M d v) : ∀ {xs : List (Str × D)} {vs : List (Str × V)}, RepF K M xs vs → RepF K M (putFD f d xs) (putF f v vs)
  | [], vs, h => by
    simp only [RepF] at h
    subst h
    simp only [putFD, putF, RepF]
    exact ⟨v, [], rfl, hd, rfl⟩
  | (k, x) :: xs, vs, h => by
    simp only [RepF] at h
    obtain ⟨u, r, rfl, h1, h2⟩ := h
    unfold putFD putF
    by_cases hk : k = f
    · rw [if_pos hk, if_pos hk]
      simp only [RepF]
      exact ⟨v, r, rfl, hd, h2⟩
    · rw [if_neg hk, if_neg hk]
      simp only [RepF]
      exact ⟨u, _, rfl, h1, repF_put hd h2⟩
theorem repF_len : ∀ {xs : List (Str × D)} {vs : List (Str × V)}, RepF K M xs vs → xs.length = vs.length
  | [], vs, h => by
    simp only [RepF] at h
    subst h
    rfl
  | (k, x) :: xs, vs, h => by
    simp only [RepF] at h
    obtain ⟨u, r, rfl, h1, h2⟩ := h
    simp [repF_len h2]
def dSetF (T : List Str) (i : Nat) (f : Str) (de : Ev → RE X) : Ev → RS := fun env => (de env).stm fun x e1 => match frz x, e1[i]? with
  | some d, some (.ow p (.ob c fs)) => if c ∈ T ∧ fs.length < 900 then .nx (e1.set i (.ow p (.ob c (putFD f d fs)))) else .bad
  | _, _ => .bad
theorem ds_setF {i : Nat} {f : Str} (hT : FldT K T f) (h : DE K W te de) : DS K W (sFld K (tVar i) te f) (dSetF T i f de) := fun M σ H env hh => by
  refine Sat.stm (c := fun y H1 D => tVar i σ H1 fun x H2 => ∃ a C dx fs, x = V.ref a ∧ H2 a = some (.ins C dx fs) ∧ Cls K C ∧ NoAttr K C f ∧ fs.length < 1000 ∧ D.nx σ (upd H2 a (.ins C dx (putF f y fs)))) hh (h M σ H env hh) (fun D q => q) fun M1 H1 env1 x v g1 s1 hh1 r1 => ?_
  cases e1 : frz x with
  | none => trivial
  | some d =>
    cases e2 : env1[i]? with
    | none => trivial
    | some sl =>
      cases sl with
      | ow p o =>
        cases o with
        | ob c fs =>
          show SatS K W M σ H env (if c ∈ T ∧ fs.length < 900 then RS.nx (env1.set i (.ow p (.ob c (putFD f d fs)))) else .bad) _
          by_cases hc : c ∈ T ∧ fs.length < 900
          · rw [if_pos hc]
            intro D k
            have gz := frzM_grow g1
            have hz := frzM_holds (H := H) hh1
            have rd := frz_rep r1 e1
            obtain ⟨l, es, a0, m0⟩ := hz.slot i _ e2
            obtain ⟨dx, fvs, h1, h2⟩ := a0
            have az : At K (frzM M1 H H1 env1 σ) (upd H1 l (.ins (He.ga K c) dx (putF f v fvs))) l (.ob c (putFD f d fs)) := ⟨dx, _, upd_same, repF_put rd h2⟩
            obtain ⟨w1, w2, w3⟩ := own_write hz e2 es az
            exact ⟨_, es, l, _, dx, fvs, rfl, h1, (hT c hc.1).1, (hT c hc.1).2, by have := repF_len h2; omega, k σ _ _ (gz.trans hh w2) w1⟩
          · rw [if_neg hc]
            trivial
        | _ => trivial
      | _ => trivial
end
section
variable {X : Cx} {CX : CXT} {K : Fg} [WD K] {P : Program} {w : World} {mg : Str → Option Value} {base : Heap} {k : Nat} {tab : Str → Option (Ev → RE Dn.X)} {E : L2.St → XK} {m c f : Str} {p pos pos' apos : Pos} {e o value : Expr} {es : List Expr} {ta tv : TE} {t : TA} {den : Ev → RE Dn.X}
theorem pe_fldF (cx : CxIs X K P w mg base) (he : PE X e ta) (hb : attributeBase e f X.env (eval e X.env) = eval e X.env := by rfl) : PE X (.Attribute e f pos) (tFld K ta f) := by
  obtain ⟨rfl, rfl, rfl, rfl, rfl⟩ := cx
  exact pe_fld he hb
theorem ps_fldF (cx : CxIs X K P w mg base) (ha : PE X o ta) (hv : PE X value tv) (hs : swapsWith value (some (.Attribute o f pos')) pos.line X.env = pure false := by rfl) : PS X (.Assign [.Attribute o f pos'] value pos) (sFld K ta tv f) := by
  obtain ⟨rfl, rfl, rfl, rfl, rfl⟩ := cx
  exact ps_fld ha hv hs
end
section
end
end Dn
namespace PySem.W
open PySem PySem.Spec PySem.Calls PyProof.Rows
section
end
end PySem.W
namespace Dn
open PySem PySem.Spec PyProof.Rows L2 NdefX
abbrev R2S := L2.St → R2
def OpRS (X : Cx) (f : Value → Value → Sem Value) (r : R2S) : Prop :=
  ∀ (pins : List (Addr × Obj)) (s : Shared) (σ : L2.St) (H : Hp) (x y : V) (v u : Value) (Q : VK), Inv X pins σ H s → RelV x v → RelV y u → r σ x y H Q → wpAny (model X.prog X.w) X.A (f v u) (EP X pins σ Q) X.xe s
theorem OpRS.of {X : Cx} {f : Value → Value → Sem Value} {r : R2} (h : OpR X f r) : OpRS X f (fun _ => r) := fun pins s σ H x y v u Q I rx ry q => h pins s σ H x y v u Q I rx ry q
theorem OpRS.or {X : Cx} {f : Value → Value → Sem Value} {r r' : R2S} (h : OpRS X f r) (h' : OpRS X f r') : OpRS X f (fun σ x y H Q => r σ x y H Q ∨ r' σ x y H Q) := fun pins s σ H x y v u Q I rx ry q => by
  rcases q with q | q
  · exact h pins s σ H x y v u Q I rx ry q
  · exact h' pins s σ H x y v u Q I rx ry q
section
end
section
variable {K : Fg} [WD K] {W : WS} {E : XK} {M M' M1 M2 : Hp} {env env' env1 env2 : Ev} {σ σ' σ1 : L2.St} {H H' H1 H2 : Hp} {x y : X} {v u : V} {xs : List X} {vs : List V} {Q : VK} {ta tb : TE} {da db : Ev → RE X}
/-- the answer is turned into a bool -/
def RE.bl (neg : Bool) : RE X → RE X
  | .ok (.im (.bl b)) e => .ok (.im (.bl (if neg then !b else b))) e
  | .exc c e => .exc c e
  | _ => .bad
end
section
end
end Dn
namespace Dn
open PySem PySem.Spec PyProof.Rows L2 NdefX
section
end
section
variable {P : Program} {w : World} {K : Fg} [WD K] {mg : Str → Option Value} {base : Heap} {X : Cx}
theorem mk_fnR {name qual : Str} {ps N : List Str} {k n nn : Nat} {st : Stmt} {f : Addr} {ds : Ev → RS} (F : ∃ fd, FunD K name qual (defArgs st) (defBody st) (defScope st) [] [] f fd) (S : FnScope N ps (defScope st)) (hn : ps.length = n) (hN : N.length = nn)
    (b : ∀ (kV doc pm : Value) (an : Option Addr) (cdv ct : Value) (us : List Value), us.length = ps.length → bindArgs (PySem.W.fnOf name qual (defArgs st) (defBody st) (defScope st) .none kV doc pm an cdv ct) ⟨us, []⟩ = pure (ps.zip us))
    (h : ∀ (cdv : Value) (A : Around) (outer : List Env) (s : Shared) (H : Hp) (E : XK), Room k (A.deeper (envOfC qual (defScope st) s.heap.objs.size f cdv)) →
      ∃ t, PSs (cxOf CX0 P w K mg base N qual (defScope st) f cdv A outer s H E).nox (defBody st) t ∧ DS K (fun _ => E) t ds) : FnR P w K mg base CX0 (k + 1) f (spD K (fnM nn n ds)) := by
  subst hn hN
  obtain ⟨fd, F⟩ := F
  refine fnR_ok (F.ok S (fun vs H Q E h => spD_len h) fun cdv A outer s H vs Q E hr hs => ?_) (F.bindsN b)
  obtain ⟨t, h1, h2⟩ := h cdv A outer s H E hr
  exact ⟨t, PSs.nox h1, fn_body h2 hs⟩
end
end Dn
namespace Dn
open PySem PySem.Spec PyProof.Rows L2 NdefX StX
section
end
section
end
end Dn
namespace Dn
open PySem PySem.Spec PyProof.Rows L2 NdefX
section
end
section
end
abbrev CTab := List (Str × D)
def CTab.get (t : CTab) (c : Str) : Option D := t.lookup c
section
end
section
end
/-- what isinstance asks of a class -/
structure IsiC (K : Fg) (C : Addr) : Prop where
  cl : Cls K C
  ha : PySem.W.findIn K (.ref C) "__class__" = some (some (.builtin "object.__class__"))
  hn : PySem.W.specialIn K (.builtin "object.__class__") "__get__" = some (some (.builtin "getset_descriptor.__get__"))
  htk : PySem.W.takesIn K (.builtin "object.__class__") = some true
  hm : PySem.W.mroIn K C (.type "object") = some true
def rIsiO (K : Fg) : List V → Hp → VK → Prop := fun xs H Q => (∃ (a C dx : Addr) (fs : List (Str × V)) (c : V) (cv : Value) (b : Bool), xs = [.ref a, c] ∧ H a = some (.ins C dx fs) ∧ IsiC K C ∧ (∀ u, RelV c u → u = cv) ∧ PySem.W.kitOne K (.ref C) cv = some b ∧ Q (.bl b) H)
theorem call_isiO {X : Cx} {K : Fg} [WD K] (hK : X.K = K := by rfl) : CallR X (.builtin "isinstance") (rIsiO K) := by
  subst hK
  intro pins s σ H xs us Q I r h
  obtain ⟨a, C, dx, fs, c, cv, b, rfl, ea, T, hcv, e, q⟩ := h
  cases r with
  | cons rx rr =>
    cases rr with
    | cons rt rr =>
      cases rr
      have ec := hcv _ rt
      subst ec
      exact isinst_ok I rx (.ins ea T.cl T.ha T.hn T.htk T.hm) e fun tk => ⟨.bl b, H, I.tok tk, rfl, q⟩
def pIsiO (T : Str → Str → Option Bool) (T2 : Str → String → Option Bool) : List D → Option X
  | [.obj c _, .cls C] => (T c C).map fun b => .im (.bl b)
  | [.obj c _, .ty n] => (T2 c n).map fun b => .im (.bl b)
  | _ => none
theorem ok_isiO {K : Fg} [WD K] {T : Str → Str → Option Bool} {T2 : Str → String → Option Bool} (h1 : ∀ c C b, T c C = some b → IsiC K (He.ga K c) ∧ PySem.W.kitOne K (.ref (He.ga K c)) (.ref (He.ga K C)) = some b)
    (h2 : ∀ c n b, T2 c n = some b → IsiC K (He.ga K c) ∧ PySem.W.kitOne K (.ref (He.ga K c)) (.type n) = some b) : CallOk K (rIsiO K) (pIsiO T T2) := by
  intro M H ds x vs e r hf Q q
  unfold pIsiO at hf
  split at hf
  · rename_i c fs C
    obtain ⟨b, e1, rfl⟩ := Option.map_eq_some_iff.mp hf
    obtain ⟨k1, k2⟩ := h1 _ _ _ e1
    cases r with
    | cons a r =>
      cases r with
      | cons a2 r =>
        cases r
        obtain ⟨ad, dx, fvs, rfl, e3, e4⟩ := a.obj e
        rw [a2.cls]
        exact ⟨ad, _, dx, fvs, _, .ref (He.ga K C), b, rfl, e3, k1, fun u h => h, k2, q.im0 e rep_bl⟩
  · rename_i c fs n
    obtain ⟨b, e1, rfl⟩ := Option.map_eq_some_iff.mp hf
    obtain ⟨k1, k2⟩ := h2 _ _ _ e1
    cases r with
    | cons a r =>
      cases r with
      | cons a2 r =>
        cases r
        obtain ⟨ad, dx, fvs, rfl, e3, e4⟩ := a.obj e
        rw [a2.ty]
        exact ⟨ad, _, dx, fvs, _, .type n, b, rfl, e3, k1, fun u h => h, k2, q.im0 e rep_bl⟩
  · cases hf
end Dn
namespace Dn
open PySem PySem.Spec PyProof.Rows L2 NdefX
section
end
section
end
section
end
section
end
end Dn
namespace Dn
open PySem PySem.Spec PyProof.Rows L2 NdefX
theorem passN0 {X : Cx} {E : L2.St → XK} : ∀ σ, PassesAt CX0 X σ (E σ) := fun _ _ _ _ _ _ _ h => h.elim
theorem MTab.mem {t : MTab} {c : Str} {den : Ev → RE X} (h : t.get c = some den) : (c, den) ∈ t := lookup_mem h
def clsB (K : Fg) (c : Str) : Bool := (He.Fa.cls c).ok K
def fldB (K : Fg) (f : Str) (T : List Str) : Bool := T.all fun c => clsB K c && fndB K (.ref (He.ga K c)) f none
theorem fldB_ok {K : Fg} [WD K] {f : Str} {T : List Str} (h : fldB K f T = true) : FldT K T f := fun c hc => by
  obtain ⟨h1, h2⟩ := He.ba (List.all_eq_true.mp h c hc)
  exact ⟨He.cls_ok h1, show PySem.W.findIn K (.ref (He.ga K c)) f = some none from of_decide_eq_true h2⟩
def isiB (K : Fg) (c : Str) : Bool := clsB K c && (fndB K (.ref (He.ga K c)) "__class__" (some (.builtin "object.__class__")) && (decide (PySem.W.specialIn K (.builtin "object.__class__") "__get__" = some (some (.builtin "getset_descriptor.__get__"))) && (decide (PySem.W.takesIn K (.builtin "object.__class__") = some true) && decide (PySem.W.mroIn K (He.ga K c) (.type "object") = some true))))
theorem isiB_ok {K : Fg} [WD K] {c : Str} (h : isiB K c = true) : IsiC K (He.ga K c) := by
  obtain ⟨h1, h⟩ := He.ba h
  obtain ⟨h2, h⟩ := He.ba h
  obtain ⟨h3, h⟩ := He.ba h
  obtain ⟨h4, h5⟩ := He.ba h
  exact ⟨He.cls_ok h1, of_decide_eq_true h2, of_decide_eq_true h3, of_decide_eq_true h4, of_decide_eq_true h5⟩
/-- tables of own classes for isinstance -/
def kisB (K : Fg) (T : XTab) (T2 : XTab2) : Bool := (T.all fun p => isiB K p.1.1 && decide (PySem.W.kitOne K (.ref (He.ga K p.1.1)) (.ref (He.ga K p.1.2)) = some p.2)) && T2.all fun p => isiB K p.1.1 && decide (PySem.W.kitOne K (.ref (He.ga K p.1.1)) (.type p.1.2) = some p.2)
theorem kisB_ok {K : Fg} [WD K] {T : XTab} {T2 : XTab2} (h : kisB K T T2 = true) : (∀ c C b, T.get c C = some b → IsiC K (He.ga K c) ∧ PySem.W.kitOne K (.ref (He.ga K c)) (.ref (He.ga K C)) = some b) ∧ ∀ c n b, T2.get c n = some b → IsiC K (He.ga K c) ∧ PySem.W.kitOne K (.ref (He.ga K c)) (.type n) = some b := by
  obtain ⟨h1, h2⟩ := He.ba h
  refine ⟨fun c C b e => ?_, fun c n b e => ?_⟩
  · obtain ⟨h3, h4⟩ := He.ba (List.all_eq_true.mp h1 _ (lookup_mem e))
    exact ⟨isiB_ok h3, of_decide_eq_true h4⟩
  · obtain ⟨h3, h4⟩ := He.ba (List.all_eq_true.mp h2 _ (lookup_mem e))
    exact ⟨isiB_ok h3, of_decide_eq_true h4⟩
end Dn
namespace Dn
open PySem PySem.Spec PyProof.Rows L2
end Dn
namespace Dn
open PySem PySem.Spec PyProof.Rows L2
section
end
def pRevL : D → Option X
  | .lst xs => some (.ow (.lst xs.reverse))
  | _ => none
theorem de_revL {K : Fg} [WD K] {W : WS} {te : TE} {de : Ev → RE X} (h : DE K W te de) : DE K W (tRevL K te) (dUn pRevL de) := by
  refine de_un (r := fun x H1 Q => ∃ a xs, x = V.ref a ∧ SqL K H1 a xs ∧ ∀ p, H1 p = none → Q (.ref p) (upd H1 p (.lst xs.reverse))) ?_ h
  intro M H dx x v e hx hf Q q
  unfold pRevL at hf
  split at hf
  · cases hf
    obtain ⟨a, vs, rfl, h1, h2⟩ := hx.lst e
    exact ⟨a, vs, rfl, SqL.of h1, fun p n => q.lst e h2.reverse n⟩
  · cases hf
end Dn
namespace Dn
open PySem PySem.Spec PyProof.Rows L2
/-- where a parameter's value comes from: an argument as written (positional ones first, then the keywords'), or a default -/
inductive Src (α : Type) where
  | a (i : Nat) | d (v : α)
def arr {α β : Type} (f : β → α) : List (Src β) → List α → Option (List α)
  | [], _ => some []
  | .a i :: r, xs => (xs[i]?).bind fun x => (arr f r xs).map (x :: ·)
  | .d v :: r, xs => (arr f r xs).map (f v :: ·)
/-- a default: the same at every time -/
def DvR (K : Fg) [WD K] (d : D) (v : V) : Prop := ∀ M, Rep K M d v
theorem dv_int {K : Fg} [WD K] (i : Int) : DvR K (.int i) (.int i) := fun _ => rep_int
inductive SrcR (K : Fg) [WD K] : Src D → Src V → Prop where
  | a (i : Nat) : SrcR K (.a i) (.a i)
  | d {d : D} {v : V} (h : DvR K d v) : SrcR K (.d d) (.d v)
theorem paired_get {α β : Type} {F : α → β → Prop} : ∀ {xs : List α} {ys : List β} {i : Nat} {x : α}, Paired F xs ys → xs[i]? = some x → ∃ y, ys[i]? = some y ∧ F x y
  | _, _, i, x, .nil, e => by cases e
  | _, _, 0, x, .cons h t, e => by
    cases e
    exact ⟨_, rfl, h⟩
  | _, _, i + 1, x, .cons h t, e => paired_get (i := i) t (by simpa using e)
section
variable {K : Fg} [WD K] {W : WS} {M M' M1 M2 : Hp} {env env' env1 env2 : Ev} {σ σ' σ1 : L2.St} {H H' H0 H1 H2 : Hp} {x y : X} {v u : V} {xs ys : List X} {vs zs : List V}
theorem arr_ok : ∀ {src : List (Src D)} {srv : List (Src V)} {xs zs : List X} {vs : List V}, Paired (SrcR K) src srv → RA K σ H0 M H env xs vs → arr X.im src xs = some zs → ∃ us, arr id srv vs = some us ∧ RA K σ H0 M H env zs us
  | _, _, xs, zs, vs, .nil, r, e => by
    cases e
    exact ⟨[], rfl, .nil⟩
  | _, _, xs, zs, vs, .cons (.a i) t, r, e => by
    obtain ⟨x, e1, e2⟩ := Option.bind_eq_some_iff.mp e
    obtain ⟨zs', e3, rfl⟩ := Option.map_eq_some_iff.mp e2
    obtain ⟨v, e4, h⟩ := paired_get r e1
    obtain ⟨us, e5, h2⟩ := arr_ok t r e3
    exact ⟨v :: us, by simp [arr, e4, e5], .cons h h2⟩
  | _, _, xs, zs, vs, .cons (.d (d := d) (v := v) hd) t, r, e => by
    obtain ⟨zs', e3, rfl⟩ := Option.map_eq_some_iff.mp e
    obtain ⟨us, e5, h2⟩ := arr_ok t r e3
    exact ⟨v :: us, by simp [arr, e5], .cons (rx_im (hd M)) h2⟩
/-- the values as the rule of calls by keywords wants them -/
def tArr (n m : Nat) (gV : List V → List V → List V) (t tk : TA) : TA := fun σ H Q => t σ H fun vs H1 => tk σ H1 fun zs H2 => vs.length = n ∧ zs.length = m ∧ Q (gV vs zs) H2
def dArr (n m : Nat) (src : List (Src D)) (da dk : Ev → RE (List X)) : Ev → RE (List X) := fun env => (da env).bind fun xs e1 => (dk e1).bind fun ys e2 => if xs.length = n ∧ ys.length = m then match arr X.im src (xs ++ ys) with
  | some zs => .ok zs e2
  | none => .bad
  else .bad
theorem paired_app {α β : Type} {F : α → β → Prop} : ∀ {xs xs' : List α} {ys ys' : List β}, Paired F xs ys → Paired F xs' ys' → Paired F (xs ++ xs') (ys ++ ys')
  | _, _, _, _, .nil, h => h
  | _, _, _, _, .cons a t, h => .cons a (paired_app t h)
theorem paired_len {α β : Type} {F : α → β → Prop} : ∀ {xs : List α} {ys : List β}, Paired F xs ys → xs.length = ys.length
  | _, _, .nil => rfl
  | _, _, .cons _ t => by simp [paired_len t]
theorem da_arr {n m : Nat} {src : List (Src D)} {srv : List (Src V)} {gV : List V → List V → List V} {t tk : TA} {da dk : Ev → RE (List X)} (hs : Paired (SrcR K) src srv) (hg : ∀ vs zs, vs.length = n → zs.length = m → arr id srv (vs ++ zs) = some (gV vs zs))
    (ha : DA K W t da) (hk : DA K W tk dk) : DA K W (tArr n m gV t tk) (dArr n m src da dk) := fun M σ H env hh => by
  have h1 := ha M σ H env hh
  unfold dArr
  cases e1 : da env with
  | bad => trivial
  | exc e env1 =>
    rw [e1] at h1
    exact fun Q k => h1 _ k
  | ok xs env1 =>
    rw [e1] at h1
    show Sat K W M σ H env ((dk env1).bind fun ys e2 => if xs.length = n ∧ ys.length = m then match arr X.im src (xs ++ ys) with
      | some zs => .ok zs e2
      | none => .bad
      else .bad) (RA K σ) (tArr n m gV t tk σ H)
    cases e2 : dk env1 with
    | bad => trivial
    | exc e env2 =>
      refine fun Q k => h1 _ fun v M1 H1 g1 s1 hh1 r1 => ?_
      have h2 := hk M1 σ H1 env1 hh1
      rw [e2] at h2
      exact h2 _ fun cls d M' H' g2 s2 hh2 r2 => k cls d M' H' (g1.trans hh g2) (s1.trans s2) hh2 r2
    | ok ys env2 =>
      show Sat K W M σ H env (if xs.length = n ∧ ys.length = m then match arr X.im src (xs ++ ys) with
        | some zs => .ok zs env2
        | none => .bad
        else .bad) (RA K σ) (tArr n m gV t tk σ H)
      by_cases hl : xs.length = n ∧ ys.length = m
      · rw [if_pos hl]
        cases e3 : arr X.im src (xs ++ ys) with
        | none => trivial
        | some zs =>
          refine fun Q k => h1 _ fun vs M1 H1 g1 s1 hh1 r1 => ?_
          have h2 := hk M1 σ H1 env1 hh1
          rw [e2] at h2
          refine h2 _ fun us M' H' g2 s2 hh2 r2 => ?_
          have r1' : RA K σ H M' H' env2 xs vs := Paired.imp1 (fun x v q => ⟨RepX.grow hh1 q.1 g2 s2, q.2⟩) r1
          have r2' : RA K σ H M' H' env2 ys us := back_a _ _ _ _ _ _ _ g1.dom r2
          have l1 := paired_len r1
          have l2 := paired_len r2
          obtain ⟨ws, e4, h4⟩ := arr_ok hs (paired_app r1' r2') e3
          rw [hg vs us (by omega) (by omega)] at e4
          cases e4
          exact ⟨by omega, by omega, k _ M' H' (g1.trans hh g2) (s1.trans s2) hh2 h4⟩
      · rw [if_neg hl]
        trivial
end
end Dn
namespace Dn
open PySem PySem.Spec PyProof.Rows L2
section
end
/-- a def with defaults and keyword-only parameters, called by its name -/
def CallG (CX : CXT) (P : Program) (w : World) (K : Fg) [WD K] (mg : Str → Option Value) (base : Heap) (k : Nat) (x : Str) (st : Stmt) (dvs : List V) (kws : List (Str × V)) (ps : List Str) (m : Ev → RE X) : Prop :=
  ∃ f fd, mg x = some (.ref f) ∧ PySem.W.keepIn K (.ref f) = true ∧ FunD K x x (defArgs st) (defBody st) (defScope st) dvs kws f fd ∧ FnOk P w K mg base CX k f fd ps (spD K m)
section
variable {P : Program} {w : World} {K : Fg} [WD K] {mg : Str → Option Value} {base : Heap} {CX : CXT} {X : Cx} {k n : Nat} {ps ks : List Str} {E : L2.St → XK} {x : Str} {st : Stmt} {dvs : List V} {kds : List (Str × V)} {p pos : Pos} {e : Expr} {es : List Expr} {kws : List Keyword} {t tk : TA} {gV : List V → List V → List V} {m : Ev → RE Dn.X}
theorem CallG.mono {j : Nat} (c : CallG CX P w K mg base j x st dvs kds ps m) (h : j ≤ k) : CallG CX P w K mg base k x st dvs kds ps m := by
  obtain ⟨f, fd, a, b, d, e⟩ := c
  exact ⟨f, fd, a, b, d, e.mono h⟩
end
section
end
end Dn
namespace Dn
open PySem PySem.Spec PyProof.Rows L2
def tupB (K : Fg) (a : Addr) (ds : List D) : Bool := match K.lookup a with
  | some ⟨.type t, none, .seq its _, _⟩ => decide (t = "tuple") && (decide (its.size ≤ sizeLine) && (match scals ds with
    | some vs => He.relAll vs its.toList
    | none => false))
  | _ => false
theorem rep_scal {K : Fg} [WD K] {M : Hp} {d : D} {v : V} (e : d.scal = some v) : Rep K M d v := by
  cases d <;> simp [D.scal] at e <;> subst e <;> simp [Rep]
theorem reps_scals {K : Fg} [WD K] {M : Hp} : ∀ {ds : List D} {vs : List V}, scals ds = some vs → Reps K M ds vs
  | [], vs, e => by
    simp only [scals] at e
    cases e
    simp [Reps]
  | d :: ds, vs, e => by
    simp only [scals] at e
    obtain ⟨v, e1, e2⟩ := Option.bind_eq_some_iff.mp e
    obtain ⟨us, e3, e4⟩ := Option.bind_eq_some_iff.mp e2
    cases e4
    simp only [Reps]
    exact ⟨v, us, rfl, rep_scal e1, reps_scals e3⟩
theorem tupB_ok {K : Fg} [WD K] {a : Addr} {ds : List D} (h : tupB K a ds = true) : DvR K (.tup ds) (.ref a) := fun M => by
  unfold tupB at h
  split at h
  · rename_i t its n sl hk
    obtain ⟨h1, h2⟩ := He.ba h
    obtain ⟨h2, h3⟩ := He.ba h2
    split at h3
    · rename_i vs e
      have ht : t = "tuple" := of_decide_eq_true h1
      subst ht
      exact ⟨a, vs, rfl, .inr ⟨_, its, n, hk, rfl, rfl, rfl, of_decide_eq_true h2, He.relAll_ok h3⟩, reps_scals e⟩
    · cases h3
  · cases h
end Dn
namespace Dn
open PySem PySem.Spec PyProof.Rows L2
section
end
end Dn
namespace Dn
open PySem PySem.Spec PyProof.Rows L2
section
end
end Dn
namespace Dn
open PySem PySem.Spec PyProof.Rows L2
/-- where a rule about dicts runs -/
structure DCx (X : Cx) (K : Fg) [WD K] : Prop where
  hK : X.K = K
  hP : WD.P K = X.prog
  hw : WD.w K = X.w
/-- all keys of the rows stand -/
def KeysAt (K : Fg) (H : Hp) (xs : List (List Key × Addr × Value)) : Prop := ∀ x ∈ xs, SqN K H x.2.1 (x.1.map kV)
/-- what the dict at a holds at the key y -/
def DG1 (K : Fg) [WD K] (H : Hp) (a : Addr) (y : V) (r : Option V) : Prop :=
  (∃ o vs k, H a = some (obO a o) ∧ DkF K a o vs ∧ y = kV k ∧ RelO r (valueAt vs k)) ∨
  ∃ o xs k b, H a = some (obO a o) ∧ DtF K a o xs ∧ KeysAt K H xs ∧ y = .ref b ∧ SqN K H b (k.map kV) ∧ RelO r ((atKey xs k).map (·.2))
/-- the heap behind a[y] = v -/
def DP1 (K : Fg) [WD K] (H : Hp) (a : Addr) (y v : V) (Q : Hp → Prop) : Prop :=
  (∃ o vs k, H a = some (obO a o) ∧ DkF K a o vs ∧ y = kV k ∧ (stored vs k .none).length ≤ sizeLine ∧ ∀ o' u, RelV v u → DkF K a o' (stored vs k u) → Q (upd H a (obO a o'))) ∨
  ∃ o xs k b, H a = some (obO a o) ∧ DtF K a o xs ∧ KeysAt K H xs ∧ y = .ref b ∧ SqN K H b (k.map kV) ∧ (storedH xs k b .none).length ≤ sizeLine ∧ ∀ o' u, RelV v u → DtF K a o' (storedH xs k b u) → Q (upd H a (obO a o'))
section
variable {X : Cx} {K : Fg} [WD K] {pins : List (Addr × Obj)} {σ : L2.St} {H : Hp} {s : Shared} {a b : Addr} {o : Obj} {A : Around} {E : Value → Shared → Prop} {y v : V} {u r : Value}
theorem ob_at (I : Inv X pins σ H s) (h : H a = some (obO a o)) : s.heap.get? a = some o := (I.hok a _ h).1
theorem ob_ok {P : Program} {w : World} {h : Heap} (e : h.get? a = some o) : ObjOk P w H h a (obO a o) := ⟨e, ⟨_, e⟩, fun _ _ x k => k _ x⟩
theorem dk_in {vs : List (Key × Value)} (cx : DCx X K) (I : Inv X pins σ H s) (h : H a = some (obO a o)) (f : DkF K a o vs) : s.heap.DictOf (mixKind X.prog X.w) a vs := by
  obtain ⟨_, _, hx, es, ep, h1, h2, h3, h4⟩ := f
  have e := ob_at I h
  obtain ⟨_, hP, hw⟩ := cx
  rw [← hP, ← hw]
  exact ⟨o, es, ep, e, hx, h1, h2, h3, h4⟩
theorem key_is {k : List Key} (I : Inv X pins σ H s) (h : SqN X.K H b (k.map kV)) : (tupleKind (mixKind X.prog X.w)).is s.heap k b := by
  rcases h with ⟨o, h, _⟩ | ⟨o, its, n, h1, h2, _, h3, h4, h5⟩
  · obtain ⟨e, _, its, r, o2, q1, q2, n, q3⟩ := I.hok b _ h
    exact ⟨o2, its.toArray, n, q1, q2, q3, by simpa using items_are r⟩
  · have e := I.kIn b o h1
    exact ⟨o, its, n, e, h2, h3, items_are h5⟩
theorem dt_in {xs : List (List Key × Addr × Value)} (cx : DCx X K) (I : Inv X pins σ H s) (h : H a = some (obO a o)) (f : DtF K a o xs) (hk : KeysAt K H xs) : s.heap.DictOfH (tupleKind (mixKind X.prog X.w)) a xs := by
  obtain ⟨_, _, hx, es, ep, h1, h2, h4⟩ := f
  have e := ob_at I h
  obtain ⟨rfl, hP, hw⟩ := cx
  refine ⟨o, es, ep, e, hx, h1, ?_, fun x hx => key_is I (hk x hx), h4⟩
  rw [← hP, ← hw]
  exact h2
theorem dk_out {vs : List (Key × Value)} {h' : Heap} (cx : DCx X K) (hz : vs.length ≤ sizeLine) (hd : (a == sysModules) = false) (f : h'.DictOf (mixKind X.prog X.w) a vs) : ∃ o, h'.get? a = some o ∧ DkF K a o vs := by
  obtain ⟨_, hP, hw⟩ := cx
  rw [← hP, ← hw] at f
  obtain ⟨o, es, ep, e, hx, h1, h2, h3, h4⟩ := f
  exact ⟨o, e, hz, hd, hx, es, ep, h1, h2, h3, h4⟩
theorem dt_out {xs : List (List Key × Addr × Value)} {h' : Heap} (cx : DCx X K) (hz : xs.length ≤ sizeLine) (hd : (a == sysModules) = false) (f : h'.DictOfH (tupleKind (mixKind X.prog X.w)) a xs) : ∃ o, h'.get? a = some o ∧ DtF K a o xs := by
  obtain ⟨_, hP, hw⟩ := cx
  rw [← hP, ← hw] at f
  obtain ⟨o, es, ep, e, hx, h1, h2, _, h4⟩ := f
  exact ⟨o, e, hz, hd, hx, es, ep, h1, h2, h4⟩
theorem g_type (cx : DCx X K) (I : Inv X pins σ H s) {ov : Option V} (g : DG1 K H a y ov) : s.TypeIs (.ref a) "dict" := by
  rcases g with ⟨o, vs, k, e, f, _, _⟩ | ⟨o, xs, k, b, e, f, hk, _, _, _⟩
  · exact (dk_in cx I e f).typeIs
  · exact (dt_in cx I e f hk).typeIs
/-- d[y], there -/
theorem g_item {Q : Value → Shared → Prop} (cx : DCx X K) (hu : A.units + 1 < cLine) (I : Inv X pins σ H s) (g : DG1 K H a y (some v)) (ry : RelV y u) (h : ∀ w' s', Inv X pins σ H s' → RelV v w' → Q w' s') :
    wpAny (model X.prog X.w) A (getItem (.ref a) u) Q E s := by
  rcases g with ⟨o, vs, k, e, f, ey, l⟩ | ⟨o, xs, k, b, e, f, hk, ey, eb, l⟩
  · subst ey
    have dd := dk_in cx I e f
    obtain ⟨w', hw, rw'⟩ := RelO.some_of (v := v) (o := valueAt vs k) l
    exact wpAny_getItem_of (kV_is ry) dd.mapOf hw (h w' _ (I.tok _) rw')
  · subst ey
    cases (show u = Value.ref b from ry)
    have dd := dt_in cx I e f hk
    have eb : SqN X.K H b (k.map kV) := by rw [cx.hK]; exact eb
    obtain ⟨w', hw, rw'⟩ := RelO.some_of (v := v) (o := (atKey xs k).map (·.2)) l
    obtain ⟨p, hp, hp2⟩ := Option.map_eq_some_iff.mp hw
    refine wpAny_getItem_heap (tupleKind_room_in1 hu) (key_is I eb) dd hp ?_
    rw [hp2]
    exact h w' _ (I.tok _) rw'
/-- d.get(y, x) -/
theorem g_get2 {Q : Value → Shared → Prop} {d : V} {ov : Option V} (cx : DCx X K) (hu : A.units + 1 < cLine) (I : Inv X pins σ H s) (g : DG1 K H a y ov) (ry : RelV y u) (rd : RelV d r) (h : ∀ w' s', Inv X pins σ H s' → RelV (ov.getD d) w' → Q w' s') :
    wpAny (model X.prog X.w) A (call (.builtin "dict.get") [.ref a, u, r]) Q E s := by
  rcases g with ⟨o, vs, k, e, f, ey, l⟩ | ⟨o, xs, k, b, e, f, hk, ey, eb, l⟩
  · subst ey
    have dd := dk_in cx I e f
    exact call_meetsIn PySem.F.slot_dict_get dd.typeIs PySem.F.entry_dict_get (PySem.F.args_dict_get_3 _ _ _) (meets_dict_get_default (mixKind X.prog X.w) a (kV_is ry) f.2.1 r) ⟨_, dd.mapOf, h _ _ (I.tok _) (l.getD rd)⟩
  · subst ey
    cases (show u = Value.ref b from ry)
    have dd := dt_in cx I e f hk
    have eb : SqN X.K H b (k.map kV) := by rw [cx.hK]; exact eb
    exact call_meetsIn PySem.F.slot_dict_get dd.typeIs PySem.F.entry_dict_get (PySem.F.args_dict_get_3 _ _ _) (meetsH_dict_get_default (tupleKind (mixKind X.prog X.w)) a b f.2.1 r) ⟨tupleKind_room_in1 hu, k, xs, key_is I eb, dd, h _ _ (I.tok _) (l.getD rd)⟩
theorem stored_len (vs : List (Key × Value)) (k : Key) (u u' : Value) : (stored vs k u).length = (stored vs k u').length := by
  unfold stored
  split <;> simp
theorem storedH_len (xs : List (List Key × Addr × Value)) (k : List Key) (b : Addr) (u u' : Value) : (storedH xs k b u).length = (storedH xs k b u').length := by
  unfold storedH
  split <;> simp
/-- d[y] = v -/
theorem g_set {Q : Unit → Shared → Prop} {R : Hp → Prop} (cx : DCx X K) (hu : A.units + 1 < cLine) (I : Inv X pins σ H s) (g : DP1 K H a y v R) (ry : RelV y u) (rv : RelV v r) (h : ∀ H' s', R H' → Inv X pins σ H' s' → Q () s') :
    wpAny (model X.prog X.w) A (setItem (.ref a) u r) Q E s := by
  rcases g with ⟨o, vs, k, e, f, ey, hz, l⟩ | ⟨o, xs, k, b, e, f, hk, ey, eb, hz, l⟩
  · subst ey
    have dd := dk_in cx I e f
    refine wpAny_setItem_pairs (hsz := f.1) (kV_is ry) dd fun h' dd' hs => ?_
    obtain ⟨o', e', f'⟩ := dk_out cx (by rw [stored_len vs k r .none]; exact hz) f.2.1 dd'
    exact h _ _ (l o' r rv f') (d_write I (by rw [e]; exact True.intro) hs ⟨o', e'⟩ (ob_ok e'))
  · subst ey
    cases (show u = Value.ref b from ry)
    have dd := dt_in cx I e f hk
    have eb' : SqN X.K H b (k.map kV) := by rw [cx.hK]; exact eb
    refine wpAny_setItem_heap (hsz := f.1) (tupleKind_room_in1 hu) (key_is I eb') dd fun h' dd' hs => ?_
    obtain ⟨o', e', f'⟩ := dt_out cx (by rw [storedH_len xs k b r .none]; exact hz) f.2.1 dd'
    exact h _ _ (l o' r rv f') (d_write I (by rw [e]; exact True.intro) hs ⟨o', e'⟩ (ob_ok e'))
end
/-- a is a dict -/
def IsDN (K : Fg) [WD K] (H : Hp) (a : Addr) : Prop := (∃ o vs, H a = some (obO a o) ∧ DkF K a o vs) ∨ ∃ o xs, H a = some (obO a o) ∧ DtF K a o xs
/-- d[y] -/
def rItD (K : Fg) [WD K] : R2 := fun x y H Q => ∃ a v, x = .ref a ∧ DG1 K H a y (some v) ∧ Q v H
def rInD (K : Fg) [WD K] (neg : Bool) : R2 := fun y x H Q => ∃ a ov, x = .ref a ∧ DG1 K H a y ov ∧ Q (.bl (ov.isSome != neg)) H
def tGetD (K : Fg) [WD K] (td ty tx : TE) : TE := fun σ H Q => td σ H fun x H1 => ∃ a, x = .ref a ∧ IsDN K H1 a ∧ ty σ H1 fun y H2 => tx σ H2 fun z H3 => ∃ ov, DG1 K H3 a y ov ∧ Q (ov.getD z) H3
def rSetD (K : Fg) [WD K] : V → V → V → Hp → (Hp → Prop) → Prop := fun x y v H Q => ∃ a, x = .ref a ∧ DP1 K H a y v Q
section
variable {X : Cx} {K : Fg} [WD K] {o i e f : Expr} {pos apos cpos : Pos} {td ty tx tv : TE}
theorem isDN_at (cx : DCx X K) {pins : List (Addr × Obj)} {σ : L2.St} {H : Hp} {s : Shared} {a : Addr} (I : Inv X pins σ H s) (d : IsDN K H a) : s.TypeIs (.ref a) "dict" ∧ ∀ b, Value.ref a = .ref b → ∃ ob, s.heap.get? b = some ob ∧ ob.dict = none := by
  rcases d with ⟨o, vs, e, f⟩ | ⟨o, xs, e, f⟩
  · have q := ob_at I e
    refine ⟨⟨o, q, f.2.2.1.1⟩, fun b z => ?_⟩
    cases z
    exact ⟨o, q, f.2.2.1.2.1⟩
  · have q := ob_at I e
    refine ⟨⟨o, q, f.2.2.1.1⟩, fun b z => ?_⟩
    cases z
    exact ⟨o, q, f.2.2.1.2.1⟩
theorem pe_itemD (cx : DCx X K) (hu : X.A.units + 1 < cLine) (ho : PE X o td) (hi : PE X i ty) (hs : L2.NoSl i) : PE X (.Subscript o i pos) (tOp (rItD K) td ty) := by
  refine ⟨fun pins s σ H Q I h => ?_⟩
  refine subD_of PySem.F.slot_dict_getitem.lookup hs (thn (ho.run pins s σ H _ I h) fun u s1 ⟨x, H1, I1, rx, q1⟩ => thn (hi.run pins s1 σ H1 _ I1 q1) fun iv s2 ⟨y, H2, I2, ry, a, v, ex, g, q2⟩ => ?_)
  subst ex
  obtain rfl : u = Value.ref a := rx
  exact ⟨g_type cx I2 g, g_item cx hu I2 g ry fun w' s3 I3 rw' => ⟨v, H2, I3, rw', q2⟩⟩
theorem pe_getD (cx : DCx X K) (hu : X.A.units + 1 < cLine) (ho : PE X o td) (he : PE X e ty) (hf : PE X f tx) (m : M2 X o "get" apos e f cpos) : PE X (.Call (.Attribute o "get" apos) [e, f] [] cpos) (tGetD K td ty tx) := by
  refine ⟨fun pins s σ H Q I h => ?_⟩
  refine wpAny_Call_method m.base m.few m.line PySem.F.plainAttrs_dict PySem.F.slot_dict_get PySem.F.type_dict_get (thn (ho.run pins s σ H _ I h) fun u s1 ⟨x, H1, I1, rx, a, ex, d, q1⟩ => ?_)
  subst ex
  obtain rfl : u = Value.ref a := rx
  obtain ⟨t1, t2⟩ := isDN_at cx I1 d
  refine ⟨t1, t2, ?_⟩
  rw [m.trees]
  refine Calls.callWith_builtin rfl (Calls.evalArgs_plain (Calls.spliced_cons (thn (he.run pins s1 σ H1 _ I1 q1) fun iv s2 ⟨y, H2, I2, ry, q2⟩ =>
    Calls.spliced_cons (thn (hf.run pins s2 σ H2 _ I2 q2) fun fv s3 ⟨z, H3, I3, rz, ov, g, q3⟩ => Calls.spliced_nil ?_))))
  exact g_get2 cx hu I3 g ry rz fun w' s4 I4 rw' => ⟨_, H3, I4, rw', q3⟩
theorem set_dict (cx : DCx X K) (hu : X.A.units + 1 < cLine) : PSet X (rSetD K) := by
  intro pins s σ H o i v ov iv u Q I ro ri rv h
  obtain ⟨a, rfl, g⟩ := h
  cases ro
  exact g_set cx hu I g ri rv fun H' s' q I' => ⟨H', I', q⟩
end
end Dn
namespace Dn
open PySem PySem.Spec PyProof.Rows L2
def getKD {κ : Type} [DecidableEq κ] (kvs : List (κ × D)) (k : κ) : Option D := (kvs.find? fun kv => decide (kv.1 = k)).map (·.2)
def putKD {κ : Type} [DecidableEq κ] (kvs : List (κ × D)) (k : κ) (x : D) : List (κ × D) := if (getKD kvs k).isSome = true then kvs.map (fun kv => if kv.1 = k then (kv.1, x) else kv) else kvs ++ [(k, x)]
def keyD : D → Option Key
  | .int i => some (.inl i)
  | .str x => some (.inr x)
  | _ => none
def keysD : List D → Option (List Key)
  | [] => some []
  | d :: ds => (keyD d).bind fun k => (keysD ds).map fun ks => k :: ks
def keyT : D → Option (List Key)
  | .tup ds => keysD ds
  | _ => none
def Key.toD : Key → D
  | .inl i => .int i
  | .inr x => .str x
/-- what stands at the key: not told, nothing, something -/
def lookD (x y : D) : Option (Option D) := match x with
  | .dk kvs => (keyD y).map fun k => getKD kvs k
  | .dt kvs => (keyT y).map fun k => getKD kvs k
  | _ => none
section
variable {K : Fg} [WD K] {W : WS} {M M' M1 M2 : Hp} {env env' env1 env2 : Ev} {σ σ' σ1 : L2.St} {H H' H1 H2 : Hp} {x y : X} {v u : V} {te td ty tx : TE} {de dd dy dx : Ev → RE X}
theorem getKD_pos {κ : Type} [DecidableEq κ] {p : κ × D} {r : List (κ × D)} {k : κ} (e : p.1 = k) : getKD (p :: r) k = some p.2 := by simp [getKD, List.find?_cons, e]
theorem getKD_neg {κ : Type} [DecidableEq κ] {p : κ × D} {r : List (κ × D)} {k : κ} (e : ¬ p.1 = k) : getKD (p :: r) k = getKD r k := by simp [getKD, List.find?_cons, e]
theorem valAt_pos {κ : Type} [DecidableEq κ] {p : κ × Value} {r : List (κ × Value)} {k : κ} (e : p.1 = k) : valueAt (p :: r) k = some p.2 := by simp [valueAt, List.find?_cons, e]
theorem valAt_neg {κ : Type} [DecidableEq κ] {p : κ × Value} {r : List (κ × Value)} {k : κ} (e : ¬ p.1 = k) : valueAt (p :: r) k = valueAt r k := by simp [valueAt, List.find?_cons, e]
theorem atKey_pos {p : List Key × Addr × Value} {r : List (List Key × Addr × Value)} {k : List Key} (e : p.1 = k) : atKey (p :: r) k = some p.2 := by simp [atKey, List.find?_cons, e]
theorem atKey_neg {p : List Key × Addr × Value} {r : List (List Key × Addr × Value)} {k : List Key} (e : ¬ p.1 = k) : atKey (p :: r) k = atKey r k := by simp [atKey, List.find?_cons, e]
/-- the same at both: nothing, or what stands for it -/
def SameO (K : Fg) [WD K] (M : Hp) (d : Option D) (ov : Option V) : Prop := match d, ov with
  | none, none => True
  | some d, some v => Rep K M d v
  | _, _ => False
theorem repK_get {kvs : List (Key × D)} {vs : List (Key × Value)} (r : RepK K M kvs vs) (k : Key) : ∃ ov, RelO ov (valueAt vs k) ∧ SameO K M (getKD kvs k) ov := by
  induction r with
  | nil => exact ⟨none, True.intro, True.intro⟩
  | @cons p q ps qs h t ih =>
    obtain ⟨h1, v, h2, h3⟩ := h
    by_cases e : p.1 = k
    · rw [getKD_pos e, valAt_pos (h1.symm.trans e)]
      exact ⟨some v, h2, h3⟩
    · rw [getKD_neg e, valAt_neg (fun z => e (h1.trans z))]
      exact ih
theorem repT_get {kvs : List (List Key × D)} {vs : List (List Key × Addr × Value)} (r : RepT K M kvs vs) (k : List Key) : ∃ ov, RelO ov ((atKey vs k).map (·.2)) ∧ SameO K M (getKD kvs k) ov := by
  induction r with
  | nil => exact ⟨none, True.intro, True.intro⟩
  | @cons p q ps qs h t ih =>
    obtain ⟨h1, _, v, h2, h3⟩ := h
    by_cases e : p.1 = k
    · rw [getKD_pos e, atKey_pos (h1.symm.trans e)]
      exact ⟨some v, h2, h3⟩
    · rw [getKD_neg e, atKey_neg (fun z => e (h1.trans z))]
      exact ih
theorem same_some {d : Option D} {ov : Option V} (h : SameO K M d ov) : d.isSome = ov.isSome := by
  cases d <;> cases ov <;> first | rfl | exact h.elim
theorem repK_any {kvs : List (Key × D)} {vs : List (Key × Value)} (r : RepK K M kvs vs) (k : Key) : (vs.any fun kv => decide (kv.1 = k)) = (getKD kvs k).isSome := by
  induction r with
  | nil => rfl
  | @cons p q ps qs h t ih =>
    obtain ⟨h1, v, h2, h3⟩ := h
    by_cases e : p.1 = k
    · rw [getKD_pos e, List.any_cons, decide_eq_true (h1.symm.trans e)]
      rfl
    · rw [getKD_neg e, List.any_cons, decide_eq_false (fun z => e (h1.trans z)), ih, Bool.false_or]
theorem repT_any {kvs : List (List Key × D)} {vs : List (List Key × Addr × Value)} (r : RepT K M kvs vs) (k : List Key) : (atKey vs k).isSome = (getKD kvs k).isSome := by
  obtain ⟨ov, h1, h2⟩ := repT_get r k
  rw [same_some h2, h1.isSome_eq, Option.isSome_map]
theorem paired_snoc {α β : Type} {F : α → β → Prop} : ∀ {xs : List α} {ys : List β} {a : α} {b : β}, Paired F xs ys → F a b → Paired F (xs ++ [a]) (ys ++ [b])
  | _, _, a, b, .nil, h => .cons h .nil
  | _, _, a, b, .cons h t, h' => .cons h (paired_snoc t h')
theorem repK_put {kvs : List (Key × D)} {vs : List (Key × Value)} (r : RepK K M kvs vs) (k : Key) {d : D} {v : V} {u : Value} (h1 : RelV v u) (h2 : Rep K M d v) : RepK K M (putKD kvs k d) (stored vs k u) := by
  unfold putKD stored
  rw [repK_any r k]
  by_cases q : (getKD kvs k).isSome = true
  · rw [if_pos q, if_pos q]
    clear q
    induction r with
    | nil => exact .nil
    | @cons p q ps qs h t ih =>
      rw [List.map_cons, List.map_cons]
      refine .cons ?_ ih
      obtain ⟨h3, w, h4, h5⟩ := h
      by_cases e : p.1 = k
      · rw [if_pos e, if_pos (h3.symm.trans e)]; exact ⟨h3, v, h1, h2⟩
      · rw [if_neg e, if_neg (fun z => e (h3.trans z))]; exact ⟨h3, w, h4, h5⟩
  · rw [if_neg q, if_neg q]; exact paired_snoc r ⟨rfl, v, h1, h2⟩
theorem repT_put {kvs : List (List Key × D)} {vs : List (List Key × Addr × Value)} (r : RepT K M kvs vs) (k : List Key) {b : Addr} {d : D} {v : V} {u : Value} (hb : SqN K M b (k.map kV)) (h1 : RelV v u) (h2 : Rep K M d v) : RepT K M (putKD kvs k d) (storedH vs k b u) := by
  unfold putKD storedH
  rw [repT_any r k]
  by_cases q : (getKD kvs k).isSome = true
  · rw [if_pos q, if_pos q]
    clear q
    induction r with
    | nil => exact .nil
    | @cons p q ps qs h t ih =>
      rw [List.map_cons, List.map_cons]
      refine .cons ?_ ih
      obtain ⟨h3, h6, w, h4, h5⟩ := h
      unfold putAt
      by_cases e : p.1 = k
      · rw [if_pos e, if_pos (h3.symm.trans e)]; exact ⟨h3, h6, v, h1, h2⟩
      · rw [if_neg e, if_neg (fun z => e (h3.trans z))]; exact ⟨h3, h6, w, h4, h5⟩
  · rw [if_neg q, if_neg q]; exact paired_snoc r ⟨rfl, hb, v, h1, h2⟩
theorem keyD_ok {d : D} {k : Key} (e : keyD d = some k) (h : Rd2 K M H d v) : v = kV k := by
  cases d with
  | int i => cases e; exact h.int
  | str x => cases e; exact h.str
  | _ => cases e
theorem keysD_ok : ∀ {ds : List D} {ks : List Key} {vs : List V}, keysD ds = some ks → Reps K M ds vs → vs = ks.map kV
  | [], ks, vs, e, h => by
    cases e
    simpa [Reps] using h
  | d :: ds, ks, vs, e, h => by
    obtain ⟨k, e1, e2⟩ := Option.bind_eq_some_iff.mp e
    obtain ⟨ks', e3, rfl⟩ := Option.map_eq_some_iff.mp e2
    simp only [Reps] at h
    obtain ⟨v, r, rfl, h1, h2⟩ := h
    rw [keyD_ok (H := M) e1 (.inl h1), keysD_ok e3 h2]
    rfl
theorem keyT_ok {d : D} {ks : List Key} (e : keyT d = some ks) (h : Rd2 K M H d v) : ∃ b, v = .ref b ∧ SqN K M b (ks.map kV) := by
  cases d with
  | tup ds =>
    rcases h with h | ⟨l, o, _, _, e2⟩
    · simp only [Rep] at h
      obtain ⟨a, vs, h1, h2, h3⟩ := h
      rw [keysD_ok e h3] at h2
      exact ⟨a, h1, h2⟩
    · cases o <;> cases e2
  | _ => cases e
theorem Rd2.dk {kvs : List (Key × D)} (h : Rd2 K M H (.dk kvs) v) (s : Same M H) : ∃ a o vs, v = .ref a ∧ H a = some (obO a o) ∧ DkF K a o vs ∧ RepK K M kvs vs := by
  rcases h with h | ⟨l, o, e1, a, e⟩
  · simp only [Rep] at h
    obtain ⟨a, o, vs, h1, h2, h3, h4⟩ := h
    exact ⟨a, o, vs, h1, s _ _ h2, h3, repG_iff.mp h4⟩
  · cases o with
    | dk xs =>
      cases e
      obtain ⟨o, vs, h1, h2, h3⟩ := a
      exact ⟨l, o, vs, e1, h1, h2, h3⟩
    | _ => cases e
theorem Rd2.dt {kvs : List (List Key × D)} (h : Rd2 K M H (.dt kvs) v) (s : Same M H) : ∃ a o vs, v = .ref a ∧ H a = some (obO a o) ∧ DtF K a o vs ∧ RepT K M kvs vs := by
  rcases h with h | ⟨l, o, e1, a, e⟩
  · simp only [Rep] at h
    obtain ⟨a, o, vs, h1, h2, h3, h4⟩ := h
    exact ⟨a, o, vs, h1, s _ _ h2, h3, repH_iff.mp h4⟩
  · cases o with
    | dt xs =>
      cases e
      obtain ⟨o, vs, h1, h2, h3⟩ := a
      exact ⟨l, o, vs, e1, h1, h2, h3⟩
    | _ => cases e
theorem keysAt {kvs : List (List Key × D)} {vs : List (List Key × Addr × Value)} (r : RepT K M kvs vs) (s : Same M H) : KeysAt K H vs := by
  induction r with
  | nil => exact fun x h => nomatch h
  | @cons p q ps qs h t ih =>
    intro x hx
    obtain ⟨h1, h2, _⟩ := h
    rcases List.mem_cons.mp hx with rfl | hx
    · rw [← h1]
      exact h2.mono s
    · exact ih x hx
theorem look_ok {dx dy : D} {r : Option D} (s : Same M H) (h1 : Rd2 K M H dx v) (h2 : Rd2 K M H dy u) (e : lookD dx dy = some r) : ∃ a ov, v = .ref a ∧ DG1 K H a u ov ∧ SameO K M r ov := by
  cases dx with
  | dk kvs =>
    obtain ⟨k, e1, rfl⟩ := Option.map_eq_some_iff.mp e
    obtain ⟨a, o, vs, rfl, q1, q2, q3⟩ := h1.dk s
    obtain ⟨ov, q4, q5⟩ := repK_get q3 k
    exact ⟨a, ov, rfl, .inl ⟨o, vs, k, q1, q2, keyD_ok e1 h2, q4⟩, q5⟩
  | dt kvs =>
    obtain ⟨k, e1, rfl⟩ := Option.map_eq_some_iff.mp e
    obtain ⟨a, o, vs, rfl, q1, q2, q3⟩ := h1.dt s
    obtain ⟨ov, q4, q5⟩ := repT_get q3 k
    obtain ⟨b, rfl, hb⟩ := keyT_ok e1 h2
    exact ⟨a, ov, rfl, .inr ⟨o, vs, k, b, q1, q2, keysAt q3 s, rfl, hb.mono s, q4⟩, q5⟩
  | _ => cases e
/-- d[y] -/
def pItD (x y : D) : Option X := (lookD x y).bind fun r => r.map X.im
theorem ok_itD : OpOk K (rItD K) pItD := fun M H dx dy x v u s h1 h2 e Q q => by
  obtain ⟨r, e1, e2⟩ := Option.bind_eq_some_iff.mp e
  obtain ⟨d, rfl, rfl⟩ := Option.map_eq_some_iff.mp e2
  obtain ⟨a, ov, rfl, g, so⟩ := look_ok s h1 h2 e1
  cases ov with
  | none => exact so.elim
  | some w => exact ⟨a, w, rfl, g, q.im0 s so⟩
/-- d.get(y, z) -/
def isDic : D → Bool
  | .dk _ => true
  | .dt _ => true
  | _ => false
def imX : X → Option D
  | .im d => some d
  | _ => none
def dGetD (dd dy dx : Ev → RE X) : Ev → RE X := fun env => (dd env).bind fun x e1 => if ((rd e1 x).map isDic) = some true then (dy e1).bind fun y e2 => (dx e2).bind fun z e3 => opt ((rd e3 x).bind fun a => (rd e3 y).bind fun b => (imX z).bind fun c => (lookD a b).map fun r => X.im (r.getD c)) e3 else .bad
theorem isDN_of {d : D} (s : Same M H) (h : Rd2 K M H d v) (e : isDic d = true) : ∃ a, v = .ref a ∧ IsDN K H a := by
  cases d with
  | dk kvs =>
    obtain ⟨a, o, vs, rfl, q1, q2, q3⟩ := h.dk s
    exact ⟨a, rfl, .inl ⟨o, vs, q1, q2⟩⟩
  | dt kvs =>
    obtain ⟨a, o, vs, rfl, q1, q2, q3⟩ := h.dt s
    exact ⟨a, rfl, .inr ⟨o, vs, q1, q2⟩⟩
  | _ => cases e
theorem de_getD (hd : DE K W td dd) (hy : DE K W ty dy) (hx : DE K W tx dx) : DE K W (tGetD K td ty tx) (dGetD dd dy dx) := fun M σ H env hh => by
  refine Sat.bind (c := fun v H1 Q => ∃ a, v = V.ref a ∧ IsDN K H1 a ∧ ty σ H1 fun y H2 => tx σ H2 fun z H3 => ∃ ov, DG1 K H3 a y ov ∧ Q (ov.getD z) H3) back_x hh (hd M σ H env hh) (fun Q q => q) fun M1 H1 env1 x v g1 s1 hh1 r1 => ?_
  by_cases hc : ((rd env1 x).map isDic) = some true
  · rw [if_pos hc]
    obtain ⟨d0, q1, q2⟩ := Option.map_eq_some_iff.mp hc
    obtain ⟨a, rfl, isd⟩ := isDN_of hh1.ex (rd_ok hh1 r1.1 q1) q2
    refine Sat.bind (c := fun y H2 Q => tx σ H2 fun z H3 => ∃ ov, DG1 K H3 a y ov ∧ Q (ov.getD z) H3) back_x hh1 (hy M1 σ H1 env1 hh1) (fun Q q => ⟨a, rfl, isd, q⟩) fun M2 H2 env2 y u g2 s2 hh2 r2 => ?_
    refine Sat.bind (c := fun z H3 Q => ∃ ov, DG1 K H3 a u ov ∧ Q (ov.getD z) H3) back_x hh2 (hx M2 σ H2 env2 hh2) (fun Q q => q) fun M3 H3 env3 z w g3 s3 hh3 r3 => ?_
    refine sat_fin hh3 fun x' e Q q => ?_
    obtain ⟨da, e1, e⟩ := Option.bind_eq_some_iff.mp e
    obtain ⟨db, e2, e⟩ := Option.bind_eq_some_iff.mp e
    obtain ⟨dc, e3, e⟩ := Option.bind_eq_some_iff.mp e
    obtain ⟨r, e4, rfl⟩ := Option.map_eq_some_iff.mp e
    have ra := rd_ok hh3 (RepX.grow hh2 (RepX.grow hh1 r1.1 g2 s2) g3 s3) e1
    have rb := rd_ok hh3 (RepX.grow hh2 r2.1 g3 s3) e2
    obtain ⟨a', ov, e5, g, so⟩ := look_ok hh3.ex ra rb e4
    cases e5
    have rz : Rep K M3 dc w := by
      cases z with
      | im d => cases e3; exact r3.1
      | _ => cases e3
    refine ⟨ov, g, q.im0 hh3.ex ?_⟩
    cases r with
    | none =>
      cases ov with
      | none => exact rz
      | some _ => exact so.elim
    | some d =>
      cases ov with
      | none => exact so.elim
      | some _ => exact so
  · rw [if_neg hc]
    trivial
/-- d[k] = x -/
def setD (ds : List D) (po : Bool × OD) : Option OD := match ds, po.2 with
  | [d, k], .dk kvs => (keyD k).bind fun k => if fit (putKD kvs k d).length = true then some (.dk (putKD kvs k d)) else none
  | [d, k], .dt kvs => (keyT k).bind fun k => if fit (putKD kvs k d).length = true then some (.dt (putKD kvs k d)) else none
  | _, _ => none
def dSetD (i : Nat) (de dk : Ev → RE X) : Ev → RS := fun env => if (slotOf env i).isSome = true then (de env).stm fun y e1 => (dk e1).stm fun k e2 => optS ((frzs [y, k]).bind fun ds => (slotOf e2 i).bind fun po => (setD ds po).map fun o => e2.set i (.ow po.1 o)) else .bad
theorem set_at {l : Addr} {d k : D} {o o' : OD} {v u : V} {p : Bool} {Q : Hp → Prop} (s : Same M H) (a : At K M H l o) (hd : Rep K M d v) (hk : Rep K M k u) (e : setD [d, k] (p, o) = some o') (q : ∀ ho, At K M (upd H l ho) l o' → Q (upd H l ho)) : DP1 K H l u v Q := by
  cases o with
  | dk kvs =>
    obtain ⟨kk, e1, e2⟩ := Option.bind_eq_some_iff.mp (show ((keyD k).bind fun k => if fit (putKD kvs k d).length = true then some (OD.dk (putKD kvs k d)) else none) = some o' from e)
    split at e2
    · rename_i hf
      cases e2
      obtain ⟨ob, vs, h1, h2, h3⟩ := a
      have hz := fit_ok hf
      have rr : RepK K M (putKD kvs kk d) (stored vs kk .none) → True := fun _ => trivial
      have lz : (stored vs kk .none).length ≤ sizeLine := by
        have : (putKD kvs kk d).length = (stored vs kk .none).length := by
          unfold putKD stored
          rw [repK_any h3 kk]
          have := Paired.length h3
          by_cases q : (getKD kvs kk).isSome = true
          · rw [if_pos q, if_pos q]; simp [this]
          · rw [if_neg q, if_neg q]; simp [this]
        rw [← this]; exact hz
      refine .inl ⟨ob, vs, kk, h1, h2, keyD_ok (H := H) e1 (.inl hk), lz, fun o2 w hw f => q (obO l o2) ⟨o2, _, upd_same, f, repK_put h3 kk hw hd⟩⟩
    · cases e2
  | dt kvs =>
    obtain ⟨kk, e1, e2⟩ := Option.bind_eq_some_iff.mp (show ((keyT k).bind fun k => if fit (putKD kvs k d).length = true then some (OD.dt (putKD kvs k d)) else none) = some o' from e)
    split at e2
    · rename_i hf
      cases e2
      obtain ⟨ob, vs, h1, h2, h3⟩ := a
      have hz := fit_ok hf
      obtain ⟨b, rfl, hb⟩ := keyT_ok (H := H) e1 (.inl hk)
      have lz : (storedH vs kk b .none).length ≤ sizeLine := by
        have : (putKD kvs kk d).length = (storedH vs kk b .none).length := by
          unfold putKD storedH
          rw [repT_any h3 kk]
          have := Paired.length h3
          by_cases q : (getKD kvs kk).isSome = true
          · rw [if_pos q, if_pos q]; simp [this]
          · rw [if_neg q, if_neg q]; simp [this]
        rw [← this]; exact hz
      refine .inr ⟨ob, vs, kk, b, h1, h2, keysAt h3 s, rfl, hb.mono s, lz, fun o2 w hw f => q (obO l o2) ⟨o2, _, upd_same, f, repT_put h3 kk hb hw hd⟩⟩
    · cases e2
  | _ => cases e
theorem ds_setD {i : Nat} {tk : TE} {dk : Ev → RE X} (h : DE K W te de) (hk : DE K W tk dk) : DS K W (tAsg te (gSub (tVar i) tk (rSetD K))) (dSetD i de dk) := fun M σ H env hh => by
  unfold dSetD
  by_cases hc : (slotOf env i).isSome = true
  · rw [if_pos hc]
    obtain ⟨⟨p0, o0⟩, q1⟩ := Option.isSome_iff_exists.mp hc
    obtain ⟨l, es, a0, m0⟩ := hh.slot i _ (slotOf_ok q1)
    refine Sat.stm (c := fun x H1 D => ∃ v, σ[i]? = some (some v) ∧ tk σ H1 fun k H2 => rSetD K v k x H2 fun H3 => D.nx σ H3) hh (h M σ H env hh) (fun D q => q) fun M1 H1 env1 y x g1 s1 hh1 r1 => ?_
    refine Sat.stmB (c := fun k H2 D => rSetD K (.ref l) k x H2 fun H3 => D.nx σ H3) hh g1 (hk M1 σ H1 env1 hh1) (fun D q => ⟨_, es, q⟩) fun M2 H2 env2 yk kv g2 s2 hh2 r2 => ?_
    cases e2 : ((frzs [y, yk]).bind fun ds => (slotOf env2 i).bind fun po => (setD ds po).map fun o => env2.set i (.ow po.1 o)) with
    | none => trivial
    | some env' =>
      obtain ⟨ds, t1, e3⟩ := Option.bind_eq_some_iff.mp e2
      obtain ⟨⟨p, o⟩, t2, e4⟩ := Option.bind_eq_some_iff.mp e3
      obtain ⟨o', t3, rfl⟩ := Option.map_eq_some_iff.mp e4
      refine fun D k => ?_
      have g := g1.trans hh g2
      have gz := frzM_grow g
      have hz := frzM_holds (H := H) hh2
      have ra : RA K σ H M2 H2 env2 [y, yk] [x, kv] := Paired.cons ⟨RepX.grow hh1 r1.1 g2 s2, r1.2⟩ (Paired.cons (back_x _ _ _ _ _ _ _ g1.dom r2) Paired.nil)
      have rs := frzs_rep ra t1
      obtain ⟨l', es', a', m'⟩ := hz.slot i _ (slotOf_ok t2)
      rw [es] at es'
      cases es'
      cases ds with
      | nil => simp [Reps] at rs
      | cons d ds =>
        cases ds with
        | nil =>
          simp only [Reps] at rs
          obtain ⟨_, _, e5, _, rfl⟩ := rs
          cases e5
        | cons d2 ds =>
          cases ds with
          | cons d3 ds =>
            simp only [Reps] at rs
            obtain ⟨_, _, e5, _, _, _, e6, _, _, _, rfl, _⟩ := rs
            cases e5
            cases e6
          | nil =>
            simp only [Reps] at rs
            obtain ⟨x', r1', e9, hx, kk, r2', e8, hk2, e7⟩ := rs
            subst e7
            cases e8
            cases e9
            refine ⟨l, rfl, set_at hz.ex a' hx hk2 t3 fun ho az => ?_⟩
            obtain ⟨w1, w2, w3⟩ := own_write hz (slotOf_ok t2) es az
            exact k σ _ _ (gz.trans hh w2) w1
  · rw [if_neg hc]
    trivial
end
def tNewD : TE := fun _ H Q => ∀ p, H p = none → (p == sysModules) = false → ∀ o : Obj, o.ExactDict → (∃ ep, o.data = .dict #[] ep) → Q (.ref p) (upd H p (obO p o))
theorem pe_newD {X : Cx} {pos : Pos} : PE X (.Dict [] [] pos) tNewD := ⟨fun pins s σ H Q I h =>
  wpAny_Dict_empty ⟨.ref s.heap.objs.size, _, I.laid (a := s.heap.objs.size) (o := obO s.heap.objs.size { cls := .type "dict", data := .dict #[] }) (t' := s.toks) (fun _ _ q => Heap.get?_push_of_some _ q) (Nat.le_refl _) (ob_ok (Heap.get?_push_size _ rfl)), rfl,
    h _ (I.hok.fresh (Nat.le_refl _)) (beq_eq_false_iff_ne.mpr (Ne.symm (Nat.ne_of_lt I.big))) _ ⟨rfl, rfl, rfl⟩ ⟨_, rfl⟩⟩⟩
def dNewT : Ev → RE X := fun env => .ok (.ow (.dt [])) env
section
variable {K : Fg} [WD K] {W : WS}
theorem newD_grow {M H : Hp} {σ : L2.St} {env : Ev} {p : Addr} {ho : HO} {o : OD} (hh : Holds K M env σ H) (n : H p = none) (a : At K M (upd H p ho) p o) : Grow M env σ H M env σ (upd H p ho) ∧ Holds K M env σ (upd H p ho) ∧ RX K σ H M (upd H p ho) env (.ow o) (.ref p) := by
  have e := ext_own hh.ex (o := ho) n
  have hh2 := e.holds hh
  refine ⟨e.grow hh, hh2, ⟨p, rfl, a, hh.ex.free n, fun z => ?_⟩, fun o2 _ l z => by cases z; exact n⟩
  obtain ⟨u, q⟩ := hh.ownSome z
  rw [n] at q
  cases q
theorem de_newT : DE K W tNewD dNewT := fun M σ H env hh Q k p n hs o hx ⟨ep, hd⟩ => by
  obtain ⟨g, h2, r⟩ := newD_grow (ho := obO p o) (o := .dt []) hh n ⟨o, [], upd_same, ⟨Nat.zero_le _, hs, hx, #[], ep, hd, rfl, List.nodup_nil⟩, .nil⟩
  exact k _ _ _ g (.refl _) h2 r
end
end Dn
namespace Dn
open PySem PySem.Spec PyProof.Rows L2
/-- the keys ks of the dict at d, whose object is o -/
def ItG (d : Addr) (o : Obj) (ks : List V) : It :=
  ⟨fun i H => H d = some (obO d o) ∧ i < ks.length, fun i H x H' => H' = H ∧ ks[i]? = some x, fun i H => H d = some (obO d o) ∧ ks.length ≤ i⟩
/-- o is a dict with these keys -/
def DKs (d : Addr) (o : Obj) (ks : List V) : Prop := (d == sysModules) = false ∧ o.ExactDict ∧ ∃ (es : Array DictEntry) (ep : Nat), o.data = .dict es ep ∧ es.size = ks.length ∧ ∀ (i : Nat) (x : V), ks[i]? = some x → ∃ en : DictEntry, es[i]? = some en ∧ RelV x en.key
theorem turn_ks {P : Program} {w : World} {K : PySem.W.Frag} {tg : Expr} {d : Addr} {o : Obj} {ks : List V} {es : Array DictEntry} {ep : Nat} (it : Addr) (hdt : o.data = .dict es ep) (hsz : es.size = ks.length) (ent : ∀ (i : Nat) (x : V), ks[i]? = some x → ∃ en : DictEntry, es[i]? = some en ∧ RelV x en.key) :
    Turn P w K tg (ItG d o ks) [it] it (fun i h => h.IsKeyIter it d i ks.length ep) where
  mem := by simp
  obj := fun i h st b hb => by
    have e : b = it := by simpa using hb
    subst e
    obtain ⟨oi, e, c, dd⟩ := st
    exact ⟨oi, e, fun v z => by rw [dd] at z; cases z⟩
  keep := fun i h h' st k => st.at fun oi e => k it (by simp) oi e
  item := by
    intro X hP hw hK hc i pins s σ H E I hf st hg
    subst hP hw hK
    obtain ⟨hd, hi⟩ := hg
    obtain ⟨f0, f1, f2, f3, f4, f5⟩ := hf it (by simp)
    obtain ⟨x, hkv⟩ : ∃ p, ks[i]? = some p := ⟨ks[i], List.getElem?_eq_getElem hi⟩
    obtain ⟨en, hen, hrel⟩ := ent i x hkv
    have hgd := ob_at I hd
    refine next_key_item st hgd hdt hsz hen fun h' st' sb => ?_
    have I1 : Inv X pins σ H { s with heap := h' } := I.turned (t' := s.toks) (fun b ob hb e => (sb.2 b hb).trans e) f0 f1 f3 f4 f5
    obtain ⟨oi, e, c, dd⟩ := id st'
    exact ⟨en.key, rfl, go_of (s := { s with heap := h' }) e c dd (by decide) ⟨x, H, I1, hrel, ⟨rfl, hkv⟩, st', fun b hb => (hf b hb).1⟩⟩
  done := by
    intro X hP hw hK hc i pins s σ H E I hf st hg
    subst hP hw hK
    obtain ⟨hd, hi⟩ := hg
    obtain ⟨f0, f1, f2, f3, f4, f5⟩ := hf it (by simp)
    have hgd := ob_at I hd
    exact next_key_end (I.ok.hd hc) st hgd hdt hsz hi fun h' eb => ⟨rfl, I.turned (t' := s.toks) (fun b ob hb e => eb b ob hb e) f0 f1 f3 f4 f5⟩
  self := fun A i s Q E st h => by
    refine wpAny_pyIter_slot st.typeIs F.slot_dict_keyiterator_iter (wpAny_call_entry F.slot_dict_keyiterator_iter st.typeIs F.entry_dict_keyiterator_iter ?_ (F.args_dict_keyiterator_iter_1 _))
    show wpAny _ _ (ret (.ref it)) _ _ s
    exact wpAny_pure ⟨_, rfl, "dict_keyiterator", _, st.typeIs, F.slot_dict_keyiterator_next.lookup, h⟩
def iKsD (td : TE) : TI := fun σ H R => td σ H fun x H1 => ∃ d o ks, x = .ref d ∧ H1 d = some (obO d o) ∧ DKs d o ks ∧ R (ItG d o ks) H1
theorem pi_ksD {X : Cx} {tg e : Expr} {td : TE} (he : PE X e td) : PI X tg e (iKsD td) := by
  refine ⟨fun pins s σ H R I h => ?_⟩
  refine thn (he.run pins s σ H _ I h) fun u s1 ⟨x, H1, I1, rx, d, o, ks, ex, hd, ⟨hs, hx, es, ep, hdt, hsz, ent⟩, q⟩ => ?_
  subst ex
  obtain rfl : u = Value.ref d := rx
  refine iter_keys hs (ob_at I1 hd) hx hdt (pi_one (tk := s1.toks) I1 _ (turn_ks _ hdt hsz ent) ⟨_, Heap.get?_push_size _ rfl, rfl, ?_⟩ q)
  rw [hsz] <;> rfl
section
variable {K : Fg} [WD K] {W : WS} {M M' M1 M2 : Hp} {env env' env1 env2 : Ev} {σ σ' σ1 : L2.St} {H H' H1 H2 : Hp} {x y : X} {v u : V} {td : TE} {dd : Ev → RE X}
theorem pairs_get {P : Program} {w : World} {knd : KeyKind P w Key} : ∀ {es : List DictEntry} {vs : List (Key × Value)} {i : Nat} {p : Key × Value}, Pairs knd es vs → vs[i]? = some p → ∃ en, es[i]? = some en ∧ knd.is p.1 en.key = true
  | _, _, i, p, .nil, e => by simp at e
  | _, _, 0, p, .cons h1 h2 t, e => by
    simp at e
    subst e
    exact ⟨_, rfl, h1⟩
  | _, _, i + 1, p, .cons h1 h2 t, e => by
    obtain ⟨en, q1, q2⟩ := pairs_get (i := i) t (by simpa using e)
    exact ⟨en, by simpa using q1, q2⟩
theorem pairs_len {P : Program} {w : World} {knd : KeyKind P w Key} : ∀ {es : List DictEntry} {vs : List (Key × Value)}, Pairs knd es vs → es.length = vs.length
  | _, _, .nil => rfl
  | _, _, .cons _ _ t => by simp [pairs_len t]
theorem dk_ks {a : Addr} {o : Obj} {vs : List (Key × Value)} (f : DkF K a o vs) : DKs a o (vs.map fun p => kV p.1) := by
  obtain ⟨_, hs, hx, es, ep, hd, _, pr, _⟩ := f
  refine ⟨hs, hx, es, ep, hd, by rw [List.length_map, ← pairs_len pr, Array.length_toList], fun i x e => ?_⟩
  rw [List.getElem?_map] at e
  obtain ⟨p, e1, rfl⟩ := Option.map_eq_some_iff.mp e
  obtain ⟨en, q1, q2⟩ := pairs_get pr e1
  exact ⟨en, by simpa using q1, relV_key (show keyIs p.1 en.key = true from q2)⟩
theorem dt_ks {a : Addr} {o : Obj} {xs : List (List Key × Addr × Value)} (f : DtF K a o xs) : DKs a o (xs.map fun p => V.ref p.2.1) := by
  obtain ⟨_, hs, hx, es, ep, hd, pr, _⟩ := f
  refine ⟨hs, hx, es, ep, hd, by rw [List.length_map]; exact size_of_entries pr, fun i x e => ?_⟩
  rw [List.getElem?_map] at e
  obtain ⟨p, e1, rfl⟩ := Option.map_eq_some_iff.mp e
  have q := entry_at pr i
  rw [e1] at q
  exact ⟨_, q, rfl⟩
theorem rep_key (k : Key) : Rep K M (Key.toD k) (kV k) := by
  cases k with
  | inl i => exact rep_int
  | inr x => exact rep_str
theorem reps_key : ∀ ks : List Key, Reps K M (ks.map Key.toD) (ks.map kV)
  | [] => Reps.nil
  | k :: ks => Reps.cons (rep_key k) (reps_key ks)
theorem repK_keys {kvs : List (Key × D)} {vs : List (Key × Value)} (r : RepK K M kvs vs) : Reps K M (kvs.map fun p => Key.toD p.1) (vs.map fun p => kV p.1) := by
  induction r with
  | nil => exact Reps.nil
  | @cons p q ps qs h t ih =>
    obtain ⟨h1, _⟩ := h
    rw [List.map_cons, List.map_cons, ← h1]
    exact Reps.cons (rep_key _) ih
theorem repT_keys {kvs : List (List Key × D)} {vs : List (List Key × Addr × Value)} (r : RepT K M kvs vs) : Reps K M (kvs.map fun p => D.tup (p.1.map Key.toD)) (vs.map fun p => V.ref p.2.1) := by
  induction r with
  | nil => exact Reps.nil
  | @cons p q ps qs h t ih =>
    obtain ⟨h1, h2, _⟩ := h
    rw [List.map_cons, List.map_cons]
    refine Reps.cons ?_ ih
    simp only [Rep]
    exact ⟨_, _, rfl, h2, reps_key _⟩
theorem it_ks {d : Addr} {o : Obj} {ks : List V} {xs : List D} {as : List Addr} (r : Reps K M xs ks) (src : ∀ M2 H2, Same M M2 → Same M2 H2 → (∀ b ∈ as, ∀ o, H b = some o → H2 b = some o) → H2 d = some (obO d o)) : ItOk K (ItG d o ks) as M H xs where
  go := fun M2 H2 i x q e1 e2 f => by
    obtain ⟨v, h1, h2⟩ := r.get q
    refine ⟨⟨src M2 H2 e1 e2 f, (List.getElem?_eq_some_iff.mp h1).1⟩, fun w H3 hy => ?_⟩
    obtain ⟨rfl, hy⟩ := hy
    have e : w = v := Option.some.inj (hy.symm.trans h1)
    subst e
    exact ⟨M2, Ext.refl e2, Rep.mono e1 _ _ h2⟩
  stop := fun M2 H2 e1 e2 f => ⟨src M2 H2 e1 e2 f, by rw [r.length]; exact Nat.le_refl _⟩
/-- what a walk over the dict yields -/
def D.ks : D → Option (List D)
  | .dk kvs => some (kvs.map fun p => Key.toD p.1)
  | .dt kvs => some (kvs.map fun p => D.tup (p.1.map Key.toD))
  | _ => none
def diKs (dd : Ev → RE X) : Ev → RE Dn.Its := fun env => (dd env).bind fun x e1 => match x with
  | .im d => opt ((D.ks d).map fun l => (l, none)) e1
  | _ => .bad
theorem di_ks (h : DE K W td dd) : DI K W (iKsD td) (diKs dd) := fun M σ H env hh => by
  refine Sat.bind (c := fun x H1 (R : It → Hp → Prop) => ∃ d o ks, x = V.ref d ∧ H1 d = some (obO d o) ∧ DKs d o ks ∧ R (ItG d o ks) H1) back_i hh (h M σ H env hh) (fun Q q => q) fun M1 H1 env1 x v g1 s1 hh1 r1 => ?_
  obtain ⟨r, n⟩ := r1
  cases x with
  | im d =>
    cases d with
    | dk kvs =>
      refine fun Q k => ?_
      simp only [RepX, Rep] at r
      obtain ⟨a, o, vs, rfl, h1, h2, h3⟩ := r
      exact ⟨a, o, _, rfl, hh1.ex _ _ h1, dk_ks h2, k _ M1 H1 .refl (.refl _) hh1 ⟨[], (fun a z => nomatch z), it_ks (repK_keys (repG_iff.mp h3)) fun M2 H2 e1 e2 f => e2 _ _ (e1 _ _ h1), (fun j z => nomatch z)⟩⟩
    | dt kvs =>
      refine fun Q k => ?_
      simp only [RepX, Rep] at r
      obtain ⟨a, o, vs, rfl, h1, h2, h3⟩ := r
      exact ⟨a, o, _, rfl, hh1.ex _ _ h1, dt_ks h2, k _ M1 H1 .refl (.refl _) hh1 ⟨[], (fun a z => nomatch z), it_ks (repT_keys (repH_iff.mp h3)) fun M2 H2 e1 e2 f => e2 _ _ (e1 _ _ h1), (fun j z => nomatch z)⟩⟩
    | _ => trivial
  | ow o => trivial
  | sl j => trivial
end
end Dn
namespace DnSort
open PySem PySem.W PySem.SeqAt PySem.Calls PyProof.Rows
section
variable {prog : Program} {w : World} {A : Around} {E : Value → Shared → Prop} {s : Shared}
theorem call_tuple_lt {Q : Value → Shared → Prop} {l b : Addr} {items items2 : Array Value} {e r : Nat → Bool} (hl : s.heap.IsTuple l items) (hb : s.heap.IsTuple b items2)
    (he : ∀ j (h1 : j < items.size) (h2 : j < items2.size), EqAt A.in1 s items[j] items2[j] (e j)) (hr : ∀ j (h1 : j < items.size) (h2 : j < items2.size), e j = false → RcLt A.in1 s items[j] items2[j] (r j))
    (h : Q (.bool (firstLt e r (decide (items.size < items2.size)) (List.range (min items.size items2.size)))) s) : wpAny (model prog w) A (call (.builtin "tuple.__lt__") [.ref l, .ref b]) Q E s := by
  obtain ⟨⟨cls, dd, data, sl⟩, ho, hc, n, hd⟩ := id hl
  obtain ⟨⟨cls2, dd2, data2, sl2⟩, ho2, hc2, n2, hd2⟩ := id hb
  simp only at hc hd hc2 hd2
  subst hc hd hc2 hd2
  exact call_meets F.slot_tuple_lt ⟨_, ho, rfl⟩ F.entry_tuple_lt (F.args_tuple_lt_2 _ _) (tuple_ltAt l b items items2 n n2 dd dd2 sl sl2 e r) ⟨ho, ho2, he, hr, h⟩
theorem oneLt_tup {xs ys : List PyData} {a b : Value} {as bs : List Addr} {Q : Bool → Shared → Prop} (ra : Reads s.heap a (.tuple xs) as) (rb : Reads s.heap b (.tuple ys) bs) (hal : alikeAll xs ys = true)
    (hu : A.units + min (PyData.tuple xs).depth (PyData.tuple ys).depth < cLine) (hq : Q (dataLt (.tuple xs) (.tuple ys)) s) : wpAny (model prog w) A (oneLt' true a b) Q E s := by
  cases ra with
  | @tuple l o vs n _ as₁ h1 h2 h3 h4 =>
    cases rb with
    | @tuple l' o' vs' n' _ bs₁ k1 k2 k3 k4 =>
      have n1 : vs.size = xs.length := by simpa using ReadsAll.length _ _ _ h4
      have n2 : vs'.size = ys.length := by simpa using ReadsAll.length _ _ _ k4
      rw [dataLt_tuple, ← firstLt_toks xs ys hal, ← n1, ← n2] at hq
      rw [oneLt'_eq]
      simp only [if_true]
      refine wpAny_bind (wpAny_cRoomFor (room_here hu) ?_)
      refine wpAny_bind (wpAny_callSpecialIfBound?_slot (T := "tuple") ⟨_, h1, h2⟩ F.slot_tuple_lt (call_tuple_lt (e := pairEq xs ys) (r := fun j => dataLt (xs.getD j .none) (ys.getD j .none)) ⟨_, h1, h2, _, h3⟩ ⟨_, k1, k2, _, k3⟩ (fun j j1 j2 => ?_) (fun j j1 j2 hj => ?_) ?_))
      · have := eqAt_alikeAll xs ys A.in1 s vs.toList vs'.toList _ _ h4 k4 hal (room_in hu) j (by simpa using j1) (by simpa using j2)
        simpa using this
      · have := rcLt_alikeAll xs ys A.in1 s vs.toList vs'.toList _ _ h4 k4 hal (room_in hu) j (by simpa using j1) (by simpa using j2) hj
        simpa using this
      · exact wpAny_truthy_bool hq
theorem row_firsts : ∀ {vs : List Value} {ds : List PyData}, EachIs (fun v d => ∃ as, Reads s.heap v d as) vs ds → (∀ d ∈ ds, ∃ xs, d = .tuple xs) →
    ∃ fo : List (Option Value), fo.length = vs.length ∧ ((∃ d ∈ ds, d = .tuple []) → fo.all (·.isSome) = false) ∧ ∀ {M : Model} {A : Around} {E : Value → Shared → Prop} (Q : List (Option Value) → Shared → Prop), Q fo s → wpAny M A (vs.mapM firstOfTuple') Q E s
  | _, _, .nil, _ => ⟨[], rfl, fun ⟨_, h, _⟩ => (by simp at h), fun Q h => by rw [List.mapM_nil]; exact wpAny_pure h⟩
  | _, _, .cons (a := v) (b := d) (as := vs) (bs := ds) ⟨as, r⟩ t, ht => by
    obtain ⟨fo, h1, h2, h3⟩ := row_firsts t fun d hd => ht d (by simp [hd])
    obtain ⟨xs, e⟩ := ht d (by simp)
    subst e
    cases r with
    | @tuple l o us n _ _ q1 q2 q3 q4 =>
      refine ⟨us[0]? :: fo, by simp [h1], fun ⟨d2, m, e⟩ => ?_, fun {M A E} Q h => ?_⟩
      · rcases List.mem_cons.mp m with rfl | m
        · cases e
          have : us.toList.length = 0 := ReadsAll.length _ _ _ q4
          have : us[0]? = none := by rw [Array.getElem?_eq_none]; simpa using this
          rw [List.all_cons, this]
          rfl
        · rw [List.all_cons, h2 ⟨d2, m, e⟩, Bool.and_false]
      · rw [List.mapM_cons]
        refine wpAny_bind ?_
        rw [kas_first_eq]
        refine wpAny_bind (Looks.here (show Looks M s.heap (typeOf (.ref l)) o.cls from (Looks.ld q1).andThen .now) ?_)
        rw [q2, if_neg (by first | decide | simp)]
        refine wpAny_bind (listItems_at q1 q3 (wpAny_pure ?_))
        exact wpAny_bind (h3 (fun bs s' => wpAny M A (pure (us[0]? :: bs)) Q E s') (wpAny_pure h))
/-- tuples, one of them empty -/
theorem sortsAt_rows {vs : List Value} {ds : List PyData} (e : EachIs (fun v d => ∃ as, Reads s.heap v d as) vs ds) (hal : AllAlike ds) (ht : ∀ d ∈ ds, ∃ xs, d = .tuple xs) (h0 : ∃ d ∈ ds, d = .tuple []) (hu : ∀ d, d ∈ ds → A.units + d.depth < cLine) : SortsAt prog w A s (dataKind s.heap ds) vs := by
  have room : ∀ {d d' : PyData}, d ∈ ds → A.units + min d.depth d'.depth < cLine := fun {d d'} hd => Nat.lt_of_le_of_lt (Nat.add_le_add_left (Nat.min_le_left _ _) _) (hu d hd)
  obtain ⟨fo, f1, f2, f3⟩ := row_firsts e ht
  refine ⟨fun v hv => ?_, if (fo.toArray[0]?.bind id).isSome then general' else oneType', ?_, fun h2 E Q hq => ?_⟩
  · obtain ⟨d, hd, as, r⟩ := e.left v hv
    exact ⟨_, dataKind_some hal hd r⟩
  · intro E x y a b Q ha hb hq
    obtain ⟨d, as, hd, ra, rfl⟩ := dataKind_inv ha
    obtain ⟨d', as', hd', rb, rfl⟩ := dataKind_inv hb
    have hdd := hal d hd d' hd'
    have hroom := room (d' := d') hd
    obtain ⟨x1, rfl⟩ := ht d hd
    obtain ⟨x2, rfl⟩ := ht d' hd'
    split
    · exact oneLt_alike (f := false) (fun z => nomatch z) ra rb hdd (fun z => nomatch z) hroom hq
    · rw [keyLt'_oneType]
      exact oneLt_tup ra rb (by simpa [alike] using hdd) hroom hq
  · rw [keyKind'_eq, List.mapM_toArray, map_eq_pure_bind]
    refine wpAny_bind (wpAny_bind (f3 _ (wpAny_pure ?_)))
    have hf : (fo.toArray.all fun x => x.isSome) = false := by rw [List.all_toArray]; exact f2 h0
    rw [if_neg (by rw [hf]; exact Bool.false_ne_true)]
    split at hq
    · rename_i hg
      rw [if_pos hg]
      exact wpAny_pure hq
    · rename_i hg
      rw [if_neg hg]
      rw [oneTypeOnly'_eq, List.mapM_toArray, map_eq_pure_bind]
      refine wpAny_bind (wpAny_bind (wpAny_bind (kas_mapM (r := Value.type "tuple") _ (fun v hv Q' hq => ?_) (wpAny_pure ?_))))
      · obtain ⟨d, hd, as, r⟩ := e.left v hv
        obtain ⟨xs, rfl⟩ := ht d hd
        cases r with
        | tuple q1 q2 q3 q4 =>
          refine Looks.here ?_ hq
          rw [← q2]
          exact (Looks.ld q1).andThen .now
      · have hall : ((List.map (fun _ => Value.type "tuple") vs).toArray.all fun x => x == Value.type "tuple") = true := by
          simp only [List.all_toArray, List.all_map, List.all_eq_true]
          intro _ _
          rfl
        have h0 : (List.map (fun _ => Value.type "tuple") vs).toArray[0]? = some (Value.type "tuple") := by
          cases vs with
          | nil => simp at h2
          | cons v vs => simp
        rw [h0]
        simp only [hall, if_true]
        exact wpAny_pure (wpAny_pure hq)
end
section
variable {prog : Program} {w : World} {A : Around} {E : Value → Shared → Prop} {s : Shared} {β : Type} {R : Value → β → Prop} {enc : β → PyData} {vs : List Value} {bs : List β}
def SortX (ds : List PyData) : Prop := Sortable ds ∨ (∀ d ∈ ds, ∃ xs, d = .tuple xs)
theorem sortsX (e : EachIs (fun v d => ∃ as, Reads s.heap v d as) vs ds) (hal : AllAlike ds) (hx : SortX ds) (hu : ∀ d, d ∈ ds → A.units + d.depth < cLine) : SortsAt prog w A s (dataKind s.heap ds) vs := by
  rcases hx with h | h
  · exact SortsAt.data e hal h hu
  · by_cases h0 : ∃ d ∈ ds, d = .tuple []
    · exact sortsAt_rows e hal h h0 hu
    · refine SortsAt.data e hal (.inl fun d hd => ?_) hu
      obtain ⟨xs, rfl⟩ := h d hd
      cases xs with
      | nil => exact (h0 ⟨_, hd, rfl⟩).elim
      | cons x r => exact ⟨x, r, rfl⟩
open PyProof.Rows PySem.Calls in
theorem collect_tup {l : Addr} {vs : List Value} {Q : List Value → Shared → Prop} (hl : s.heap.IsTuple l vs.toArray)
    (h : Q vs { s with heap := (s.heap.push (seqObj "list" #[] 0)).update s.heap.objs.size (Obj.mapSeq (· ++ vs.toArray)) }) (hsz : vs.length ≤ sizeLine) :
    wpAny (model prog w) A (collect (.ref l)) Q E s := by
  obtain ⟨o, ho, hc, n, hd⟩ := id hl
  unfold collect
  refine wpAny_bind (wpAny_runValue (codeAny_builtin entry_proto_collect' ?_))
  show wpAny _ _ (do again (.builtin "list.__iadd__" ⟨[← newList [], .ref l], []⟩)) _ _ s
  refine wpAny_bind (wpAny_newList (wpAny_pure ⟨Code.quiet_builtin _ (by decide +kernel), codeAny_builtin entry_list_iadd' ?_⟩))
  show wpAny _ _ (Builtin.List.listExtendWith (.ref s.heap.objs.size) (.ref l) (.ref s.heap.objs.size)) _ _ { s with heap := s.heap.push (seqObj "list" #[] 0) }
  unfold Builtin.List.listExtendWith
  have ho' : (s.heap.push (seqObj "list" #[] 0)).get? l = some o := Heap.get?_push_of_some _ ho
  refine wpAny_bind (wpAny_typeOf (T := "tuple") ⟨o, ho', hc⟩ ?_)
  have ht : (Value.type "tuple" == Value.type "tuple") = true := by rfl
  rw [if_pos (by rw [ht]; simp)]
  refine wpAny_bind (listItems_at ho' hd ?_)
  refine wpAny_bind (listItems_at (xs := #[]) (n := 0) (Heap.get?_push_size _ rfl) rfl ?_)
  rw [if_neg (by simp)]
  refine wpAny_bind (listUpdate_at (xs := #[]) (n := 0) (Heap.get?_push_size _ rfl) rfl ?_ (Nat.zero_le _) (by show (#[] ++ vs.toArray).size ≤ sizeLine + 1; simp only [Array.size_append, List.size_toArray, List.length_nil]; omega))
  refine wpAny_pure ?_
  show wpAny (model prog w) A (do
      let o ← load s.heap.objs.size
      match o.data with
      | .seq xs _ => pure xs.toList
      | _ => unsupported "internal:collect") Q E { s with heap := (s.heap.push (seqObj "list" #[] 0)).update s.heap.objs.size (Obj.mapSeq (· ++ vs.toArray)) }
  refine wpAny_bind (wpAny_load (get?_update_seq (Heap.get?_push_size _ rfl) _) ?_)
  show wpAny _ _ (pure ((#[] : Array Value) ++ vs.toArray).toList) Q E _
  rw [show ((#[] : Array Value) ++ vs.toArray).toList = vs by simp]
  exact wpAny_pure h
open PyProof.Rows PySem.Calls in
theorem sorted_valsT {l : Addr} {vs : List Value} {κ : KeyKind} {Q : Value → Shared → Prop} (hl : s.heap.IsTuple l vs.toArray) (S : SortsAt prog w A.in1.in1 { s with heap := sortingHeap (copyHeap s.heap vs) (s.heap.objs.size + 1) vs } κ vs) (hL : vs.length ≤ sizeLine)
    (h : Q (.ref (s.heap.objs.size + 1)) { s with heap := sortedAll s.heap vs (sortVals κ false vs vs).toArray }) : wpAny (model prog w) A (call (.builtin "sorted") [.ref l]) Q E s := by
  refine call_function_entry_kw kind_sorted plain_sorted entry_sorted (args_sorted1 _) ?_
  unfold Builtin.«sorted»
  refine wpAny_bind (m := checkCount "sorted" 1 1 _) (wpAny_pure ?_)
  refine wpAny_bind (collect_tup hl ?_ hL)
  refine wpAny_bind (wpAny_newList ?_ hL)
  have hsz : ((s.heap.push (seqObj "list" #[] 0)).update s.heap.objs.size (Obj.mapSeq (· ++ vs.toArray))).objs.size = s.heap.objs.size + 1 := by
    rw [Heap.size_update, size_push']
  show wpAny _ _ _ _ _ { s with heap := copyHeap s.heap vs }
  rw [hsz]
  refine wpAny_bind (wpAny_holding (wpAny_call_entry_kw slot_list_sort ⟨_, copyHeap_at s.heap vs, rfl⟩ entry_list_sort ?body (args_list_sort _)))
  case body =>
    show wpAny (model prog w) A.in1.in1 (Builtin.«list.sort» ⟨[.ref (s.heap.objs.size + 1)], []⟩) _ _ _
    refine wpAny_mono (list_sort_vals (P := fun f s' => f = .done (.ret .none) ∧ Q (.ref (s.heap.objs.size + 1)) s') (s := { s with heap := copyHeap s.heap vs }) (copyHeap_at s.heap vs) S hL ⟨rfl, h⟩) (fun f s' hf => ?_) fun _ _ e => e
    obtain ⟨rfl, hq⟩ := hf
    exact ⟨_, rfl, wpAny_pure ⟨_, rfl, hq⟩⟩
theorem sorted_any {l : Addr} {Q : Value → Shared → Prop} (hl : s.heap.IsList l vs.toArray ∨ s.heap.IsTuple l vs.toArray) (e : EachIs R vs bs) (er : EachIs (fun v b => ∃ as, Reads s.heap v (enc b) as) vs bs) (hal : AllAlike (bs.map enc)) (hk : SortX (bs.map enc)) (hL : bs.length ≤ sizeLine)
    (hu : ∀ b, b ∈ bs → A.units + 2 + (enc b).depth < cLine) (h : ∀ out, out.length = bs.length → EachIs R out (bs.mergeSort (dataLe false enc)) → Q (.ref (s.heap.objs.size + 1)) { s with heap := sortedAll s.heap vs (List.toArray out) }) :
    wpAny (model prog w) A (call (.builtin "sorted") [.ref l]) Q E s := by
  have er' : EachIs (fun v b => ∃ as, Reads (sortingHeap (copyHeap s.heap vs) (s.heap.objs.size + 1) vs) v (enc b) as) vs bs := er.mono fun _ _ ⟨as, r⟩ => ⟨as, PyProof.Rows.Reads.keeps (fun _ _ => sorting_copy_old) r⟩
  rcases hl with hl | hl
  case inr =>
    refine sorted_valsT hl (sortsX (s := { s with heap := sortingHeap (copyHeap s.heap vs) (s.heap.objs.size + 1) vs }) (each_map (R := fun v d => ∃ as, Reads (sortingHeap (copyHeap s.heap vs) (s.heap.objs.size + 1) vs) v d as) enc er') hal hk (bound_map hu)) (by rw [e.length]; exact hL) ?_
    exact h _ (by rw [sortVals_length false rfl]; exact e.length) (sortVals_data false e er' hal)
  exact sorted_vals hl (sortsX (s := { s with heap := sortingHeap (copyHeap s.heap vs) (s.heap.objs.size + 1) vs }) (each_map (R := fun v d => ∃ as, Reads (sortingHeap (copyHeap s.heap vs) (s.heap.objs.size + 1) vs) v d as) enc er') hal hk (bound_map hu)) (by rw [e.length]; exact hL)
    (h _ (by rw [sortVals_length false rfl]; exact e.length) (sortVals_data false e er' hal))
end
end DnSort
namespace Dn
open PySem PySem.Spec PyProof.Rows L2
/-- as data of the model -/
def D.pyD (d : D) : PyData := d.py.getD .none
/-- a before b, or like it -/
def leD (rev : Bool) (a b : D) : Bool := cond rev (!PySem.W.dataLt a.pyD b.pyD) (!PySem.W.dataLt b.pyD a.pyD)
def tupP : PyData → Bool
  | .tuple _ => true
  | _ => false
def plainP : PyData → Bool
  | .none => false
  | .tuple _ => false
  | _ => true
def sortOk (ds : List PyData) : Bool := (ds.all fun d => ds.all fun e => PySem.W.alike d e) && ((ds.all tupP || ds.all plainP) && ds.all fun d => decide (d.depth ≤ 8))
def pSorted : List D → Option X
  | [.lst xs] => (pys xs).bind fun ds => if sortOk ds = true then some (.ow (.lst (xs.mergeSort (leD false)))) else none
  | [.tup xs] => (pys xs).bind fun ds => if sortOk ds = true then some (.ow (.lst (xs.mergeSort (leD false)))) else none
  | _ => none
def rSorted (K : Fg) (rev : Bool) : List V → Hp → VK → Prop := fun vs H Q => ∃ (a : Addr) (bs : List (D × V)), vs = [V.ref a] ∧ (SqL K H a (bs.map (·.2)) ∨ SqT K H a (bs.map (·.2))) ∧ (∀ b ∈ bs, Dp K H b.2 b.1.pyD) ∧ sortOk (bs.map fun b => b.1.pyD) = true ∧
  ∀ p, H p = none → Q (.ref p) (upd H p (.lst ((bs.mergeSort fun a b => leD rev a.1 b.1).map (·.2))))
theorem sortOk_ok {ds : List PyData} (h : sortOk ds = true) : PySem.W.AllAlike ds ∧ DnSort.SortX ds ∧ ∀ d ∈ ds, d.depth ≤ 8 := by
  unfold sortOk at h
  rw [Bool.and_eq_true, Bool.and_eq_true, Bool.or_eq_true] at h
  obtain ⟨h1, h2, h3⟩ := h
  refine ⟨fun d hd d' hd' => (List.all_eq_true.mp (List.all_eq_true.mp h1 d hd)) d' hd', ?_, fun d hd => of_decide_eq_true (List.all_eq_true.mp h3 d hd)⟩
  rcases h2 with h2 | h2
  · refine .inr fun d hd => ?_
    have := List.all_eq_true.mp h2 d hd
    cases d with
    | tuple xs => exact ⟨xs, rfl⟩
    | _ => cases this
  · refine .inl (.inr fun d hd => ?_)
    have := List.all_eq_true.mp h2 d hd
    cases d with
    | none => cases this
    | tuple xs => cases this
    | _ => exact ⟨(fun z => nomatch z), (fun xs z => nomatch z)⟩
theorem cr_sorted {X : Cx} (hu : X.A.units + 64 < cLine) : CallR X (.builtin "sorted") (rSorted X.K false) := by
  intro pins s σ H vs us Q I r h
  obtain ⟨a, bs, rfl, hs, hp, ho, q⟩ := h
  obtain ⟨hal, hx, hd⟩ := sortOk_ok ho
  obtain ⟨its, rv, hl, hz⟩ : ∃ its, Vals (bs.map (·.2)) its ∧ (s.heap.IsList a its.toArray ∨ s.heap.IsTuple a its.toArray) ∧ (bs.map (·.2)).length ≤ sizeLine := by
    rcases hs with hs | hs
    · obtain ⟨its, rv, hl, hz⟩ := I.list hs
      exact ⟨its, rv, .inl hl.isList, hz⟩
    · obtain ⟨its, rv, hl, hz⟩ := I.tuple hs
      obtain ⟨o, e1, e2, n, e3⟩ := hl
      exact ⟨its, rv, .inr ⟨o, e1, e2, n, e3⟩, hz⟩
  obtain ⟨u, rfl, ru⟩ := vals1 r
  obtain rfl : u = Value.ref a := ru
  have each : ∀ {bs : List (D × V)} {its : List Value}, Vals (bs.map (·.2)) its → PySem.W.EachIs (fun (u : Value) (b : D × V) => RelV b.2 u) its bs := by
    intro bs
    induction bs with
    | nil => intro its r; cases r; exact .nil
    | cons b bs ih => intro its r; cases r with | cons h t => exact .cons h (ih t)
  have e1 := each rv
  have e2 : PySem.W.EachIs (fun (u : Value) (b : D × V) => ∃ as, Reads s.heap u b.1.pyD as) its bs := by
    clear hs ho q hal hx hd hl hz each rv
    induction e1 with
    | nil => exact .nil
    | @cons u b us bs h t ih => exact .cons (Dp.reads I _ _ _ (hp b (by simp)) h) (ih fun b hb => hp b (by simp [hb]))
  have hlen : bs.length = its.length := by have := rv.length; simpa using this
  refine DnSort.sorted_any (enc := fun b : D × V => b.1.pyD) (R := fun (u : Value) (b : D × V) => RelV b.2 u) hl e1 e2 hal hx (by rw [hlen, ← rv.length]; exact hz) (fun b hb => ?_) fun out h1 h2 => ?_
  · have := hd _ (List.mem_map.mpr ⟨b, hb, rfl⟩)
    omega
  · have hb : H (s.heap.objs.size + 1) = none := I.hok.fresh (Nat.le_succ _)
    obtain ⟨c, hc⟩ := sortedAll_at s.heap its out.toArray
    have back : ∀ {bs : List (D × V)} {out : List Value}, PySem.W.EachIs (fun (u : Value) (b : D × V) => RelV b.2 u) out bs → Vals (bs.map (·.2)) out := by
      intro bs
      induction bs with
      | nil => intro out r; cases r; exact .nil
      | cons b bs ih => intro out r; cases r with | cons h t => exact .cons h (ih t)
    have rel : Vals ((bs.mergeSort fun a b => leD false a.1 b.1).map (·.2)) out := back h2
    refine ⟨.ref (s.heap.objs.size + 1), _, I.laid (a := s.heap.objs.size + 1) (o := .lst ((bs.mergeSort fun a b => leD false a.1 b.1).map (·.2))) (t' := s.toks) (fun b o hb => sortedAll_old hb) (Nat.le_succ _) ⟨?_, out, c, rel, hc⟩, rfl, q _ hb⟩
    rw [List.length_map, List.length_mergeSort, hlen, ← rv.length]
    exact hz
section
variable {K : Fg} [WD K]
theorem pys_get : ∀ {xs : List D} {ds : List PyData}, pys xs = some ds → ds = xs.map D.pyD ∧ ∀ x ∈ xs, ∃ p, x.py = some p
  | [], ds, e => by
    simp only [pys] at e
    cases e
    exact ⟨rfl, fun x h => nomatch h⟩
  | x :: xs, ds, e => by
    simp only [pys] at e
    obtain ⟨d, e1, e⟩ := Option.bind_eq_some_iff.mp e
    obtain ⟨ds', e2, e⟩ := Option.bind_eq_some_iff.mp e
    cases e
    obtain ⟨h1, h2⟩ := pys_get e2
    refine ⟨by rw [List.map_cons, ← h1]; unfold D.pyD; rw [e1]; rfl, fun y hy => ?_⟩
    rcases List.mem_cons.mp hy with rfl | hy
    · exact ⟨d, e1⟩
    · exact h2 y hy
theorem sorted_core {M H : Hp} {xs : List D} {ps : List PyData} {a : Addr} {us : List V} {Q : VK} (s : Same M H) (e1 : pys xs = some ps) (ho : sortOk ps = true) (h3 : SqL K H a us ∨ SqT K H a us) (h4 : Reps K M xs us) (q : Fin K M H (.ow (.lst (xs.mergeSort (leD false)))) Q) : rSorted K false [.ref a] H Q := by
  obtain ⟨rfl, h2⟩ := pys_get e1
  have hl := h4.length
  have z1 : (xs.zip us).map (·.2) = us := List.map_snd_zip (by omega)
  have z2 : (xs.zip us).map (·.1) = xs := List.map_fst_zip (by omega)
  have hrep : ∀ b ∈ xs.zip us, Rep K M b.1 b.2 := by
    clear q ho e1 h3 z1 z2 hl h2
    induction xs generalizing us with
    | nil => intro b hb; simp at hb
    | cons x xs ih =>
      simp only [Reps] at h4
      obtain ⟨v, r, rfl, q1, q2⟩ := h4
      intro b hb
      rw [List.zip_cons_cons] at hb
      rcases List.mem_cons.mp hb with rfl | hb
      · exact q1
      · exact ih q2 b hb
  have hsort : ((xs.zip us).mergeSort fun a b => leD false a.1 b.1).map (·.1) = xs.mergeSort (leD false) := by
    rw [PySem.W.sort_maps (r := fun a b : D × V => leD false a.1 b.1) (s := leD false) (·.1) fun a _ b _ => rfl, z2]
  refine ⟨a, xs.zip us, rfl, by rw [z1]; exact h3, fun b hb => ?_, by rw [show (xs.zip us).map (fun b => b.1.pyD) = ((xs.zip us).map (·.1)).map D.pyD by rw [List.map_map]; rfl, z2]; exact ho, fun p n => ?_⟩
  · have hm : b.1 ∈ xs := by rw [← z2]; exact List.mem_map_of_mem (f := (·.1)) hb
    obtain ⟨p, hp⟩ := h2 _ hm
    have : b.1.pyD = p := by unfold D.pyD; rw [hp]; rfl
    rw [this]
    exact Dp.up s (dp_of _ _ _ hp (hrep b hb))
  · refine q.lst s ?_ n
    rw [← hsort]
    have : ∀ l : List (D × V), (∀ b ∈ l, Rep K M b.1 b.2) → Reps K M (l.map (·.1)) (l.map (·.2)) := by
      intro l
      induction l with
      | nil => intro _; exact Reps.nil
      | cons b l ih => intro h; exact Reps.cons (h b (by simp)) (ih fun c hc => h c (by simp [hc]))
    exact this _ fun b hb => hrep b ((List.mem_mergeSort).mp hb)
theorem ok_sorted : CallOk K (rSorted K false) pSorted := fun M H ds x vs s r e Q q => by
  unfold pSorted at e
  split at e
  · rename_i xs
    obtain ⟨ps, e1, e2⟩ := Option.bind_eq_some_iff.mp e
    split at e2
    · rename_i ho
      cases e2
      cases r with
      | cons h t =>
        cases t
        obtain ⟨a, us, rfl, h3, h4⟩ := h.lst s
        exact sorted_core s e1 ho (.inl (SqL.of h3)) h4 q
    · cases e2
  · rename_i xs
    obtain ⟨ps, e1, e2⟩ := Option.bind_eq_some_iff.mp e
    split at e2
    · rename_i ho
      cases e2
      cases r with
      | cons h t =>
        cases t
        obtain ⟨a, us, rfl, h3, h4⟩ := h.tup s
        exact sorted_core s e1 ho (.inr h3) h4 q
    · cases e2
  · cases e
end
end Dn
namespace Dn
open PySem PySem.Spec PyProof.Rows L2
def FnG (CX : CXT) (P : Program) (w : World) (K : Fg) [WD K] (mg : Str → Option Value) (base : Heap) (k : Nat) (name qual : Str) (st : Stmt) (dvs : List V) (kds : List (Str × V)) (f : Addr) (ps : List Str) (den : Ev → RE X) : Prop :=
  ∃ fd, FunD K name qual (defArgs st) (defBody st) (defScope st) dvs kds f fd ∧ FnOk P w K mg base CX k f fd ps (spD K den)
def KFormM (K : Fg) (name qual : Str) (st : Stmt) (dvs : List V) (kds : List (Str × V)) (ps : List Str) (n : Nat) (ks : List Str) (gV : List V → List V → List V) : Prop := ∀ f fd, FunD K name qual (defArgs st) (defBody st) (defScope st) dvs kds f fd → ∃ g, KBn K fd ps n ks g gV
def tMakeG (K : Fg) [WD K] (c : Str) (n m : Nat) (den : Ev → RE X) (gV : List V → List V → List V) (E : L2.St → XK) (t tk : TA) : TE := fun σ H Q => t σ H fun vs H1 => tk σ H1 fun zs H2 => vs.length = n ∧ zs.length = m ∧ ∀ x dx, H2 x = none → H2 dx = none → dx ≠ x →
  spD K den (gV (V.ref x :: vs) zs) (upd (upd H2 dx (.own x)) x (.ins (He.ga K c) dx [])) (fun v H3 => v = .non ∧ Q (.ref x) H3) (E σ)
theorem tMakeG_eq {K : Fg} [WD K] {c : Str} {n m : Nat} {den : Ev → RE X} {gV gV' : List V → List V → List V} {E : L2.St → XK} {t tk : TA} (h : ∀ x vs zs, gV (x :: vs) zs = x :: gV' vs zs) : tMakeG K c n m den gV E t tk = tMakeF K c den E (tArr n m gV' t tk) := by
  funext σ H Q
  simp only [tMakeG, tMakeF, tArr, h]
section
variable {P : Program} {w : World} {K : Fg} [WD K] {mg : Str → Option Value} {base : Heap} {CX : CXT} {X : Cx} {k n : Nat} {ps ks : List Str} {E : L2.St → XK} {c : Str} {name qual : Str} {st : Stmt} {dvs : List V} {kds : List (Str × V)} {p pos : Pos} {e : Expr} {es : List Expr} {kws : List Keyword} {t tk : TA} {gV : List V → List V → List V} {den : Ev → RE Dn.X} {f : Addr} {fd : FuncData} {g : List Value → List Value → List Value}
theorem run_makeG {C : Addr} {sp : Sp} {σ : L2.St} {pins : List (Addr × Obj)} {H : Hp} {s : Shared} {Q : VK} {us ws : List Value} {vs zs : List V} (M : Mk X.K C f) (F : FnOk X.prog X.w X.K X.mg X.base CX k f fd ps sp) (hr : Room (k + 1) X.A) (hb : KBn X.K fd ps (n + 1) ks g gV)
    (hx : PassesAt CX X σ (E σ)) (I : Inv X pins σ H s) (r : Vals vs us) (rz : Vals zs ws) (l1 : vs.length = n) (l2 : zs.length = ks.length)
    (h : ∀ x dx, H x = none → H dx = none → dx ≠ x → sp (gV (.ref x :: vs) zs) (upd (upd H dx (.own x)) x (.ins C dx [])) (fun v H2 => v = .non ∧ Q (.ref x) H2) (E σ)) :
    wpAny (model X.prog X.w) X.A (call (.ref C) us (ks.zip ws)) (EP X pins σ Q) X.xe s := by
  have hq := h (s.heap.objs.size + 1) s.heap.objs.size (I.hok.fresh (Nat.le_succ _)) (I.hok.fresh (Nat.le_refl _)) (Nat.ne_of_lt (Nat.lt_succ_self _))
  have I2 := Inv.made (C := C) I
  have r1 : Vals (V.ref (s.heap.objs.size + 1) :: vs) (Value.ref (s.heap.objs.size + 1) :: us) := .cons rfl r
  have r2 := hb.rel r1 rz
  have n1 : (Value.ref (s.heap.objs.size + 1) :: us).length = n + 1 := by
    rw [List.length_cons, ← r.length, l1]
  refine wpAny_call (make_map (f := f) I.kIn M.makes M.init (beq_iff_eq.mp M.fn) (codeAny_mono (F.run _ X.stack _ _ ⟨Value.ref (s.heap.objs.size + 1) :: us, ks.zip ws⟩ (g (Value.ref (s.heap.objs.size + 1) :: us) ws) _ _ (E σ) (hr.make C us (ks.zip ws))
    (I2.env0.make C us (ks.zip ws)) (hb.to _ (Value.ref (s.heap.objs.size + 1) :: us) ws I2.kIn n1 (rz.length.symm.trans l2)) r2 hq) fun r s' hq' => ?_))
  cases r with
  | error e => exact hx pins _ _ e s' I2 hq'
  | ok fl =>
    cases fl with
    | ret u =>
      obtain ⟨v, H', I3, rv, ev, q3⟩ := I2.after hq'
      subst ev
      exact ⟨rv, ⟨V.ref (s.heap.objs.size + 1), H', I3, rfl, q3⟩⟩
    | next => exact False.elim hq'
    | brk => exact False.elim hq'
    | cont => exact False.elim hq'
/-- a class whose __init__ has defaults -/
def MkG (CX : CXT) (P : Program) (w : World) (K : Fg) [WD K] (mg : Str → Option Value) (base : Heap) (k : Nat) (c qual : Str) (st : Stmt) (dvs : List V) (kds : List (Str × V)) (ps : List Str) (den : Ev → RE Dn.X) : Prop :=
  ∃ f, Mk K (He.ga K c) f ∧ mg c = some (.ref (He.ga K c)) ∧ FnG CX P w K mg base k "__init__" qual st dvs kds f ps den
theorem mkG_of {f : Addr} (h : Mk K (He.ga K c) f) (g : mg c = some (.ref (He.ga K c))) (F : FnG CX P w K mg base k "__init__" qual st dvs kds f ps den) : MkG CX P w K mg base k c qual st dvs kds ps den := ⟨f, h, g, F⟩
theorem mk_fnG {ps N : List Str} {n nn : Nat} {f : Addr} {ds : Ev → RS} (F : ∃ fd, FunD K name qual (defArgs st) (defBody st) (defScope st) dvs kds f fd) (S : FnScope N ps (defScope st)) (hn : ps.length = n) (hN : N.length = nn)
    (h : ∀ (cdv : Value) (A : Around) (outer : List Env) (s : Shared) (H : Hp) (E : XK), Room k (A.deeper (envOfC qual (defScope st) s.heap.objs.size f cdv)) →
      ∃ t, PSs (cxOf CX0 P w K mg base N qual (defScope st) f cdv A outer s H E).nox (defBody st) t ∧ DS K (fun _ => E) t ds) : FnG CX0 P w K mg base (k + 1) name qual st dvs kds f ps (fnM nn n ds) := by
  subst hn hN
  obtain ⟨fd, F⟩ := F
  refine ⟨fd, F, F.ok S (fun vs H Q E h => spD_len h) fun cdv A outer s H vs Q E hr hs => ?_⟩
  obtain ⟨t, h1, h2⟩ := h cdv A outer s H E hr
  exact ⟨t, PSs.nox h1, fn_body h2 hs⟩
end
section
variable {K : Fg} [WD K] {W : WS} {c : Str} {m : Ev → RE X} {n nk : Nat} {src : List (Src D)} {srv : List (Src V)} {gV gV' : List V → List V → List V} {t tk : TA} {da dk : Ev → RE (List X)}
theorem de_makeG (hm : NoSl m) (h1 : ∀ x vs zs, gV (x :: vs) zs = x :: gV' vs zs) (hs : Paired (SrcR K) src srv) (hg : ∀ vs zs, vs.length = n → zs.length = nk → arr id srv (vs ++ zs) = some (gV' vs zs)) (ha : DA K W t da) (hk : DA K W tk dk) : DE K W (tMakeG K c n nk m gV W t tk) (dMakeF c m (dArr n nk src da dk)) := by
  rw [tMakeG_eq h1]
  exact de_makeF (da_arr hs hg ha hk)
end
end Dn
namespace Dn
open PySem PySem.Spec PyProof.Rows L2
theorem fn_at {CX : CXT} {P : Program} {w : World} {K : PySem.W.Frag} {mg : Str → Option Value} {base : Heap} {k : Nat} {f : Addr} {name qual : Str} {params : Arguments} {body : List Stmt} {scope : Scope} {dV kV doc pm cdv ct oc : Value} {an od : Option Addr}
    {osl : Array (Option Value)} {N ps : List Str} {A : Around} {outer : List Env} {s : Shared} {H : Hp} {args : Args} {us : List Value} {vs : List V} {Q : VK} {E : XK} (lk : K.lookup f = some ⟨oc, od, .func (PySem.W.fnOf name qual params body scope dV kV doc pm an cdv ct), osl⟩) (hcd : PySem.W.codeIn K cdv qual = true) (S : FnScope N ps scope)
    (hr : Room (k + 1) A) (e0 : Env0 P w K mg base A outer s H) (hb : BindsTo s (PySem.W.fnOf name qual params body scope dV kV doc pm an cdv ct) args (ps.zip us)) (r : Vals vs us) (hl : vs.length = ps.length)
    (hbody : Room k (A.deeper (envOfC qual scope s.heap.objs.size f cdv)) → ∃ t, PSs (cxOf CX P w K mg base N qual scope f cdv A outer s H E) body t ∧ t { nx := fun _ H' => Q .non H', rt := Q } (start N vs) H) :
    codeAny (model P w) A (.call (.ref f) args) (CR CX outer P w H s Q E) s := by
  have KX : K.In s.heap := e0.mod.kin.keeps fun b o e => (e0.bs b o e).1
  have lim : s.heap.NoLimit := e0.mod.nolimit.keeps fun b o e => (e0.bs b o e).1
  have hkind : ∀ y ∈ ps.zip us, scope.names.lookup y.1 = some .local ∨ (scope.names.lookup y.1 = some .cell ∧ ((cellsFrom (s.heap.objs.size + 1) scope.names []).lookup y.1).isSome = true) := fun ⟨n, v⟩ hy => by
    rcases S.par n (List.of_mem_zip hy).1 with q | q
    · exact .inl q
    · exact .inr ⟨q, PySem.W.cellsFrom_some _ _ _ (.inl q)⟩
  refine codeAny_call_function hr.depth (KX _ _ lk) rfl S.co S.gen rfl (PySem.W.codeRec_of KX hcd) (hb _ _ _ _ ?_)
  refine wpAny_newFunctionEnv_cells S.kind hkind fun env he s1 x => ?_
  subst he
  refine ⟨lim.keeps x.toInCall.keep, codeAny_func ?_⟩
  obtain ⟨t, ht, hq⟩ := hbody (hr.deeper _)
  have I : Inv (cxOf CX P w K mg base N qual scope f cdv A outer s H E) [] (start N vs) H s1 := inv_start S hr.hd e0 hl r x
  refine wpAny_mono (ht.run [] s1 (start N vs) H _ I hq) (fun fl s' hs => ?_) fun e s' hs => hs
  have fin : ∀ {σ' : L2.St} {H' : Hp} {v : V} {u : Value}, Inv (cxOf CX P w K mg base N qual scope f cdv A outer s H E) [] σ' H' s' → RelV v u → Q v H' → CE outer P w H s Q u s' :=
    fun {σ' H' v u} J rv q => ⟨v, H', J.os, J.bare, J.base, J.hok, rv, q⟩
  cases fl with
  | ret u =>
    obtain ⟨v, σ', H', J, rv, q⟩ := hs
    exact fin J rv q
  | next =>
    obtain ⟨σ', H', J, q⟩ := hs
    exact fin (v := V.non) (u := Value.none) J rfl q
  | brk =>
    obtain ⟨_, _, _, q⟩ := hs
    exact False.elim q
  | cont =>
    obtain ⟨_, _, _, q⟩ := hs
    exact False.elim q
abbrev itT (t : Addr) (i : Nat) : Obj := { cls := .type "tuple_iterator", data := .fields #[.ref t, .int i 0] }
theorem itT_at {h : Heap} {it t : Addr} {i : Nat} (e : h.get? it = some (itT t i)) : h.IsTupleIter it t i := ⟨_, e, rfl, rfl⟩
def itH (it t : Addr) (i : Nat) : HO := .ext fun h => h.IsTupleIter it t i
theorem itH_ok {P : Program} {w : World} {H : Hp} {h : Heap} {it t : Addr} {i : Nat} (e : h.IsTupleIter it t i) : ObjOk P w H h it (itH it t i) := ⟨e, let ⟨o, q, _⟩ := e; ⟨o, q⟩, fun _ _ x k => let ⟨o, q1, q2⟩ := x; ⟨o, k _ q1, q2⟩⟩
theorem itH_at {X : Cx} {pins : List (Addr × Obj)} {σ : L2.St} {H : Hp} {s : Shared} {it t : Addr} {i : Nat} (I : Inv X pins σ H s) (h : H it = some (itH it t i)) : s.heap.IsTupleIter it t i := (I.hok it _ h).1
/-- iter(t), t a tuple; n: the iterator is not below -/
def rIterT (K : Fg) (n : Nat) : List V → Hp → VK → Prop := fun xs H Q => ∃ (t : Addr) (zs : List V), xs = [.ref t] ∧ SqT K H t zs ∧ ∀ it, H it = none → n ≤ it → Q (.ref it) (upd H it (itH it t 0))
theorem cr_iterT {X : Cx} : CallR X (.builtin "iter") (rIterT X.K X.s_0.heap.objs.size) := by
  intro pins s σ H xs us Q I r h
  obtain ⟨t, zs, rfl, hq, q⟩ := h
  obtain ⟨u, rfl, ru⟩ := vals1 r
  cases ru
  obtain ⟨its, rv, pl, hz⟩ := I.tuple hq
  refine Calls.call_function_entry (by decide +kernel) (by decide +kernel) PySem.W.kdk_entry_iter (PySem.W.kdk_args_iter _) ?_
  unfold Builtin.«iter»
  refine wpAny_bind (m := someArgs "iter" 1 2 _) (wpAny_of_eq (a := [Value.ref t]) (by first | rfl | kernel_rfl!) ?_)
  show wpAny _ _ (pyIter (.ref t) >>= _) _ _ _
  refine wpAny_bind (wpAny_pyIter_tuple (show s.heap.IsTuple t its.toArray from pl) ?_)
  exact wpAny_pure ⟨_, rfl, .ref s.heap.objs.size, _, I.laid (t' := s.toks) (fun b u e => Heap.get?_push_of_some _ e) (Nat.le_refl _) (itH_ok (itT_at (Heap.get?_push_size _ rfl))), rfl, q _ (I.hok.fresh (Nat.le_refl _)) I.sz⟩
/-- the dunder m of the class c is a def whose body gives t, at each state -/
def OwnF (P : Program) (w : World) (K : Fg) (mg : Str → Option Value) (base : Heap) (k : Nat) (c m : Str) (te : Nat → TE) : Prop :=
  Cls K (He.ga K c) ∧ ∃ (f : Addr) (qual : Str) (st : Stmt) (fd : FuncData), PySem.W.findIn K (.ref (He.ga K c)) m = some (some (.ref f)) ∧ PySem.W.isFn K (.ref f) = true ∧ FunD K m qual (defArgs st) (defBody st) (defScope st) [] [] f fd ∧ FnScope ["self"] ["self"] (defScope st) ∧
  (∀ (kV doc pm : Value) (an : Option Addr) (cdv ct : Value) (us : List Value), us.length = ["self"].length → bindArgs (PySem.W.fnOf m qual (defArgs st) (defBody st) (defScope st) .none kV doc pm an cdv ct) ⟨us, []⟩ = pure ((["self"] : List Str).zip us)) ∧
  ∀ (cdv : Value) (A : Around) (outer : List Env) (s : Shared) (H : Hp) (E : XK), Room k (A.deeper (envOfC qual (defScope st) s.heap.objs.size f cdv)) → PSs (cxOf CX0 P w K mg base ["self"] qual (defScope st) f cdv A outer s H E) (defBody st) (tRet (te s.heap.objs.size))
def tIt (K : Fg) (F : Str) (n : Nat) : TE := tCB (rIterT K n) (tCons (tFld K (tVar 0) F) tNil)
def tLn (K : Fg) (F : Str) (n : Nat) : TE := tCB (rLenU K) (tCons (tFld K (tVar 0) F) tNil)
abbrev OwnI (P : Program) (w : World) (K : Fg) (mg : Str → Option Value) (base : Heap) (k : Nat) (c F : Str) : Prop := OwnF P w K mg base k c "__iter__" (tIt K F) ∧ NoAttr K (He.ga K c) F
abbrev OwnL (P : Program) (w : World) (K : Fg) (mg : Str → Option Value) (base : Heap) (k : Nat) (c F : Str) : Prop := OwnF P w K mg base k c "__len__" (tLn K F) ∧ NoAttr K (He.ga K c) F
section
variable {X : Cx} {pins : List (Addr × Obj)} {σ : L2.St} {H : Hp} {s : Shared} {a t dx : Addr} {A1 : Around} {E : Value → Shared → Prop} {k : Nat} {c F : Str} {fs : List (Str × V)} {xs : List V}
/-- the dunder's code -/
theorem own_code {G : Prop} {m : Str} {te : Nat → TE} {Qv : VK} (o : OwnF X.prog X.w X.K X.mg X.base k c m te) (sb : Sub X (k + 1) A1) (I : Inv X pins σ H s) (ha : H a = some (.ins (He.ga X.K c) dx fs))
    (ht : te s.heap.objs.size [some (V.ref a)] H Qv)
    (h : ∀ (f : Addr) (ox od : Obj), PySem.W.InstAt s.heap a ox (He.ga X.K c) (some od) → PySem.W.findIn X.K (.ref (He.ga X.K c)) m = some (some (.ref f)) → PySem.W.isFn X.K (.ref f) = true → (∀ (A : Around) (E2 : Value → Shared → Prop) (R2 : Value → Shared → Prop), Sub X (k + 1) A → (∀ u s' v H', Inv X pins σ H' s' → RelV v u → Qv v H' → R2 u s') → wpAny (model X.prog X.w) A (call (.ref f) [.ref a]) R2 E2 s) → G) : G := by
  obtain ⟨cl, f, qual, st, fd, h1, h2, FD, S, bnd, body⟩ := o
  obtain ⟨mA, J, _⟩ := ins_get I.hok ha
  obtain ⟨od, J, _⟩ := J.look
  refine h f _ od J h1 h2 fun A E2 R2 sb hR => ?_
  obtain ⟨oc, od', dV, kV, doc, pm, an, cdv, ct, osl, rfl, lk, hcd, hD, hK⟩ := FD.ex
  have hdV : dV = .none := by
    rcases hD with ⟨_, e⟩ | ⟨e, _⟩
    · exact e
    · exact absurd rfl e
  subst hdV
  have e0 : Env0 X.prog X.w X.K X.mg X.base A X.stack s H := by
    have e := I.env0
    exact ⟨by rw [sb.fr]; exact e.frames, e.mod, e.bs, e.bsz, e.funs, e.frf, e.hok, e.bare⟩
  have r : Vals [V.ref a] [Value.ref a] := .cons rfl .nil
  refine wpAny_call (codeAny_mono (fn_at (CX := CX0) (ps := ["self"]) (N := ["self"]) (E := L2.E0) (Q := Qv) lk hcd S sb.room e0 (.of_eq (bnd kV doc pm an cdv ct [.ref a] rfl)) r rfl fun hr => ⟨_, body cdv A X.stack s H L2.E0 hr, ht⟩) fun r s' hq => ?_)
  cases r with
  | error e => exact False.elim hq
  | ok fl =>
    cases fl with
    | next => exact False.elim hq
    | brk => exact False.elim hq
    | cont => exact False.elim hq
    | ret u =>
      obtain ⟨v, H', I', rv, q⟩ := I.after hq
      exact hR u s' v H' I' rv q
theorem own_iter {Q : Value → Shared → Prop} (o : OwnI X.prog X.w X.K X.mg X.base k c F) (sb : Sub X (k + 1) A1) (I : Inv X pins σ H s) (ha : H a = some (.ins (He.ga X.K c) dx fs)) (hl : fs.lookup F = some (.ref t)) (ht : SqT X.K H t xs)
    (h : ∀ it s', s.heap.objs.size ≤ it → H it = none → Inv X pins σ (upd H it (itH it t 0)) s' → Q (.ref it) s') : wpAny (model X.prog X.w) A1 (pyIter (.ref a)) Q E s := by
  refine own_code (Qv := fun v H' => ∃ it, v = .ref it ∧ s.heap.objs.size ≤ it ∧ H it = none ∧ H' = upd H it (itH it t 0)) o.1 sb I ha ⟨.ref a, rfl, a, _, dx, fs, .ref t, rfl, ha, o.1.1, o.2, hl, t, xs, rfl, ht, fun it n g => ⟨it, rfl, g, n, rfl⟩⟩ fun f ox od J h1 h2 run => ?_
  obtain ⟨m0, hF⟩ := I.fr
  refine PySem.W.owit_iter hF I.ok.mod.kin J h1 h2 (run _ _ _ sb fun u s' v H' I' rv q => ?_)
  obtain ⟨it, rfl, g, n, rfl⟩ := q
  obtain rfl : u = Value.ref it := rv
  have e := itH_at I' upd_same
  unfold PySem.W.OwitIt
  exact wpAny_specialOf (show s'.TypeIs (.ref it) "tuple_iterator" from e.typeIs) PySem.F.slot_tuple_iterator_next.lookup (h it s' g n I')
theorem len_tail {A : Around} {n : Nat} {tk : Tok} {Q : Value → Shared → Prop} (hz : n ≤ sizeLine) (h : ∀ t s', s'.heap = s.heap → s'.gens = s.gens → s'.drawn = s.drawn → s'.os = s.os → Q (.int n t) s') :
    wpAny (model X.prog X.w) A (do
      let m ← holding [Value.int n tk] (asIndex (.int n tk))
      letGo [Value.int n tk]
      if m < 0 then rule "len.negative"; raiseError "ValueError" "__len__() should return >= 0"
      if m ≥ 2 ^ 63 then
        if let .ref _ := Value.int n tk then unsupported "len:the-overflow's-words-name-the-type-of-what-__len__-gave"
        rule "len.overflow"; raiseError "OverflowError" "cannot fit 'int' into an index-sized integer"
      retInt m) (fun f s' => ∃ v, f = .done (.ret v) ∧ Q v s') E s := by
  have hs : sizeLine = 16777216 := sizeLine_eq
  refine wpAny_bind (wpAny_holding (wpAny_pure ?_))
  refine wpAny_bind (wpAny_letGo ?_)
  show wpAny _ _ (if ((n : Nat) : Int) < 0 then _ else _) _ _ _
  rw [if_neg (by omega)]
  show wpAny _ _ (if ((n : Nat) : Int) ≥ 2 ^ 63 then _ else _) _ _ _
  rw [if_neg (by omega)]
  exact wpAny_bind (wpAny_mkInt (wpAny_pure ⟨_, rfl, h _ _ rfl rfl rfl rfl⟩))
theorem own_len {Q : Value → Shared → Prop} (o : OwnL X.prog X.w X.K X.mg X.base k c F) (sb : Sub X (k + 2) A1) (I : Inv X pins σ H s) (ha : H a = some (.ins (He.ga X.K c) dx fs)) (hl : fs.lookup F = some (.ref t)) (ht : SqT X.K H t xs) (hz : xs.length ≤ sizeLine)
    (h : ∀ tk s', Inv X pins σ H s' → Q (.int xs.length tk) s') : wpAny (model X.prog X.w) A1 (call (.builtin "len") [.ref a]) Q E s := by
  refine own_code (A1 := A1.in1) (Qv := fun v H' => v = .int xs.length ∧ H' = H) o.1 sb.in1 I ha ⟨.ref a, rfl, a, _, dx, fs, .ref t, rfl, ha, o.1.1, o.2, hl, .inl ⟨t, xs, rfl, .inr ht, rfl, rfl⟩⟩ fun f ox od J h1 h2 run => ?_
  refine Calls.call_function_entry (by decide +kernel) (by decide +kernel) entry_len (args_len1 _) ?_
  unfold Builtin.«len»
  refine wpAny_bind (m := oneArg "len" _) (wpAny_of_eq (a := Value.ref a) (by first | rfl | kernel_rfl!) ?_)
  refine wpAny_bind (PySem.W.special_fn I.kIn J h1 (beq_iff_eq.mp h2) (run _ _ _ sb.in1 fun u s' v H' I' rv q => ?_))
  obtain ⟨rfl, rfl⟩ := q
  obtain ⟨tk, rfl⟩ := rv
  exact len_tail (X := X) hz fun tk s'' e1 e2 e3 e4 => h tk s'' (by
    obtain ⟨hp, g, d, tt, os⟩ := s''
    cases e1; cases e2; cases e3; cases e4
    exact I'.tok _)
/-- list(o) -/
def rListO (K : Fg) (cs : List Str) (F : Str) : List V → Hp → VK → Prop := fun vs H Q => ∃ c a dx fs t xs, c ∈ cs ∧ vs = [.ref a] ∧ H a = some (.ins (He.ga K c) dx fs) ∧ fs.lookup F = some (.ref t) ∧ SqT K H t xs ∧ ∀ q, H q = none → Q (.ref q) (upd H q (.lst xs))
theorem own_fill {A : Around} {it S : Addr} {H0 : Hp} {Rs : Result → Shared → Prop} (hh : A.handled = none) (hA : A.in1.handled = none) (ht : ∀ (H : Hp), (∀ b u, H0 b = some u → H b = some u) → SqT X.K H t xs) (hn : H0 it = none) (hS : H0 S = none) (hne : S ≠ it) (hz : xs.length ≤ sizeLine) (g : ∀ s, Inv X pins σ (upd (upd H0 it (itH it t xs.length)) S (.lst xs)) s → FpOk X pins (upd H0 S (.lst xs)) it)
    (done : ∀ s, Inv X pins σ (upd H0 S (.lst xs)) s → Rs (.ok (.ret .none)) s) :
    ∀ (m i : Nat) (s : Shared), i + m = xs.length → Inv X pins σ (upd (upd H0 it (itH it t i)) S (.lst (xs.take i))) s → codeAny (model X.prog X.w) A (.builtin "list.extend.loop" ⟨[.ref S, .ref it, .none], []⟩) Rs s := by
  intro m
  induction m with
  | zero =>
    intro i s hi I
    have hi : i = xs.length := by omega
    subst hi
    rw [List.take_length] at I
    refine codeAny_builtin PySem.F.entry_extend_loop ?_
    rw [Around.under_plainId PySem.F.plain_extend_loop _]
    show wpAny _ A.in1 (pyNext (.ref it) >>= _) _ _ s
    have e1 : upd (upd H0 it (itH it t xs.length)) S (.lst xs) it = some (itH it t xs.length) := by rw [upd_ne (Ne.symm hne), upd_same]
    have e := itH_at I e1
    have hT : SqT X.K (upd (upd H0 it (itH it t xs.length)) S (.lst xs)) t xs := ht _ fun b u q => by
      rw [upd_ne (ne_of_none q hS), upd_ne (ne_of_none q hn)]
      exact q
    obtain ⟨its, rv, pl, _⟩ := I.tuple hT
    have hl := rv.length
    have fp := g s I
    have ed : ItX.dropH (upd (upd H0 it (itH it t xs.length)) S (.lst xs)) it = upd H0 S (.lst xs) := by
      funext b
      by_cases hb : b = it
      · subst hb
        rw [ItX.dropH_same, upd_ne (Ne.symm hne), hn]
      · rw [ItX.dropH_ne hb]
        by_cases hb2 : b = S
        · subst hb2
          rw [upd_same, upd_same]
        · rw [upd_ne hb2, upd_ne hb2, upd_ne hb]
    have I2 := ItX.inv_drop I e1
    rw [ed] at I2
    obtain ⟨f0, f1, f2, f3, f4, f5⟩ := fp
    refine wpAny_bind (wpAny_pyNext_tuple_end hA e (show s.heap.IsTuple t its.toArray from pl) (by rw [List.getElem?_toArray, List.getElem?_eq_none]; omega) fun h' eb => ?_)
    exact wpAny_pure (done _ (I2.turned (t' := s.toks) (fun b o hb e => eb b o hb e) f0 f1 f3 f4 f5))
  | succ m ih =>
    intro i s hi I
    refine codeAny_builtin PySem.F.entry_extend_loop ?_
    rw [Around.under_plainId PySem.F.plain_extend_loop _]
    show wpAny _ A.in1 (pyNext (.ref it) >>= _) _ _ s
    have e1 : upd (upd H0 it (itH it t i)) S (.lst (xs.take i)) it = some (itH it t i) := by rw [upd_ne (Ne.symm hne), upd_same]
    have e := itH_at I e1
    have hT : SqT X.K (upd (upd H0 it (itH it t i)) S (.lst (xs.take i))) t xs := ht _ fun b u q => by
      rw [upd_ne (ne_of_none q hS), upd_ne (ne_of_none q hn)]
      exact q
    obtain ⟨its, rv, pl, _⟩ := I.tuple hT
    have hl := rv.length
    have hx : xs[i]? = some xs[i] := List.getElem?_eq_getElem (by omega)
    obtain ⟨u, hu, ru⟩ := rv.get hx
    refine wpAny_bind (wpAny_pyNext_tuple_item e (show s.heap.IsTuple t its.toArray from pl) (x := u) (by rw [List.getElem?_toArray]; exact hu) fun h' st' sb => ?_)
    have ho : ∃ o, h'.get? it = some o := let ⟨o, q, _⟩ := st'; ⟨o, q⟩
    have I2 := I.write (x := it) (e := it) (t' := s.toks) (o := itH it t (i + 1)) (h' := h') (by rw [e1]; exact True.intro) (.inl rfl) (fun b o nb z => (sb.2 b nb).trans z) ho (itH_ok st')
    have e3 : upd (upd (upd H0 it (itH it t i)) S (.lst (xs.take i))) it (itH it t (i + 1)) = upd (upd H0 it (itH it t (i + 1))) S (.lst (xs.take i)) := by
      funext b
      by_cases hb : b = it
      · subst hb
        rw [upd_same, upd_ne (Ne.symm hne), upd_same]
      · rw [upd_ne hb]
        by_cases hb2 : b = S
        · subst hb2
          rw [upd_same, upd_same]
        · rw [upd_ne hb2, upd_ne hb2, upd_ne hb, upd_ne hb]
    rw [e3] at I2
    obtain ⟨z, its2, k2, r2, hl2, e4⟩ := I2.lstM (l := S) (xs := xs.take i) (by rw [upd_same])
    have hzi : its2.length = i := by rw [← hl2, List.length_take]; omega
    have lim : sizeLine = 16777216 := sizeLine_eq
    show wpAny _ A.in1 (updateSeq S (·.push u) >>= _) _ _ _
    refine wpAny_bind (wpAny_updateSeq e4 rfl (wpAny_pure ⟨plainId_quiet PySem.F.plain_extend_loop _, ?_⟩) (by rw [List.size_toArray]; omega) (by show (its2.toArray.push u).size ≤ sizeLine + 1; rw [Array.size_push, List.size_toArray]; omega))
    have tk : xs.take (i + 1) = xs.take i ++ [xs[i]] := by
      rw [List.take_add_one, hx]
      rfl
    have I3 := I2.lset (l := S) (its' := its2 ++ [u]) (ys := xs.take (i + 1)) (f := (·.push u)) (t' := s.toks) (by rw [upd_same]) e4 (by simp) (by rw [tk]; exact r2.append (.cons ru .nil)) (by rw [List.length_take]; omega)
    rw [upd_upd] at I3
    exact ih (i + 1) _ (by omega) I3
end
end Dn
namespace Dn
open PySem PySem.Spec PyProof.Rows L2
section
variable {X : Cx} {pins : List (Addr × Obj)} {σ : L2.St} {H : Hp} {s : Shared} {a t dx : Addr} {A1 : Around} {E : Value → Shared → Prop} {k : Nat} {c F : Str} {fs : List (Str × V)} {xs : List V}
theorem own_lhint {Q : Bool → Shared → Prop} (o : OwnL X.prog X.w X.K X.mg X.base k c F) (sb : Sub X (k + 2) A1) (I : Inv X pins σ H s) (ha : H a = some (.ins (He.ga X.K c) dx fs)) (hl : fs.lookup F = some (.ref t)) (ht : SqT X.K H t xs) (hz : xs.length ≤ sizeLine)
    (h : ∀ b s', Inv X pins σ H s' → Q b s') : wpAny (model X.prog X.w) A1 (Builtin.List.listLengthHint (.ref a)) Q E s := by
  obtain ⟨cl, f, qual, st, fd, h1, h2, _⟩ := o.1
  obtain ⟨mA, J, _⟩ := ins_get I.hok ha
  obtain ⟨od, J, _⟩ := J.look
  unfold Builtin.List.listLengthHint
  refine wpAny_bind (wpAny_bind (J.type.here ((PySem.W.looks_findIn I.kIn h1).here ?_)))
  refine PySem.W.KFB.if_not rfl ?_
  refine wpAny_ite_split (fun _ => ?_) (fun z => absurd rfl z)
  refine wpAny_bind (wpAny_rule ?_)
  refine wpAny_bind (wpAny_attempt (own_len o sb I ha hl ht hz fun tk s' I' => ?_))
  show wpAny _ A1 (asInt? (.int xs.length tk) >>= _) _ _ s'
  refine wpAny_bind ?_
  show wpAny _ A1 (pure (some (xs.length : Int))) _ _ s'
  refine wpAny_pure ?_
  show wpAny _ A1 (if Builtin.List.listTooLong ((xs.length : Int).toNat) = true then _ else _) _ _ s'
  rw [if_neg (by rw [notLongL (by omega)]; exact Bool.false_ne_true)]
  exact wpAny_pure (h _ _ I')
theorem cr_listO {K : Fg} {P : Program} {w : World} {mg : Str → Option Value} {base : Heap} {cs : List Str} (cx : CxIs X K P w mg base) (hc : X.calm = true) (oi : ∀ c ∈ cs, OwnI P w K mg base k c F) (ol : ∀ c ∈ cs, OwnL P w K mg base k c F) (hr : Room (k + 5) X.A) : CallR X (.type "list") (rListO K cs F) := by
  obtain ⟨rfl, rfl, rfl, rfl, rfl⟩ := cx
  intro pins s σ H vs us Q I rv h
  obtain ⟨c, a, dx, fs, t, xs, hcs, rfl, ha, hl, ht, hq⟩ := h
  obtain ⟨u, rfl, ru⟩ := rv.one
  cases ru
  have sb : Sub X (k + 3) X.A.in1.in1 := (Sub.in1 (Sub.in1 (⟨hr, rfl⟩ : Sub X (k + 5) X.A)))
  obtain ⟨_, _, _, hzt⟩ := I.tuple ht
  have hz : xs.length ≤ sizeLine := hzt
  refine callType_codes (Q₁ := fun obj s₁ => obj = .ref s.heap.objs.size ∧ s₁ = { s with heap := s.heap.push { cls := .type "list", data := .seq #[] } }) PySem.F.called_list (PySem.F.typeCall_list_1 _) PySem.F.entry_list_init
    (code_list_new _ ⟨rfl, rfl⟩) fun obj s₁ h₁ => ?_
  obtain ⟨rfl, rfl⟩ := h₁
  have hS : (s.heap.push { cls := .type "list", data := .seq #[] }).get? s.heap.objs.size = some { cls := .type "list", data := .seq #[] } := Heap.get?_push_size _ rfl
  refine ⟨⟨_, hS, rfl⟩, PySem.F.args_list_init_2 _ _, ?_⟩
  have fr : H s.heap.objs.size = none := I.hok.fresh (Nat.le_refl _)
  have I1 : Inv X pins σ (upd H s.heap.objs.size (.lst [])) { s with heap := s.heap.push { cls := .type "list", data := .seq #[] } } := I.lnew (its := []) (t' := s.toks) .nil (Nat.zero_le _)
  show wpAny _ _ (do let old ← Builtin.List.listItems (.ref s.heap.objs.size); Builtin.List.listUpdate (.ref s.heap.objs.size) (fun _ => #[]); letGo old.toList.reverse; Builtin.List.listExtendWith (.ref s.heap.objs.size) (.ref a) .none) _ _ _
  refine wpAny_bind ?_
  unfold Builtin.List.listItems
  refine wpAny_bind (wpAny_seqItems hS rfl (wpAny_pure ?_))
  show wpAny _ _ (updateSeq s.heap.objs.size (fun _ => #[]) >>= fun _ => letGo (#[] : Array Value).toList.reverse >>= fun _ => Builtin.List.listExtendWith (.ref s.heap.objs.size) (.ref a) .none) _ _ _
  refine wpAny_bind (wpAny_updateSeq hS rfl ?_)
  have I2 := I1.lset (f := fun _ => #[]) (its := []) (its' := []) (ys := []) (t' := s.toks) upd_same hS rfl .nil (Nat.zero_le _)
  rw [upd_upd] at I2
  refine wpAny_bind (wpAny_letGo ?_)
  have same : Same H (upd H s.heap.objs.size (.lst [])) := fun b o e => by rw [upd_ne (ne_of_none e fr)]; exact e
  have ha2 : upd H s.heap.objs.size (.lst []) a = some (.ins (He.ga X.K c) dx fs) := same _ _ ha
  have ht2 : SqT X.K (upd H s.heap.objs.size (.lst [])) t xs := sqT_mono same ht
  have hne : s.heap.objs.size ≠ a := Ne.symm (ne_of_none ha fr)
  generalize hs2 : ({ s with heap := (s.heap.push { cls := .type "list", data := .seq #[] }).update s.heap.objs.size (Obj.mapSeq fun _ => #[]), toks := s.toks } : Shared) = s2 at I2
  have hsz : s.heap.objs.size < s2.heap.objs.size := by
    obtain ⟨_, its, n, _, _, e⟩ := I2.lstM (l := s.heap.objs.size) (xs := []) upd_same
    exact Heap.lt_size e
  obtain ⟨mA, J, _⟩ := ins_get I2.hok ha2
  obtain ⟨od, J, _⟩ := J.look
  have h1 : Builtin.List.listSameRef (.ref s.heap.objs.size) (.ref a) = false := by simp [Builtin.List.listSameRef, hne]
  have h2 : (Value.ref (He.ga X.K c) == Value.type "list") = false := rfl
  have h3 : (Value.ref (He.ga X.K c) == Value.type "tuple") = false := rfl
  show wpAny _ _ (Builtin.List.listExtendWith (.ref s.heap.objs.size) (.ref a) .none) _ _ _
  first | rw [hs2] | skip
  unfold Builtin.List.listExtendWith
  refine wpAny_bind (J.type.here ?_)
  simp only [h1, h2, h3, Bool.or_false, Bool.false_eq_true, if_false]
  refine wpAny_bind (own_iter (oi c hcs) (sb.mono (by omega)) I2 ha2 hl ht2 fun it s3 g n I3 => ?_)
  have nS : s.heap.objs.size ≠ it := by omega
  have same3 : Same (upd H s.heap.objs.size (.lst [])) (upd (upd H s.heap.objs.size (.lst [])) it (itH it t 0)) := fun b o e => by rw [upd_ne (ne_of_none e n)]; exact e
  refine wpAny_bind (wpAny_holding (own_lhint (ol c hcs) (sb.mono (by omega)) I3 (same3 _ _ ha2) hl (sqT_mono same3 ht2) hz fun b s4 I4 => ?_))
  have hn : H it = none := by
    rw [upd_ne (Ne.symm nS)] at n
    exact n
  have comm : upd (upd H s.heap.objs.size (.lst [])) it (itH it t 0) = upd (upd H it (itH it t 0)) s.heap.objs.size (.lst []) := by
    funext b
    by_cases hb : b = it
    · subst hb
      rw [upd_same, upd_ne (Ne.symm nS), upd_same]
    · rw [upd_ne hb]
      by_cases hb2 : b = s.heap.objs.size
      · subst hb2
        rw [upd_same, upd_same]
      · rw [upd_ne hb2, upd_ne hb2, upd_ne hb]
  rw [comm] at I4
  have loop : ∀ s5, Inv X pins σ (upd (upd H it (itH it t 0)) s.heap.objs.size (.lst [])) s5 → codeAny (model X.prog X.w) X.A.in1 (.builtin "list.extend.loop" ⟨[.ref s.heap.objs.size, .ref it, .none], []⟩) (wants (fun r s₂ => r = .none ∧ EP X pins σ Q (.ref s.heap.objs.size) s₂) X.xe) s5 := fun s5 I5 => by
    refine own_fill (A := X.A.in1) (xs := xs) (t := t) (H0 := H) (I.ok.hd hc) (I.ok.hd hc) (fun H' up => sqT_mono (fun b o e => up b o e) ht) hn fr nS hz (fun s6 I6 => ?_) (fun s6 I6 => ⟨rfl, .ref s.heap.objs.size, _, I6, rfl, hq _ fr⟩) xs.length 0 s5 (by omega) (by rw [List.take_zero]; exact I5)
    exact I2.fpOk g (by rw [upd_ne (Ne.symm nS)]; exact hn)
  refine wpAny_ite_split (fun _ => ?_) (fun _ => wpAny_pure ⟨plainId_quiet PySem.F.plain_extend_loop _, loop _ I4⟩)
  refine wpAny_bind (wpAny_rule ?_)
  refine wpAny_bind ?_
  show wpAny _ _ (updateSeq s.heap.objs.size (·.push .none) >>= fun _ => updateSeq s.heap.objs.size (·.pop)) _ _ _
  obtain ⟨z, its, k3, r3, hl3, e3⟩ := I4.lstM (l := s.heap.objs.size) (xs := []) upd_same
  cases r3
  refine wpAny_bind (wpAny_updateSeq e3 rfl ?_)
  have I5 := I4.lset (l := s.heap.objs.size) (f := (·.push Value.none)) (its' := [Value.none]) (ys := [.non]) (t' := s4.toks) upd_same e3 (by simp) (.cons rfl .nil) (by rw [List.length_singleton, sizeLine_eq]; decide)
  obtain ⟨z4, its4, k4, r4, hl4, e4⟩ := I5.lstM (l := s.heap.objs.size) (xs := [.non]) upd_same
  obtain ⟨u4, rfl, ru4⟩ := r4.one
  refine wpAny_updateSeq e4 rfl ?_ (by show 1 ≤ sizeLine; rw [sizeLine_eq]; decide) (by show 0 ≤ sizeLine + 1; exact Nat.zero_le _)
  have I6 := I5.lset (l := s.heap.objs.size) (f := (·.pop)) (its := [u4]) (its' := []) (ys := []) (t' := s4.toks) upd_same e4 (by rfl) .nil (Nat.zero_le _)
  rw [upd_upd, upd_upd] at I6
  exact wpAny_pure ⟨plainId_quiet PySem.F.plain_extend_loop _, loop _ I6⟩
end
end Dn
namespace Dn
open PySem PySem.Spec PyProof.Rows L2
theorem room1 {k : Nat} {A : Around} (r : Room k A) : A.units + 1 < cLine := by have := r.units; omega
/-- the tuple that an instance of one of the classes hands out -/
def rowsO (cs : List Str) (F : Str) (c : Str) (fs : List (Str × D)) : Option (List D) := if c ∈ cs then (match fs.lookup F with
  | some (.tup xs) => some xs
  | _ => none) else none
def pListO (cs : List Str) (F : Str) : List D → Option X
  | [.obj c fs] => (rowsO cs F c fs).map fun xs => .ow (.lst xs)
  | _ => none
section
variable {K : Fg} [WD K] {W : WS} {M M' M1 M2 : Hp} {env env' env1 env2 : Ev} {σ σ' σ1 : L2.St} {H H' H1 H2 : Hp} {x y : X} {v u : V} {te : TE} {de : Ev → RE X} {cs : List Str} {F : Str}
theorem rowsO_ok {c : Str} {fs : List (Str × D)} {fvs : List (Str × V)} {xs : List D} (e : rowsO cs F c fs = some xs) (r : RepF K M fs fvs) : c ∈ cs ∧ ∃ t vs, fvs.lookup F = some (.ref t) ∧ SqN K M t vs ∧ Reps K M xs vs := by
  unfold rowsO at e
  split at e
  · rename_i hc
    split at e
    · rename_i ys hl
      cases e
      obtain ⟨v, h1, h2⟩ := repF_lookup r hl
      simp only [Rep] at h2
      obtain ⟨t, vs, rfl, h3, h4⟩ := h2
      exact ⟨hc, t, vs, h1, h3, h4⟩
    · cases e
  · cases e
theorem ok_listO : CallOk K (rListO K cs F) (pListO cs F) := fun M H ds x vs s r e Q q => by
  unfold pListO at e
  split at e
  · rename_i c fs
    obtain ⟨xs, e1, rfl⟩ := Option.map_eq_some_iff.mp e
    obtain ⟨v, rfl, h⟩ := one_rd r
    obtain ⟨a, dx, fvs, rfl, h1, h2⟩ := h.obj s
    obtain ⟨hc, t, us, h3, h4, h5⟩ := rowsO_ok e1 h2
    exact ⟨c, a, dx, fvs, t, us, hc, rfl, h1, h3, (h4.mono s).t, fun p n => q.lst s h5 n⟩
  · cases e
end
end Dn
namespace Dn
open PySem PySem.Spec PyProof.Rows L2
theorem fndB_ok {K : Fg} {C : Value} {n : Str} {v : Option Value} (h : fndB K C n v = true) : PySem.W.findIn K C n = some v := of_decide_eq_true h
end Dn
namespace Dn
open PySem PySem.Spec PyProof.Rows L2 NdefX
section
end
section
variable {X : Cx} {CX : CXT} {K : Fg} [WD K] {P : Program} {w : World} {mg : Str → Option Value} {base : Heap} {k : Nat} {tab : Str → Option (Ev → RE Dn.X)} {E : L2.St → XK} {m : Str} {pos : Pos} {o b : Expr} {ta tb : TE} {R : List Str}
/-- a property of the class c -/
def PropF (CX : CXT) (P : Program) (w : World) (K : Fg) [WD K] (mg : Str → Option Value) (base : Heap) (k : Nat) (c m : Str) (den : Ev → RE Dn.X) : Prop :=
  ∃ p g, Cls K (He.ga K c) ∧ PropOf K (He.ga K c) m p g ∧ FnR P w K mg base CX k g (spD K den) ∧ NoSl den
theorem PropF.mono {j k : Nat} {c m : Str} {den : Ev → RE Dn.X} (h : PropF CX P w K mg base j c m den) (l : j ≤ k) : PropF CX P w K mg base k c m den := by
  obtain ⟨p, g, h1, h2, h4, h5⟩ := h
  exact ⟨p, g, h1, h2, h4.mono l, h5⟩
end
end Dn
namespace Dn
open PySem PySem.Spec PyProof.Rows L2
section
end
end Dn
namespace Dn
open PySem PySem.Spec PyProof.Rows L2
end Dn
namespace Dn
open PySem PySem.Spec PyProof.Rows L2
/-- the body answers True -/
def Ends (r : RS) : Prop := ∃ e, r = .rt (.im (.bl true)) e
end Dn
namespace PySem.W
open PySem PySem.Spec PySem.Calls PyProof.Rows
section
end
end PySem.W
namespace Dn
open PySem PySem.Spec PyProof.Rows L2 NdefX
section
end
section
end
section
end
end Dn
namespace Dn
open PySem PySem.Spec PyProof.Rows L2
def wps : List Nat → Ev → Option Ev
  | [], env => some env
  | i :: is, env => (unSl i env).bind (wps is)
def RS.wp (is : List Nat) : RS → RS
  | .nx e => optS (wps is e)
  | .bk e => (match wps is e with
    | some e' => .bk e'
    | none => .bad)
  | .ct e => (match wps is e with
    | some e' => .ct e'
    | none => .bad)
  | r => r
def dWp (is : List Nat) (ds : Ev → RS) : Ev → RS := fun env => (ds env).wp is
section
variable {K : Fg} [WD K] {W : WS} {M M1 : Hp} {env env1 env2 : Ev} {σ σ1 : L2.St} {H H1 : Hp}
theorem no_ok {i : Nat} (hh : Holds K M env σ H) (e : unSl i env = some env1) : Holds K M env1 σ H ∧ Grow M env σ H M env1 σ H := by
  unfold unSl at e
  cases hs : env[i]? with
  | none => rw [hs] at e; cases e
  | some s =>
    rw [hs] at e
    have e2 : env1 = env.set i .no ∧ s.pinned = false := by
      cases s with
      | no => cases e; exact ⟨rfl, rfl⟩
      | im d => cases e; exact ⟨rfl, rfl⟩
      | hid => cases e
      | ow p o => cases p with
        | true => cases e
        | false => cases e; exact ⟨rfl, rfl⟩
    obtain ⟨rfl, hp⟩ := e2
    have hi : i < env.length := (List.getElem?_eq_some_iff.mp hs).1
    have get : ∀ j s', (env.set i Sl.no)[j]? = some s' → (j = i ∧ s' = .no) ∨ (j ≠ i ∧ env[j]? = some s') := fun j s' h => by
      by_cases c : j = i
      · subst c
        rw [List.getElem?_set_self hi] at h
        cases h
        exact .inl ⟨rfl, rfl⟩
      · rw [List.getElem?_set_ne (fun z => c z.symm)] at h
        exact .inr ⟨c, h⟩
    refine ⟨⟨hh.ex, by rw [List.length_set]; exact hh.len, fun j s' h => ?_, fun j k l p o p' o' hjk h1 h2 h3 h4 => ?_⟩, ⟨Same.refl M, fun l o h n => h, fun l o h => .inl h, fun l h => ?_, fun j s' h hp' => ⟨rfl, s', ?_, rfl⟩, fun l h => h, List.length_set⟩⟩
    · rcases get j s' h with ⟨rfl, rfl⟩ | ⟨_, h⟩
      · trivial
      · exact hh.slot j s' h
    · rcases get j _ h1 with ⟨_, q⟩ | ⟨_, h1⟩
      · cases q
      · rcases get k _ h2 with ⟨_, q⟩ | ⟨_, h2⟩
        · cases q
        · exact hh.dj j k l p o p' o' hjk h1 h2 h3 h4
    · obtain ⟨j, p, o, h1, h2⟩ := h
      rcases get j _ h1 with ⟨_, q⟩ | ⟨_, h1⟩
      · cases q
      · exact .inl ⟨j, p, o, h1, h2⟩
    · have : j ≠ i := fun q => by
        subst q
        rw [hs] at h
        cases h
        rw [hp] at hp'
        cases hp'
      rw [List.getElem?_set_ne (fun z => this z.symm)]
      exact h
theorem wps_ok : ∀ (is : List Nat) {env env1 : Ev}, Holds K M env σ H → wps is env = some env1 → Holds K M env1 σ H ∧ Grow M env σ H M env1 σ H
  | [], env, env1, hh, e => by cases e; exact ⟨hh, .refl⟩
  | i :: is, env, env1, hh, e => by
    unfold wps at e
    cases h : unSl i env with
    | none => rw [h] at e; cases e
    | some e2 =>
      rw [h] at e
      obtain ⟨h1, g1⟩ := no_ok hh h
      obtain ⟨h2, g2⟩ := wps_ok is h1 e
      exact ⟨h2, g1.trans hh g2⟩
theorem ds_wp {ts : TS} {ds : Ev → RS} {is : List Nat} (h : DS K W ts ds) : DS K W ts (dWp is ds) := fun M σ H env hh => by
  have := h M σ H env hh
  unfold dWp
  cases hr : ds env with
  | nx e =>
    rw [hr] at this
    unfold RS.wp
    cases hw : wps is e with
    | none => simp only [hw, optS]; trivial
    | some e2 => simp only [hw, optS]; exact fun D k => this D fun σ' M' H' g h1 => (wps_ok is h1 hw).elim fun h2 g2 => k σ' M' H' (g.trans hh g2) h2
  | bk e =>
    rw [hr] at this
    unfold RS.wp
    cases hw : wps is e with
    | none => simp only [hw]; trivial
    | some e2 => simp only [hw]; exact fun D k => this D fun σ' M' H' g h1 => (wps_ok is h1 hw).elim fun h2 g2 => k σ' M' H' (g.trans hh g2) h2
  | ct e =>
    rw [hr] at this
    unfold RS.wp
    cases hw : wps is e with
    | none => simp only [hw]; trivial
    | some e2 => simp only [hw]; exact fun D k => this D fun σ' M' H' g h1 => (wps_ok is h1 hw).elim fun h2 g2 => k σ' M' H' (g.trans hh g2) h2
  | rt x e => rw [hr] at this; exact this
  | exc x e => rw [hr] at this; exact this
  | bad => trivial
end
end Dn
namespace Dn
open PySem PySem.Spec PyProof.Rows L2
section
end
end Dn
namespace Dn
open PySem PySem.Spec PyProof.Rows L2
section
end
end Dn
namespace Dn
open PySem PySem.Spec PyProof.Rows L2
section
end
end Dn
namespace Dn
open PySem PySem.Spec PyProof.Rows L2 NdefX
section
end
section
end
end Dn
namespace Dn
open PySem PySem.Spec PyProof.Rows L2
section
end
end Dn
namespace Dn
open PySem PySem.Spec PyProof.Rows L2
def dedB : List Addr → Nat → List Addr × Nat
  | [], s => ([], s)
  | a :: r, s => bif Nat.beq (Nat.land 1 (Nat.shiftRight s a)) 1 then dedB r s else match dedB r (Nat.lor s (Nat.shiftLeft 1 a)) with
    | (l, t) => (a :: l, t)
def refG (g : Addr → Option Obj) (a : Addr) : List Addr := match g a with
  | some o => He.refsD o
  | none => []
def goB (g : Addr → Option Obj) : Nat → List Addr → Nat → List Addr
  | 0, _, _ => []
  | n + 1, fr, s => match dedB (fr.flatMap (refG g)) s with
    | (l, t) => l ++ goB g n l t
/-- the module's names that are asked for -/
def rootsB (g : Addr → Option Obj) (ns : List Str) : List Addr := match g mainGlobals with
  | some ⟨_, _, .dict es _, _⟩ => es.toList.flatMap fun e => bif ns.any e.key.isStr then He.refV e.val else []
  | _ => []
def asY (g : Addr → Option Obj) (ns : List Str) (n : Nat) : List Addr := match dedB (rootsB g ns) (Nat.lor (Nat.shiftLeft 1 mainGlobals) (Nat.shiftLeft 1 cStatics)) with
  | (l, t) => cStatics :: mainGlobals :: (l ++ goB g n l t)
def obsYG (ns : List Str) (n : Nat) (mf : Str) (fa : List He.Fa) (fn : List He.DefD) (fx : List Fx) (fs : List FnS) (g : Addr → Option Obj) : AlX := obsX mf fa fn fx fs (He.frG g (asY g ns n))
def hookY (ns : List Str) (n : Nat) (mf : Str) (fa : List He.Fa) (fn : List He.DefD) (fx : List Fx) (fs : List FnS) : PySem.W.Hook where
  α := AlX
  obs := fun s => obsYG ns n mf fa fn fx fs s.heap.get?
  val := fun _ => valX fn fs
  says := fun _ h => ∃ K : PySem.W.Frag, K.In h ∧ SaysX mf fa fn fx fs K
  of := fun _ _ e => ⟨_, He.frG_in, e⟩
  keeps := fun _ _ _ ⟨K, hK, c⟩ k => ⟨K, PySem.W.Frag.In.keeps hK k, c⟩
theorem obsYG_eq {ns : List Str} {n : Nat} {mf : Str} {fa : List He.Fa} {fn : List He.DefD} {fx : List Fx} {fs : List FnS} {g : Addr → Option Obj} {s : Shared} (h : ∀ a, g a = s.heap.get? a) : obsYG ns n mf fa fn fx fs g = (hookY ns n mf fa fn fx fs).obs s := by
  have e : g = s.heap.get? := funext h
  rw [e] <;> rfl
end Dn
namespace Dn
open PySem PySem.Spec PyProof.Rows L2
section
end
end Dn
namespace Dn
open PySem PySem.Spec PyProof.Rows L2
section
variable {K : Fg} [WD K] {W : WS}
/-- str(i) -/
def pStrI : List D → Option X
  | [.int i] => if i.natAbs.log2 < 1920 then some (.im (.str (Str.ofString (toString i)))) else none
  | _ => none
theorem ok_strI : CallOk K (fun xs H Q => ∃ i, xs = [V.int i] ∧ i.natAbs.log2 < 1920 ∧ Q (V.str (PySem.Str.ofString (toString i))) H) pStrI := by
  intro M H ds x vs e r hf Q q
  unfold pStrI at hf
  split at hf
  · split at hf
    · rename_i hz
      cases hf
      obtain ⟨v, rfl, h⟩ := one_rd r
      rw [h.int]
      exact ⟨_, rfl, hz, q.im0 e rep_str⟩
    · cases hf
  · cases hf
end
end Dn
namespace DnSort
open PySem PySem.W PySem.SeqAt PySem.Calls PyProof.Rows
section
end
end DnSort
namespace Dn
open PySem PySem.Spec PyProof.Rows L2
section
end
end Dn
namespace Dn
open PySem PySem.Spec PyProof.Rows L2
def CMetF (CX : CXT) (P : Program) (w : World) (K : Fg) [WD K] (mg : Str → Option Value) (base : Heap) (k : Nat) (c m : Str) (den : Ev → RE X) : Prop :=
  ∃ mc p g, ClX.CRead K (He.ga K c) mc ∧ ClX.CMet K (He.ga K c) mc m p g ∧ FnR P w K mg base CX k g (spD K den)
def tCMF (K : Fg) [WD K] (c : Str) (den : Ev → RE X) (E : L2.St → XK) (t : TA) : TE := fun σ H Q => t σ H fun vs H1 => spD K den (V.ref (He.ga K c) :: vs) H1 Q (E σ)
section
variable {X : Cx} {CX : CXT} {K : Fg} [WD K] {P : Program} {w : World} {mg : Str → Option Value} {base : Heap} {k : Nat} {c m : Str} {den : Ev → RE Dn.X} {E : L2.St → XK} {pos apos : Pos} {o e : Expr} {es : List Expr} {t : TA}
theorem run_cmS {q C g : Addr} {sp : Sp} {E : XK} {Q : VK} {us : List Value} {vs : List V} {pins : List (Addr × Obj)} {σ : L2.St} {H : Hp} {s : Shared} (F : FnR X.prog X.w X.K X.mg X.base CX k g sp) (hr : Room k X.A) (hx : PassesAt CX X σ E) (I : Inv X ((q, PySem.W.methodObj (.ref g) (.ref C)) :: pins) σ H s)
    (r : Vals vs us) (h : sp (.ref C :: vs) H Q E) : wpAny (model X.prog X.w) X.A (call (.ref q) us) (EP X pins σ Q) X.xe s := by
  have z : wpAny (model X.prog X.w) X.A (call (.ref q) us) (EP X ((q, PySem.W.methodObj (.ref g) (.ref C)) :: pins) σ Q) X.xe s :=
    wpAny_call (PySem.W.method_call (ClX.pin_at I) (run_fnRS (us := .ref C :: us) (vs := .ref C :: vs) F hr hx I (.cons rfl r) h))
  exact thn z fun _ _ y => ClX.unpinE y
theorem pe_cmF {pl : Sem Bool} (cx : CxIs X K P w mg base) (hm : CMetF CX P w K mg base k c m den) (hr : Room k X.A) (hx : ∀ σ, PassesAt CX X σ (E σ)) (he : PE X o (tC (.ref (He.ga K c)))) (ha : PA X (e :: es) t)
    (hst : starEach (e :: es) X.env = (false, eval e X.env) :: starEach es X.env := by rfl) (hpl : (backTo pos (starEach es X.env)).any (·.1) = false := by rfl)
    (hte : eval (.Call (.Attribute o m apos) (e :: es) [] pos) X.env = (do
      let ov ← eval o X.env
      standAt apos.atName
      let (f, first) ← holding [ov] (getMethod ov m pl)
      callWith pos f first (backTo pos (starEach (e :: es) X.env)) (backToKw pos (keywordEach [] X.env))) := by rfl) :
    PE X (.Call (.Attribute o m apos) (e :: es) [] pos) (tCMF K c den E t) := by
  obtain ⟨rfl, rfl, rfl, rfl, rfl⟩ := cx
  obtain ⟨mc, p, g, r, cm, F⟩ := hm
  refine ⟨fun pins s σ H Q I h => ?_⟩
  have h' : tC (.ref (He.ga X.K c)) σ H fun x H1 => x = V.ref (He.ga X.K c) ∧ t σ H1 fun vs H2 => spD X.K den (V.ref (He.ga X.K c) :: vs) H2 Q (E σ) := ⟨rfl, h⟩
  refine PySem.W.methodCall_KW (pl := pl) (thn (he.run pins s σ H _ I h') fun u s1 ⟨x, H1, I1, rx, ex, q⟩ => ?_) hte
  subst ex
  obtain rfl : u = Value.ref (He.ga X.K c) := rx
  refine ClX.getmethcm_ok I1 r cm fun s2 I2 => ?_
  refine ClX.callwith_cm I2 (ClX.base_none I1 (Nat.le_refl _)) cm.fi (thn (ha.run pos _ s2 σ H1 _ I2 q) fun us s3 ⟨vs, H2, I3, rv, q2⟩ => ⟨⟨ClX.pin_at I3, I3.kIn⟩, ?_⟩) hst hpl
  exact run_cmS F hr (hx σ) I3 rv q2
end
section
variable {K : Fg} [WD K] {W : WS} {c : Str} {m : Ev → RE X} {t : TA} {da : Ev → RE (List X)}
theorem tCMF_eq {E : L2.St → XK} : tCMF K c m E t = tCallSD (spD K m) [] E (tCons (tC (.ref (He.ga K c))) t) := by
  funext σ H Q
  simp only [tCMF, tCallSD, tCons, tC, List.append_nil]
theorem de_cmF (hm : NoSl m) (ha : DA K W t da) : DE K W (tCMF K c m W t) (dCall m (dCons (dC (.cls c)) da)) := by
  rw [tCMF_eq]
  exact de_callS hm (da_cons de_cls ha)
end
/-- what the class must have -/
def cmetB (K : Fg) (C : Addr) (m : Str) : Bool := PySem.W.readsIn K C (.type "type") && (decide (PySem.W.specialIn K (.ref C) "__getattribute__" = some (some (.builtin "type.__getattribute__"))) &&
  match PySem.W.findIn K (.ref C) m with
  | some (some (.ref p)) => (match PySem.W.findCls K (.ref C) (.type "type") m with
    | some (.get a b o d) => decide (a = .builtin "classmethod.__get__") && (decide (b = .ref p) && (decide (o = .none) && decide (d = .ref C)))
    | _ => false) && (match PySem.W.recIn K p "classmethod" with
    | some (.ref g :: _) => PySem.W.fnIn K g
    | _ => false)
  | _ => false)
theorem cmetB_ok {K : Fg} {C : Addr} {m : Str} (h : cmetB K C m = true) : ClX.CRead K C (.type "type") ∧ ∃ p, ClX.CMet K C (.type "type") m p (cmA K C m) := by
  unfold cmetB at h
  rw [Bool.and_eq_true, Bool.and_eq_true] at h
  obtain ⟨h1, h2, h3⟩ := h
  refine ⟨⟨h1, of_decide_eq_true h2⟩, ?_⟩
  unfold cmA dsA
  split at h3
  · rename_i p hp
    rw [Bool.and_eq_true] at h3
    obtain ⟨h4, h5⟩ := h3
    try rw [hp]
    try dsimp only
    split at h4
    · rename_i a b o d hf
      simp only [Bool.and_eq_true, decide_eq_true_eq] at h4
      obtain ⟨rfl, rfl, rfl, rfl⟩ := h4
      split at h5
      · rename_i g rest hg
        try rw [hg]
        exact ⟨p, hf, ⟨rest, hg⟩, h5⟩
      · cases h5
    · cases h4
  · cases h3
theorem cmetF_of {CX : CXT} {P : Program} {w : World} {K : Fg} [WD K] {mg : Str → Option Value} {base : Heap} {k : Nat} {c m : Str} {den : Ev → RE X} (h : cmetB K (He.ga K c) m = true) (F : FnR P w K mg base CX k (cmA K (He.ga K c) m) (spD K den)) : CMetF CX P w K mg base k c m den :=
  let ⟨r, p, q⟩ := cmetB_ok h
  ⟨_, p, _, r, q, F⟩
def tMakeL (K : Fg) [WD K] (i : Nat) (c : Str) (n m : Nat) (den : Ev → RE X) (gV : List V → List V → List V) (E : L2.St → XK) (t tk : TA) : TE := fun σ H Q => tVar i σ H fun x H1 => x = V.ref (He.ga K c) ∧ tMakeG K c n m den gV E t tk σ H1 Q
def dGuard (i : Nat) (c : Str) (d : Ev → RE X) : Ev → RE X := fun env => (dVar i env).bind fun x e1 => match x with
  | .im (.cls c') => if c' = c then d e1 else .bad
  | _ => .bad
theorem guard_eq {i : Nat} {c : Str} {d : Ev → RE X} {env : Ev} (h : env[i]? = some (.im (.cls c))) : dGuard i c d env = d env := by
  simp [dGuard, dVar, h, RE.bind]
section
variable {P : Program} {w : World} {K : Fg} [WD K] {mg : Str → Option Value} {base : Heap} {CX : CXT} {X : Cx} {k n i : Nat} {ps ks : List Str} {E : L2.St → XK} {c x : Str} {qual : Str} {st : Stmt} {dvs : List V} {kds : List (Str × V)} {p pos : Pos} {e : Expr} {es : List Expr} {kws : List Keyword} {t tk : TA} {gV : List V → List V → List V} {den : Ev → RE Dn.X}
theorem pe_makeL (cx : CxIs X K P w mg base) (hm : MkG CX P w K mg base k c qual st dvs kds ps den) (kf : KFormM K "__init__" qual st dvs kds ps (n + 1) ks gV) (hr : Room (k + 1) X.A) (hf : PE X (.Name x p) (tVar i)) (hx : ∀ σ, PassesAt CX X σ (E σ))
    (ha : PA X (e :: es) t) (hkw : PK X kws tk) (hall : (backToKw pos (keywordEach kws X.env)).all (·.1.isSome) = true := by rfl) (hks : (backToKw pos (keywordEach kws X.env)).filterMap (·.1) = ks := by rfl)
    (he : starEach (e :: es) X.env = (false, eval e X.env) :: starEach es X.env := by rfl)
    (hpl : ((backTo pos (starEach (e :: es) X.env)).any (·.1) || (backToKw pos (keywordEach kws X.env)).any (·.1.isNone)) = false := by rfl) :
    PE X (.Call (.Name x p) (e :: es) kws pos) (tMakeL K i c n ks.length den gV E t tk) := by
  obtain ⟨rfl, rfl, rfl, rfl, rfl⟩ := cx
  obtain ⟨f, M, hmg, fd, h3, F⟩ := hm
  obtain ⟨g, hb⟩ := kf f fd h3
  refine ⟨fun pins s σ H Q I h => ?_⟩
  refine wpAny_Call_Name_kw (thn (hf.run pins s σ H _ I h) fun u s0 ⟨y, H0, I0, ry, ey, h⟩ => ?_)
  subst ey
  obtain rfl : u = Value.ref (He.ga X.K c) := ry
  refine PySem.W.callWith_KW (h₀ := X.base) I0.ok.mod.kin M.kp hall (thn (ha.run pos pins s0 σ H0 _ I0 h) fun us s1 ⟨vs, H1, I1, r, q⟩ => ?_) hpl he
  refine thn (hkw.run pos pins s1 σ H1 _ I1 q) fun ws s2 ⟨zs, H2, I2, rz, l1, l2, q2⟩ => ⟨I2.kIn, ?_⟩
  rw [hks]
  exact run_makeG M F hr hb (hx σ) I2 r rz l1 l2 q2
end
section
variable {K : Fg} [WD K] {W : WS} {c : Str} {m : Ev → RE X} {i n nk : Nat} {gV : List V → List V → List V} {t tk : TA} {d : Ev → RE X} {E : L2.St → XK}
theorem de_makeL (h : DE K W (tMakeG K c n nk m gV E t tk) d) : DE K W (tMakeL K i c n nk m gV E t tk) (dGuard i c d) := fun M σ H env hh => by
  unfold dGuard
  refine Sat.bind (c := fun x H1 Q => x = V.ref (He.ga K c) ∧ tMakeG K c n nk m gV E t tk σ H1 Q) (t := fun Q => tVar i σ H Q) back_x hh (de_var i M σ H env hh) (fun Q q => q) fun M1 H1 env1 x v g1 s1 hh1 r1 => ?_
  cases x with
  | im z =>
    cases z with
    | cls c' =>
      dsimp only
      by_cases ec : c' = c
      · subst ec
        rw [if_pos rfl]
        have ev : v = V.ref (He.ga K c') := by
          have := r1.1
          simpa [RepX, Rep] using this
        exact Sat.imp (h M1 σ H1 env1 hh1) fun Q q => ⟨ev, q⟩
      · rw [if_neg ec]
        trivial
    | _ => trivial
  | _ => trivial
end
def pSplit : D → D → Option X
  | .str a, .str b => if (b.length == 0) = false ∧ fit (a.length + 2) = true then some (.ow (.lst ((Txt.split a b).map D.str))) else none
  | _, _ => none
abbrev rSplit : V → List V → Hp → VK → Prop := fun x xs H Q => ∃ a b, x = .str a ∧ xs = [.str b] ∧ (b.length == 0) = false ∧ a.length + 2 ≤ sizeLine ∧ rNewStrs (Txt.split a b) H Q
section
variable {K : Fg} [WD K]
theorem reps_strs (K : Fg) [WD K] (M : Hp) : ∀ ys : List Str, Reps K M (ys.map D.str) (ys.map V.str)
  | [] => by simp [Reps]
  | y :: ys => by
    simp only [List.map_cons, Reps]
    exact ⟨_, _, rfl, rep_str (K := K), reps_strs K M ys⟩
theorem ok_split : M1Ok K rSplit pSplit := by
  intro M H dx dy x v u e hx hy hf Q q
  unfold pSplit at hf
  split at hf
  · split at hf
    · rename_i a b hz
      cases hf
      rw [hx.str, hy.str]
      exact ⟨a, b, rfl, rfl, hz.1, by have h9 := fit_ok hz.2; rw [sizeLine_eq] at h9 ⊢; exact h9, fun p n => q.lst e (reps_strs K M _) n⟩
    · cases hf
  · cases hf
def pPart : D → D → Option X
  | .str a, .str b => if (b.length == 0) = false ∧ fit a.length = true then some (.im (.tupW [.str (Txt.partition a b).1, .str (Txt.partition a b).2.1, .str (Txt.partition a b).2.2])) else none
  | _, _ => none
abbrev rPart : V → List V → Hp → VK → Prop := fun x xs H Q => ∃ a b, x = .str a ∧ xs = [.str b] ∧ (b.length == 0) = false ∧ a.length ≤ sizeLine ∧
      ∀ p, H p = none → Q (.ref p) (upd H p (.tup [.str (Txt.partition a b).1, .str (Txt.partition a b).2.1, .str (Txt.partition a b).2.2]))
theorem Fin.tupW {M H : Hp} {xs : List D} {vs : List V} {Q : VK} (q : Fin K M H (.im (.tupW xs)) Q) (h : Same M H) (r : Reps K M xs vs) {p : Addr} (n : H p = none) : Q (.ref p) (upd H p (.tup vs)) := by
  have e := ext_tup h (o := .tup vs) n
  refine q.im e ?_
  exact rep_tupW (.inl (.inl upd_same)) (Reps.mono e.exM _ _ r)
theorem ok_part : M1Ok K rPart pPart := by
  intro M H dx dy x v u e hx hy hf Q q
  unfold pPart at hf
  split at hf
  · split at hf
    · rename_i a b hz
      cases hf
      rw [hx.str, hy.str]
      exact ⟨a, b, rfl, rfl, hz.1, by have h9 := fit_ok hz.2; rw [sizeLine_eq] at h9 ⊢; exact h9, fun p n => q.tupW e (reps_strs K M [_, _, _]) n⟩
    · cases hf
  · cases hf
/-- int(text) -/
def pIntT : List D → Option X
  | [.str a] => if a.length ≤ 640 then (PySem.intText? a).map fun n => .im (.int n) else none
  | _ => none
theorem ok_intT : CallOk K (fun xs H Q => ∃ a n, xs = [.str a] ∧ PySem.intText? a = some n ∧ a.length ≤ 640 ∧ Q (.int n) H) pIntT := by
  intro M H ds x vs e r hf Q q
  unfold pIntT at hf
  split at hf
  · split at hf
    · rename_i a hz
      obtain ⟨n, h1, rfl⟩ := Option.map_eq_some_iff.mp hf
      obtain ⟨v, rfl, h⟩ := one_rd r
      rw [h.str]
      exact ⟨a, n, rfl, h1, hz, q.im0 e rep_int⟩
    · cases hf
  · cases hf
end
end Dn
namespace Tn
open PySem PySem.Spec PyProof.Rows L2 Dn
inductive PR (α : Type) where
  | ok (a : α) | exc (e : Xn) | bad
namespace PR
variable {α β γ : Type}
def bind (r : PR α) (f : α → PR β) : PR β := match r with
  | .ok a => f a
  | .exc e => .exc e
  | .bad => .bad
def o : PR α → Option α
  | .ok a => some a
  | _ => none
def opt : Option α → PR α
  | some a => .ok a
  | none => .bad
/-- a value with a name -/
def lt (a : α) (f : α → PR β) : PR β := f a
def catch_ (r : PR α) (h : Xn → PR α) : PR α := match r with
  | .exc e => h e
  | r => r
def calm (r : PR α) : PR α := match r with
  | .exc _ => .bad
  | r => r
@[simp] theorem bind_ok (a : α) (f : α → PR β) : (PR.ok a).bind f = f a := rfl
@[simp] theorem bind_exc (e : Xn) (f : α → PR β) : (PR.exc e).bind f = .exc e := rfl
@[simp] theorem bind_bad (f : α → PR β) : (PR.bad).bind f = .bad := rfl
@[simp] theorem o_ok (a : α) : (PR.ok a).o = some a := rfl
@[simp] theorem o_exc (e : Xn) : (PR.exc e : PR α).o = none := rfl
@[simp] theorem o_bad : (PR.bad : PR α).o = none := rfl
@[simp] theorem opt_some (a : α) : PR.opt (some a) = .ok a := rfl
@[simp] theorem opt_none : PR.opt (none : Option α) = .bad := rfl
@[simp] theorem lt_eq (a : α) (f : α → PR β) : PR.lt a f = f a := rfl
@[simp] theorem catch_ok (a : α) (h : Xn → PR α) : (PR.ok a).catch_ h = .ok a := rfl
@[simp] theorem catch_exc (e : Xn) (h : Xn → PR α) : (PR.exc e).catch_ h = h e := rfl
@[simp] theorem calm_ok (a : α) : (PR.ok a).calm = .ok a := rfl
@[simp] theorem calm_exc (e : Xn) : (PR.exc e : PR α).calm = .bad := rfl
theorem bind_assoc (r : PR α) (f : α → PR β) (g : β → PR γ) : (r.bind f).bind g = r.bind fun a => (f a).bind g := by cases r <;> rfl
end PR
abbrev XIf := Xn → Ev → Prop
/-- an expression's result read as a typed one -/
def RV {γ β : Type} (res : RE γ) (ex : β → γ) (ee : β → Ev) (XI : XIf) (r : PR β) : Prop := match r with
  | .ok v => res = .ok (ex v) (ee v)
  | .exc x => ∃ e, res = .exc x e ∧ XI x e
  | .bad => True
/-- a statement's -/
def RS' {β : Type} (res : RS) (Φ : β → RS → Prop) (XI : XIf) (r : PR β) : Prop := match r with
  | .ok v => Φ v res
  | .exc x => ∃ e, res = .exc x e ∧ XI x e
  | .bad => True
section
variable {γ δ β β' κ : Type} {XI : XIf}
theorem rv_ok {x : γ} {env : Ev} {ex : β → γ} {ee : β → Ev} {v : β} (hx : x = ex v) (he : env = ee v) : RV (.ok x env) ex ee XI (.ok v) := by
  subst hx he; rfl
theorem rv_of {res : RE γ} {x : γ} {env : Ev} {ex : β → γ} {v : β} (h : res = .ok x env) (hx : x = ex v) : RV res ex (fun _ => env) XI (.ok v) := by
  subst hx; exact h
theorem rv_bind {res : RE γ} {k : γ → Ev → RE δ} {exa : β → γ} {eea : β → Ev} {ex : β' → δ} {ee : β' → Ev} {r : PR β} {rk : β → PR β'} (h : RV res exa eea XI r) (hk : ∀ v, RV (k (exa v) (eea v)) ex ee XI (rk v)) : RV (res.bind k) ex ee XI (r.bind rk) := by
  cases r with
  | ok v =>
    have h : res = .ok (exa v) (eea v) := h
    subst h
    exact hk v
  | exc x =>
    obtain ⟨e, h, hx⟩ := h
    subst h
    exact ⟨e, rfl, hx⟩
  | bad => trivial
theorem rv_opt {o : Option γ} {env : Ev} {ex : β → γ} {r : Option β} (h : ∀ z, r = some z → o = some (ex z)) : RV (opt o env) ex (fun _ => env) XI (PR.opt r) := by
  cases r with
  | none => trivial
  | some z => rw [h z rfl]; rfl
/-- the same result read in another way -/
theorem rv_map {res : RE γ} {exa : β → γ} {eea : β → Ev} {ex : β' → γ} {ee : β' → Ev} {r : PR β} {f : β → β'} (h : RV res exa eea XI r) (hx : ∀ v, exa v = ex (f v)) (he : ∀ v, eea v = ee (f v)) : RV res ex ee XI (r.bind fun v => .ok (f v)) := by
  cases r with
  | ok v => show _ = _; rw [← hx v, ← he v]; exact h
  | exc x => exact h
  | bad => trivial
/-- nothing is let out -/
theorem rv_o {res : RE γ} {ex : β → γ} {ee : β → Ev} {XI' : XIf} {r : PR β} (h : RV res ex ee XI' r) : RV res ex ee XI (PR.opt r.o) := by
  cases r with
  | ok v => exact h
  | exc x => trivial
  | bad => trivial
end
section
variable {α β : Type}
def eTup (e : α → D) (xs : List α) : D := .tup (xs.map e)
def eLst (e : α → D) (xs : List α) : D := .lst (xs.map e)
def oLst (e : α → D) (xs : List α) : OD := .lst (xs.map e)
def ePr (e : α → D) (f : β → D) (p : α × β) : D := .tup [e p.1, f p.2]
def ePr3 {γ : Type} (e : α → D) (f : β → D) (g : γ → D) (p : α × β × γ) : D := .tup [e p.1, f p.2.1, g p.2.2]
def ePr4 {γ δ : Type} (e : α → D) (f : β → D) (g : γ → D) (h : δ → D) (p : α × β × γ × δ) : D := .tup [e p.1, f p.2.1, g p.2.2.1, h p.2.2.2]
/-- rows of enumerate -/
def eEn (e : α → D) (p : Int × α) : D := .tupW [.int p.1, e p.2]
def eOpt (e : α → D) : Option α → D
  | none => .non
  | some a => e a
def eScr (ns : List Int) : D := .scr ns
def eU (_ : Unit) : D := .non
abbrev eD (d : D) : D := d
structure KT (κ : Type) where
  ky : κ → D
  k : κ → List Key
  hk : ∀ x, keyT (ky x) = some (k x)
  hd : ∀ x, D.tup ((k x).map Key.toD) = ky x
  inj : ∀ x y, k x = k y → x = y
theorem keysD_strs : ∀ xs : List Str, keysD (xs.map D.str) = some (xs.map fun x => (.inr x : Key))
  | [] => rfl
  | x :: xs => by simp [keysD, keyD, keysD_strs xs]
theorem map_inj' {α β : Type} {f : α → β} (h : ∀ x y, f x = f y → x = y) : ∀ xs ys : List α, xs.map f = ys.map f → xs = ys
  | [], [], _ => rfl
  | [], _ :: _, e => by simp at e
  | _ :: _, [], e => by simp at e
  | x :: xs, y :: ys, e => by
    simp only [List.map_cons, List.cons.injEq] at e
    rw [h x y e.1, map_inj' h xs ys e.2]
def kStrs : KT (List Str) := ⟨eTup D.str, fun xs => xs.map fun x => (.inr x : Key), fun xs => by simp [eTup, keyT, keysD_strs], fun xs => by simp [eTup, Key.toD], fun xs ys h => map_inj' (fun x y e => by cases e; rfl) xs ys h⟩
def rKT {κ : Type} (k : KT κ) (e : β → D) (m : List (κ × β)) : List (List Key × D) := m.map fun p => (k.k p.1, e p.2)
def eDt {κ : Type} (k : KT κ) (e : β → D) (m : List (κ × β)) : D := .dt (rKT k e m)
def oDt {κ : Type} (k : KT κ) (e : β → D) (m : List (κ × β)) : OD := .dt (rKT k e m)
/-- dicts as lists of rows -/
def getA {κ β : Type} [DecidableEq κ] (m : List (κ × β)) (k : κ) : Option β := (m.find? fun p => decide (p.1 = k)).map (·.2)
def putA {κ β : Type} [DecidableEq κ] (m : List (κ × β)) (k : κ) (x : β) : List (κ × β) := if (getA m k).isSome = true then m.map (fun p => if p.1 = k then (p.1, x) else p) else m ++ [(k, x)]
theorem get_map {κ κ' : Type} [DecidableEq κ] [DecidableEq κ'] (f : κ → κ') (hf : ∀ x y, f x = f y → x = y) (e : β → D) (k : κ) : ∀ m : List (κ × β), getKD (m.map fun p => (f p.1, e p.2)) (f k) = (getA m k).map e
  | [] => rfl
  | p :: m => by
    have ih := get_map f hf e k m
    unfold getKD getA at ih ⊢
    by_cases h : p.1 = k
    · simp [h]
    · have h' : ¬ f p.1 = f k := fun q => h (hf _ _ q)
      simp only [List.map_cons, List.find?_cons, h, h', decide_false]
      exact ih
theorem put_map {κ κ' : Type} [DecidableEq κ] [DecidableEq κ'] (f : κ → κ') (hf : ∀ x y, f x = f y → x = y) (e : β → D) (k : κ) (x : β) (m : List (κ × β)) : putKD (m.map fun p => (f p.1, e p.2)) (f k) (e x) = (putA m k x).map fun p => (f p.1, e p.2) := by
  unfold putKD putA
  rw [get_map f hf e k m]
  by_cases h : (getA m k).isSome = true
  · rw [if_pos h, if_pos (by simpa using h)]
    simp only [List.map_map]
    apply List.map_congr_left
    intro p _
    by_cases q : p.1 = k
    · simp [q]
    · have q' : ¬ f p.1 = f k := fun z => q (hf _ _ z)
      simp [q, q']
  · rw [if_neg h, if_neg (by simpa using h)]
    simp
end
end Tn
namespace Tn
open PySem PySem.Spec PyProof.Rows L2 Dn
section
variable {α β β1 β2 β3 γ κ : Type} {XI : XIf} {env e1 : Ev}
theorem re_bind_ok {δ : Type} (x : γ) (env : Ev) (k : γ → Ev → RE δ) : (RE.ok x env).bind k = k x env := rfl
theorem p_var {i : Nat} {d : D} (h : env[i]? = some (.im d)) : dVar i env = .ok (.im d) env := by simp [dVar, h]
theorem p_sl {i : Nat} {p : Bool} {o : OD} (h : env[i]? = some (.ow p o)) : dVar i env = .ok (.sl i) env := by simp [dVar, h]
def OpS (f : D → D → Option X) (dx dy : D) (ex : β → X) (r : Option β) : Prop := ∀ z, r = some z → f dx dy = some (ex z)
def CbS (f : List D → Option X) (ds : List D) (ex : β → X) (r : Option β) : Prop := ∀ z, r = some z → f ds = some (ex z)
variable {f : D → D → Option X} {fu : D → Option X} {fc : List D → Option X} {da db dd : Ev → RE X} {dl : Ev → RE (List X)} {x y z : X} {dx dy : D} {ds : List D} {xs : List X}
/-- the end of an operator: partial, whole; with what has changed beside it -/
theorem oc {ex : β → X} {r : Option β} (hx : rd env x = some dx) (hy : rd env y = some dy) (h : OpS f dx dy ex r) : RV (opt ((rd env x).bind fun dx => (rd env y).bind fun dy => f dx dy) env) ex (fun _ => env) XI (PR.opt r) := rv_opt fun z hz => by
  rw [hx, hy]; exact h z hz
theorem ocVE {ex : β → X} {ee : β → Ev} {v : β} (hx : rd env x = some dx) (hy : rd env y = some dy) (h : f dx dy = some (ex v)) (he : env = ee v) : RV (opt ((rd env x).bind fun dx => (rd env y).bind fun dy => f dx dy) env) ex ee XI (.ok v) := by
  rw [hx, hy]
  show opt (f dx dy) env = _
  rw [h, he]; rfl
theorem cc {ex : β → X} {r : Option β} (hx : rds env xs = some ds) (h : CbS fc ds ex r) : RV (opt ((rds env xs).bind fc) env) ex (fun _ => env) XI (PR.opt r) := rv_opt fun z hz => by
  rw [hx]; exact h z hz
theorem ccVE {ex : β → X} {ee : β → Ev} {v : β} (hx : rds env xs = some ds) (h : fc ds = some (ex v)) (he : env = ee v) : RV (opt ((rds env xs).bind fc) env) ex ee XI (.ok v) := by
  rw [hx]
  show opt (fc ds) env = _
  rw [h, he]; rfl
theorem ocV {ex : β → X} {v : β} (hx : rd env x = some dx) (hy : rd env y = some dy) (h : f dx dy = some (ex v)) : RV (opt ((rd env x).bind fun dx => (rd env y).bind fun dy => f dx dy) env) ex (fun _ => env) XI (.ok v) := ocVE hx hy h rfl
theorem ccV {ex : β → X} {v : β} (hx : rds env xs = some ds) (h : fc ds = some (ex v)) : RV (opt ((rds env xs).bind fc) env) ex (fun _ => env) XI (.ok v) := ccVE hx h rfl
/-- a partial end with changes beside it -/
theorem wE {res : RE γ} {ex : β → γ} {σ : Type} {E : σ → Ev} {r : PR β} {s : σ} (h : RV res ex (fun _ => E s) XI r) : RV res (fun p : β × σ => ex p.1) (fun p => E p.2) XI (r.bind fun z => .ok (z, s)) := by
  cases r with
  | ok v => exact h
  | exc x => exact h
  | bad => trivial
theorem p_op (ha : da env = .ok x env) (hb : db env = .ok y env) (hx : rd env x = some dx) (hy : rd env y = some dy) (h : f dx dy = some z) : dOp f da db env = .ok z env := by
  simp [dOp, ha, hb, hx, hy, h, RE.bind, opt]
theorem r_op_PP {ex : β → X} {ee : β → Ev} {r : PR β} (ha : da env = .ok x env) (hb : db env = .ok y env) (h : RV (opt ((rd env x).bind fun dx => (rd env y).bind fun dy => f dx dy) env) ex ee XI r) : RV (dOp f da db env) ex ee XI r := by
  unfold dOp; rw [ha]; simp only [RE.bind]; rw [hb]; exact h
theorem r_op_PM {exb : β1 → X} {eeb : β1 → Ev} {ex : β → X} {ee : β → Ev} {rb : PR β1} {r : β1 → PR β} (ha : da env = .ok x env) (hb : RV (db env) exb eeb XI rb) (h : ∀ v, RV (opt ((rd (eeb v) x).bind fun dx => (rd (eeb v) (exb v)).bind fun dy => f dx dy) (eeb v)) ex ee XI (r v)) : RV (dOp f da db env) ex ee XI (rb.bind r) := by
  unfold dOp; rw [ha, re_bind_ok]; exact rv_bind hb h
theorem r_op_MP {exa : β1 → X} {eea : β1 → Ev} {ex : β → X} {ee : β → Ev} {ra : PR β1} {r : β1 → PR β} {yf : β1 → X} (ha : RV (da env) exa eea XI ra) (hb : ∀ v, db (eea v) = .ok (yf v) (eea v)) (h : ∀ v, RV (opt ((rd (eea v) (exa v)).bind fun dx => (rd (eea v) (yf v)).bind fun dy => f dx dy) (eea v)) ex ee XI (r v)) : RV (dOp f da db env) ex ee XI (ra.bind r) :=
  rv_bind ha fun v => by rw [hb v]; exact h v
theorem r_op_MM {exa : β1 → X} {eea : β1 → Ev} {exb : β1 → β2 → X} {eeb : β1 → β2 → Ev} {ex : β → X} {ee : β → Ev} {ra : PR β1} {rb : β1 → PR β2} {r : β1 → β2 → PR β} (ha : RV (da env) exa eea XI ra) (hb : ∀ v, RV (db (eea v)) (exb v) (eeb v) XI (rb v)) (h : ∀ v w, RV (opt ((rd (eeb v w) (exa v)).bind fun dx => (rd (eeb v w) (exb v w)).bind fun dy => f dx dy) (eeb v w)) ex ee XI (r v w)) : RV (dOp f da db env) ex ee XI (ra.bind fun v => (rb v).bind (r v)) :=
  rv_bind ha fun v => rv_bind (hb v) (h v)
theorem p_un (ha : da env = .ok x env) (hx : rd env x = some dx) (h : fu dx = some z) : dUn fu da env = .ok z env := by
  simp [dUn, ha, hx, h, RE.bind, opt]
theorem pa_nil : dNil env = .ok [] env := rfl
theorem pa_cons (ha : da env = .ok x env) (hr : dl env = .ok xs env) : dCons da dl env = .ok (x :: xs) env := by
  simp [dCons, ha, hr, RE.bind]
theorem ra_PM {exs : β1 → List X} {ees : β1 → Ev} {r : PR β1} (ha : da env = .ok x env) (hr : RV (dl env) exs ees XI r) : RV (dCons da dl env) (fun v => x :: exs v) ees XI r := by
  unfold dCons; rw [ha]
  simp only [RE.bind]
  cases r with
  | ok v =>
    have hr : dl env = _ := hr
    show _ = _
    rw [hr]
  | exc x =>
    obtain ⟨e, hr, hx⟩ := hr
    exact ⟨e, by rw [hr], hx⟩
  | bad => trivial
theorem ra_MP {exa : β1 → X} {eea : β1 → Ev} {xf : β1 → List X} {r : PR β1} (ha : RV (da env) exa eea XI r) (hr : ∀ v, dl (eea v) = .ok (xf v) (eea v)) : RV (dCons da dl env) (fun v => exa v :: xf v) eea XI r := by
  unfold dCons
  cases r with
  | ok v =>
    have ha : da env = _ := ha
    show _ = _
    rw [ha]
    simp only [RE.bind]
    rw [hr]
  | exc x =>
    obtain ⟨e, ha, hx⟩ := ha
    exact ⟨e, by rw [ha]; rfl, hx⟩
  | bad => trivial
theorem ra_MM {exa : β1 → X} {eea : β1 → Ev} {exb : β1 → β2 → List X} {eeb : β1 → β2 → Ev} {exs : β → List X} {ees : β → Ev} {ra : PR β1} {rb : β1 → PR β2} {pk : β1 → β2 → β} (ha : RV (da env) exa eea XI ra) (hb : ∀ v, RV (dl (eea v)) (exb v) (eeb v) XI (rb v)) (hx : ∀ v w, exa v :: exb v w = exs (pk v w)) (he : ∀ v w, eeb v w = ees (pk v w)) : RV (dCons da dl env) exs ees XI (ra.bind fun v => (rb v).bind fun w => .ok (pk v w)) :=
  rv_bind ha fun v => rv_bind (hb v) fun w => rv_ok (v := pk v w) (hx v w) (he v w)
theorem p_cb (ha : dl env = .ok xs env) (hx : rds env xs = some ds) (h : fc ds = some z) : dCB fc dl env = .ok z env := by
  simp [dCB, ha, hx, h, RE.bind, opt]
theorem r_cb_P {ex : β → X} {ee : β → Ev} {r : PR β} (ha : dl env = .ok xs env) (h : RV (opt ((rds env xs).bind fc) env) ex ee XI r) : RV (dCB fc dl env) ex ee XI r := by
  unfold dCB; rw [ha]; exact h
theorem r_cb_M {exa : β1 → List X} {eea : β1 → Ev} {ex : β → X} {ee : β → Ev} {ra : PR β1} {r : β1 → PR β} (ha : RV (dl env) exa eea XI ra) (h : ∀ v, RV (opt ((rds (eea v) (exa v)).bind fc) (eea v)) ex ee XI (r v)) : RV (dCB fc dl env) ex ee XI (ra.bind r) := rv_bind ha h
theorem p_frz {d : D} (ha : da env = .ok x env) (h : frz x = some d) : dFrz da env = .ok (.im d) env := by
  simp [dFrz, ha, h, RE.bind, opt]
theorem r_frz {exa : β → X} {ee : β → Ev} {df : β → D} {r : PR β} (ha : RV (da env) exa ee XI r) (h : ∀ v, frz (exa v) = some (df v)) : RV (dFrz da env) (fun v => .im (df v)) ee XI r := by
  unfold dFrz
  cases r with
  | ok v =>
    have ha : da env = _ := ha
    show _ = _
    rw [ha]
    simp only [RE.bind]
    rw [h]; rfl
  | exc x =>
    obtain ⟨e, ha, hx⟩ := ha
    exact ⟨e, by rw [ha]; rfl, hx⟩
  | bad => trivial
theorem p_tup (ha : dl env = .ok xs env) (h : frzs xs = some ds) (hf : fit ds.length = true) : dTup dl env = .ok (.im (.tup ds)) env := by
  simp [dTup, ha, h, hf, RE.bind, opt]
theorem r_tup {exa : β → List X} {ee : β → Ev} {df : β → List D} {r : PR β} (ha : RV (dl env) exa ee XI r) (h : ∀ v, frzs (exa v) = some (df v)) (hf : ∀ v, fit (df v).length = true) : RV (dTup dl env) (fun v => .im (.tup (df v))) ee XI r := by
  unfold dTup
  cases r with
  | ok v =>
    have ha : dl env = _ := ha
    show _ = _
    rw [ha]
    simp only [RE.bind]
    rw [h]; simp [hf, opt]
  | exc x =>
    obtain ⟨e, ha, hx⟩ := ha
    exact ⟨e, by rw [ha]; rfl, hx⟩
  | bad => trivial
theorem p_lst (ha : dl env = .ok xs env) (h : frzs xs = some ds) (hf : fit ds.length = true) : dLst dl env = .ok (.ow (.lst ds)) env := by
  simp [dLst, ha, h, hf, RE.bind, opt]
theorem r_lst {exa : β → List X} {ee : β → Ev} {df : β → List D} {r : PR β} (ha : RV (dl env) exa ee XI r) (h : ∀ v, frzs (exa v) = some (df v)) (hf : ∀ v, fit (df v).length = true) : RV (dLst dl env) (fun v => .ow (.lst (df v))) ee XI r := by
  unfold dLst
  cases r with
  | ok v =>
    have ha : dl env = _ := ha
    show _ = _
    rw [ha]
    simp only [RE.bind]
    rw [h]; simp [hf, opt]
  | exc x =>
    obtain ⟨e, ha, hx⟩ := ha
    exact ⟨e, by rw [ha]; rfl, hx⟩
  | bad => trivial
variable {dlo dhi : Ev → RE (Option Int)} {lo hi : Option Int}
theorem p_none : dNone env = .ok none env := rfl
theorem p_some {i : Int} (ha : da env = .ok x env) (h : rd env x = some (.int i)) : dSome da env = .ok (some i) env := by
  simp [dSome, ha, h, RE.bind]
theorem r_sl_PPP {ex : β → X} {ee : β → Ev} {r : PR β} (ha : da env = .ok x env) (hl : dlo env = .ok lo env) (hh : dhi env = .ok hi env) (h : RV (opt ((rd env x).bind fun d => pSl d lo hi) env) ex ee XI r) : RV (dSl da dlo dhi env) ex ee XI r := by
  unfold dSl; rw [ha]; simp only [RE.bind]; rw [hl]; simp only; rw [hh]; exact h
theorem p_sl3 {d : D} (ha : da env = .ok x env) (hl : dlo env = .ok lo env) (hh : dhi env = .ok hi env) (hx : rd env x = some d) (h : pSl d lo hi = some z) : dSl da dlo dhi env = .ok z env := by
  simp [dSl, ha, hl, hh, hx, h, RE.bind, opt]
variable {dt dt' : Ev → RE Bool} {b c : Bool}
theorem p_test (ha : da env = .ok x env) (h : rd env x = some (.bl b)) : dTest da env = .ok b env := by
  simp [dTest, ha, h, RE.bind]
theorem r_test {exa : β → X} {ee : β → Ev} {g : β → Bool} {r : PR β} (ha : RV (da env) exa ee XI r) (h : ∀ v, rd (ee v) (exa v) = some (.bl (g v))) : RV (dTest da env) g ee XI r := by
  unfold dTest
  cases r with
  | ok v =>
    have ha : da env = _ := ha
    show _ = _
    rw [ha]
    simp only [RE.bind]
    rw [h]
  | exc x =>
    obtain ⟨e, ha, hx⟩ := ha
    exact ⟨e, by rw [ha]; rfl, hx⟩
  | bad => trivial
theorem p_yes : (fun env => RE.ok true env : Ev → RE Bool) env = .ok true env := rfl
theorem p_tnot (h : dt env = .ok b env) : dtNot dt env = .ok (!b) env := by simp [dtNot, h, RE.bind]
theorem r_tnot {g : β → Bool} {ee : β → Ev} {r : PR β} (h : RV (dt env) g ee XI r) : RV (dtNot dt env) (fun v => !(g v)) ee XI r := by
  unfold dtNot
  cases r with
  | ok v =>
    have h : dt env = _ := h
    show _ = _
    rw [h]; rfl
  | exc x =>
    obtain ⟨e, h, hx⟩ := h
    exact ⟨e, by rw [h]; rfl, hx⟩
  | bad => trivial
theorem r_tand_P {ex : β → Bool} {ee : β → Ev} {r r' : PR β} (h : dt env = .ok b env) (hb : RV (dt' env) ex ee XI r) (hf : RV (.ok false env) ex ee XI r') : RV (dtAnd dt dt' env) ex ee XI (if b = true then r else r') := by
  unfold dtAnd; rw [h]; cases b <;> simp [RE.bind] <;> assumption
theorem r_tor_P {ex : β → Bool} {ee : β → Ev} {r r' : PR β} (h : dt env = .ok b env) (hb : RV (dt' env) ex ee XI r) (hf : RV (.ok true env) ex ee XI r') : RV (dtOr dt dt' env) ex ee XI (if b = true then r' else r) := by
  unfold dtOr; rw [h]; cases b <;> simp [RE.bind] <;> assumption
theorem r_tand_M {exa : β1 → Bool} {eea : β1 → Ev} {ex : β → Bool} {ee : β → Ev} {ra : PR β1} {r r' : β1 → PR β} (h : RV (dt env) exa eea XI ra) (hb : ∀ v, RV (dt' (eea v)) ex ee XI (r v)) (hf : ∀ v, RV (.ok false (eea v)) ex ee XI (r' v)) : RV (dtAnd dt dt' env) ex ee XI (ra.bind fun v => if exa v = true then r v else r' v) :=
  rv_bind h fun v => by split; exact hb v; exact hf v
theorem r_tor_M {exa : β1 → Bool} {eea : β1 → Ev} {ex : β → Bool} {ee : β → Ev} {ra : PR β1} {r r' : β1 → PR β} (h : RV (dt env) exa eea XI ra) (hb : ∀ v, RV (dt' (eea v)) ex ee XI (r v)) (hf : ∀ v, RV (.ok true (eea v)) ex ee XI (r' v)) : RV (dtOr dt dt' env) ex ee XI (ra.bind fun v => if exa v = true then r' v else r v) :=
  rv_bind h fun v => by split; exact hf v; exact hb v
theorem r_notV {exa : β → X} {ee : β → Ev} {g : β → Bool} {r : PR β} (ha : RV (da env) exa ee XI r) (h : ∀ v, rd (ee v) (exa v) = some (.bl (g v))) : RV (dNotV da env) (fun v => .im (.bl (!(g v)))) ee XI r := by
  have := r_test ha h
  unfold dNotV
  cases r with
  | ok v =>
    have h : dTest da env = _ := this
    show _ = _
    rw [h]; rfl
  | exc x =>
    obtain ⟨e, h, hx⟩ := this
    exact ⟨e, by rw [h]; rfl, hx⟩
  | bad => trivial
theorem r_orV_P {ex : β → X} {ee : β → Ev} {r r' : PR β} (ha : da env = .ok x env) (h : rd env x = some (.bl b)) (hb : RV (db env) ex ee XI r) (hf : RV (.ok (.im (.bl true)) env) ex ee XI r') : RV (dOrV da db env) ex ee XI (if b = true then r' else r) := by
  cases b <;> simp [dOrV, dTest, ha, h, RE.bind] <;> assumption
theorem r_andV_M {exa : β1 → X} {eea : β1 → Ev} {g : β1 → Bool} {ex : β → X} {ee : β → Ev} {ra : PR β1} {r r' : β1 → PR β} (ha : RV (da env) exa eea XI ra) (h : ∀ v, rd (eea v) (exa v) = some (.bl (g v))) (hb : ∀ v, RV (db (eea v)) ex ee XI (r v)) (hf : ∀ v, RV (.ok (.im (.bl false)) (eea v)) ex ee XI (r' v)) : RV (dAndV da db env) ex ee XI (ra.bind fun v => if g v = true then r v else r' v) :=
  rv_bind (r_test ha h) fun v => by split; exact hb v; exact hf v
theorem p_chain {p q : Int → Int → Bool} {i j k : Int} (ha : da env = .ok x env) (hb : db env = .ok y env) (hd : dd env = .ok z env) (hx : rd env x = some (.int i)) (hy : rd env y = some (.int j)) (hz : rd env z = some (.int k)) : dChain p q da db dd env = .ok (.im (.bl (p i j && q j k))) env := by
  cases h : p i j <;> simp [dChain, ha, hb, hd, hx, hy, hz, RE.bind, h]
theorem r_get {e : β → D} {a : Option β} (h : da env = .ok (.im (eOpt e a)) env) : RV (da env) (fun v => .im (e v)) (fun _ => env) XI (PR.opt a) := by
  cases a with
  | none => trivial
  | some v => exact h
theorem r_chain_PMP {p q : Int → Int → Bool} {i k : Int} {z : X} {exb : β1 → X} {g : β1 → Int} {rb : PR β1} {E : Ev} (ha : da env = .ok x env) (hb : RV (db env) exb (fun _ => E) XI rb) (hd : dd E = .ok z E) (hx : rd E x = some (.int i)) (hy : ∀ v, rd E (exb v) = some (.int (g v))) (hz : rd E z = some (.int k)) : RV (dChain p q da db dd env) (fun b => .im (.bl b)) (fun _ => E) XI (rb.bind fun v => .ok (p i (g v) && q (g v) k)) := by
  unfold dChain; rw [ha]; simp only [re_bind_ok]
  refine rv_bind hb fun v => ?_
  simp only [hx, hy v]
  cases h : p i (g v)
  · rfl
  · rw [hd]
    simp only [re_bind_ok, hz]
    rfl
end
end Tn
namespace Tn
open PySem PySem.Spec PyProof.Rows L2 Dn
section
variable {α β β1 β2 β3 γ κ σ : Type} {XI XF : XIf} {env e1 : Ev}
variable {da db dd : Ev → RE X} {dl : Ev → RE (List X)} {x y z : X} {dx dy d : D} {ds : List D} {xs : List X} {m den : Ev → RE X} {ps : Ev}
theorem rv_callN {ex : β → X} {pe E1 : β → Ev} {r : Option β} (hp : passXs env xs = some ps) (hn : (slots xs).Nodup ∧ temps xs ≤ 1) (hf : RV (m ps) ex pe XF (PR.opt r)) (hw : ∀ v, wb xs (pe v) env = E1 v) : RV (callD m xs env) ex E1 XI (PR.opt r) := by
  unfold callD
  simp only [hp]
  rw [if_pos hn]
  cases r with
  | some v =>
    have hf : m ps = _ := hf
    show _ = _
    rw [hf, ← hw v]
  | none => trivial
theorem r_call_P {ex : β → X} {ee : β → Ev} {r : PR β} (ha : dl env = .ok xs env) (h : RV (callD m xs env) ex ee XI r) : RV (dCall m dl env) ex ee XI r := by
  unfold dCall; rw [ha]; exact h
theorem r_call_M {exa : β1 → List X} {eea : β1 → Ev} {ex : β → X} {ee : β → Ev} {ra : PR β1} {r : β1 → PR β} (ha : RV (dl env) exa eea XI ra) (h : ∀ v, RV (callD m (exa v) (eea v)) ex ee XI (r v)) : RV (dCall m dl env) ex ee XI (ra.bind r) := rv_bind ha h
variable {g : X → X → Ev → RE X}
variable {tab : Str → Option (Ev → RE X)} {R : List Str} {c c2 : Str} {fs gs : List (Str × D)} {den2 : Ev → RE X}
theorem rv_makeN {oo : β → OD} {pe E1 : β → Ev} {r : Option β} (hp : passXs env xs = some ps) (hn : (slots xs).Nodup ∧ temps xs = 0) (hf : RV (m (.ow true (.ob c []) :: ps)) (fun _ => .im .non) (fun v => .ow true (oo v) :: pe v) XF (PR.opt r)) (hw : ∀ v, wb xs (pe v) env = E1 v) : RV (makeD c m xs env) (fun v => .ow (oo v)) E1 XI (PR.opt r) := by
  unfold makeD
  simp only [hp]
  rw [if_pos hn]
  cases r with
  | some v =>
    have hf : m _ = _ := hf
    show _ = _
    rw [hf, ← hw v]
  | none => trivial
theorem r_make_M {exa : β1 → List X} {eea : β1 → Ev} {ex : β → X} {ee : β → Ev} {ra : PR β1} {r : β1 → PR β} (ha : RV (dl env) exa eea XI ra) (h : ∀ v, RV (makeD c m (exa v) (eea v)) ex ee XI (r v)) : RV (dMakeF c m dl env) ex ee XI (ra.bind r) := rv_bind ha h
theorem r_arr_MP {n k : Nat} {src : List (Src D)} {dk : Ev → RE (List X)} {exa : β1 → List X} {eea : β1 → Ev} {yf : β1 → List X} {zf : β1 → List X} {r : PR β1} (ha : RV (dl env) exa eea XI r) (hk : ∀ v, dk (eea v) = .ok (yf v) (eea v)) (hn : ∀ v, (exa v).length = n ∧ (yf v).length = k) (h : ∀ v, arr X.im src (exa v ++ yf v) = some (zf v)) : RV (dArr n k src dl dk env) zf eea XI r := by
  unfold dArr
  cases r with
  | ok v =>
    have ha : dl env = _ := ha
    show _ = _
    rw [ha]
    simp only [re_bind_ok]
    rw [hk v]
    simp only [re_bind_ok]
    rw [if_pos (hn v), h v]
  | exc x =>
    obtain ⟨e, ha, hx⟩ := ha
    exact ⟨e, by rw [ha]; rfl, hx⟩
  | bad => trivial
variable {T : List Str} {fn : Str}
theorem p_fld (ha : dd env = .ok x env) (hr : rcvA env x = some (c, fs)) (hc : c ∈ T) (h : fs.lookup fn = some d) : dFldF T fn dd env = .ok (.im d) env := by
  simp [dFldF, ha, hr, hc, h, RE.bind]
variable {i : Nat} {isT : OD → Bool} {fm : OD → List D → Option (D × OD)} {od : OD} {p : Bool}
theorem r_mut_P {exd : β → D} {oo : β → OD} {E1 : β → Ev} {r : Option β} (hs : slotOf env i = some (p, od)) (hT : isT od = true) (ha : dl env = .ok xs env) (hf : frzs xs = some ds) (h : ∀ z, r = some z → fm od ds = some (exd z, oo z)) (he : ∀ z, env.set i (.ow p (oo z)) = E1 z) : RV (dMut i isT fm dl env) (fun z => .im (exd z)) E1 XI (PR.opt r) := by
  unfold dMut
  simp only [hs, Option.map_some, hT, if_true]
  rw [ha]
  simp only [re_bind_ok, hf, Option.bind_some, hs]
  cases r with
  | none => trivial
  | some z =>
    show _ = _
    rw [h z rfl]
    simp [optE, he z]
theorem r_mut_M {exa : β1 → List X} {eea : β1 → Ev} {dsf : β1 → List D} {pf : β1 → Bool} {of : β1 → OD} {ex : β → X} {ee : β → Ev} {ra : PR β1} {r : β1 → PR β} (hs : slotOf env i = some (p, od)) (hT : isT od = true) (ha : RV (dl env) exa eea XI ra) (hf : ∀ v, frzs (exa v) = some (dsf v)) (hs' : ∀ v, slotOf (eea v) i = some (pf v, of v)) (h : ∀ v, RV (optE ((fm (of v) (dsf v)).bind fun r => some (X.im r.1, (eea v).set i (.ow (pf v) r.2)))) ex ee XI (r v)) : RV (dMut i isT fm dl env) ex ee XI (ra.bind r) := by
  unfold dMut
  simp only [hs, Option.map_some, hT, if_true]
  refine rv_bind ha fun v => ?_
  simp only [hf v, Option.bind_some, hs' v]
  exact h v
theorem mc {exd : β → D} {oo : β → OD} {E1 : β → Ev} {r : Option β} (h : ∀ z, r = some z → fm od ds = some (exd z, oo z)) (he : ∀ z, env.set i (.ow p (oo z)) = E1 z) : RV (optE ((fm od ds).bind fun r => some (X.im r.1, env.set i (.ow p r.2)))) (fun z => .im (exd z)) E1 XI (PR.opt r) := by
  cases r with
  | none => trivial
  | some z =>
    show _ = _
    rw [h z rfl]
    simp [optE, he z]
theorem p_iseq {l : List D} {h : Option Nat} (ha : da env = .ok x env) (hx : ofX env x = some (l, h)) : diSeq da env = .ok (l, h) env := by
  simp [diSeq, ha, hx, RE.bind, opt]
theorem r_iseq {exa : β → X} {ee : β → Ev} {l : β → List D} {h : Option Nat} {r : PR β} (ha : RV (da env) exa ee XI r) (hx : ∀ v, ofX (ee v) (exa v) = some (l v, h)) : RV (diSeq da env) (fun v => (l v, h)) ee XI r := by
  unfold diSeq
  cases r with
  | ok v =>
    have ha : da env = _ := ha
    show _ = _
    rw [ha]
    simp only [re_bind_ok, hx v]; rfl
  | exc x =>
    obtain ⟨e, ha, hx⟩ := ha
    exact ⟨e, by rw [ha]; rfl, hx⟩
  | bad => trivial
def en {α : Type} : Nat → List α → List (Int × α)
  | _, [] => []
  | i, x :: xs => ((i : Int), x) :: en (i + 1) xs
theorem enumD_map (e : α → D) : ∀ (n : Nat) (xs : List α), enumD n (xs.map e) = (en n xs).map (eEn e)
  | _, [] => rfl
  | n, x :: xs => by simp [enumD, en, eEn, enumD_map e (n + 1) xs]
theorem p_ienum {e : α → D} {l : List α} {h : Option Nat} (ha : da env = .ok x env) (hx : ofX env x = some (l.map e, h)) (hn : noStr x = true) : diEnum da env = .ok ((en 0 l).map (eEn e), h) env := by
  simp [diEnum, ha, hx, hn, RE.bind, opt, enumD_map]
theorem r_ienum {e : α → D} {exa : β → X} {ee : β → Ev} {l : β → List α} {h : Option Nat} {r : PR β} (ha : RV (da env) exa ee XI r) (hx : ∀ v, ofX (ee v) (exa v) = some ((l v).map e, h)) (hn : ∀ v, noStr (exa v) = true) : RV (diEnum da env) (fun v => ((en 0 (l v)).map (eEn e), h)) ee XI r := by
  unfold diEnum
  cases r with
  | ok v =>
    have ha : da env = _ := ha
    show _ = _
    rw [ha]
    simp [re_bind_ok, hx v, hn v, opt, enumD_map]
  | exc x =>
    obtain ⟨e, ha, hx⟩ := ha
    exact ⟨e, by rw [ha]; rfl, hx⟩
  | bad => trivial
def rng (lo : Int) (n : Nat) : List Int := (List.range n).map fun i : Nat => lo + (i : Int)
theorem rng_map (lo : Int) (n : Nat) : rgD lo n = (rng lo n).map D.int := by simp [rgD, rng]
def rg1 (j : Int) : Option (List Int) := if rgOk j = true then some (rng 0 j.toNat) else none
theorem r_r1_P {j : Int} (ha : dl env = .ok xs env) (hx : rds env xs = some [.int j]) : RV (diR1 dl env) (fun l => (l.map D.int, none)) (fun _ => env) XI (PR.opt (rg1 j)) := by
  unfold diR1 rg1
  rw [ha]
  simp only [re_bind_ok, hx]
  by_cases h : rgOk j = true
  · rw [if_pos h, if_pos h]
    show _ = _
    rw [rng_map]
  · rw [if_neg h, if_neg h]; trivial
theorem r1c {j : Int} (hx : rds env xs = some [.int j]) : RV (match rds env xs with
  | some [.int j] => if rgOk j = true then .ok (rgD 0 j.toNat, none) env else .bad
  | _ => .bad : RE Dn.Its) (fun l => (l.map D.int, none)) (fun _ => env) XI (PR.opt (rg1 j)) := by
  rw [hx]
  unfold rg1
  by_cases h : rgOk j = true
  · simp only [h, if_true]
    show _ = _
    rw [rng_map]
  · rw [if_neg h]; trivial
theorem r_r1_M {exa : β1 → List X} {eea : β1 → Ev} {j : β1 → Int} {ra : PR β1} {s : β1 → σ} {E : σ → Ev} (ha : RV (dl env) exa eea XI ra) (hx : ∀ v, rds (eea v) (exa v) = some [.int (j v)]) (hE : ∀ v, eea v = E (s v)) : RV (diR1 dl env) (fun p : List Int × σ => (p.1.map D.int, none)) (fun p => E p.2) XI (ra.bind fun v => (PR.opt (rg1 (j v))).bind fun l => .ok (l, s v)) :=
  rv_bind ha fun v => by
    have h := r1c (XI := XI) (hx v)
    rw [hE v] at h ⊢
    exact wE h
theorem r_r1_M0 {exa : β1 → List X} {E : Ev} {j : β1 → Int} {ra : PR β1} (ha : RV (dl env) exa (fun _ => E) XI ra) (hx : ∀ v, rds E (exa v) = some [.int (j v)]) : RV (diR1 dl env) (fun l : List Int => (l.map D.int, none)) (fun _ => E) XI (ra.bind fun v => PR.opt (rg1 (j v))) :=
  rv_bind ha fun v => r1c (XI := XI) (hx v)
theorem p_iks {l : List D} (ha : dd env = .ok (.im d) env) (h : D.ks d = some l) : diKs dd env = .ok (l, none) env := by
  simp [diKs, ha, h, RE.bind, opt]
theorem ks_dt {κ β : Type} (k : KT κ) (e : β → D) (m : List (κ × β)) : D.ks (eDt k e m) = some ((m.map (·.1)).map k.ky) := by
  have h : ∀ x, D.tup ((k.k x).map Key.toD) = k.ky x := k.hd
  unfold eDt D.ks rKT
  simp only [List.map_map]
  congr 1
  apply List.map_congr_left
  intro p _
  exact h p.1
def lcP {α β : Type} (t : α → Option Bool) (f : α → Option β) : List α → Nat → Option (List β)
  | [], _ => some []
  | x :: xs, n => match t x with
    | some true => (match f x with
      | some y => if fit (n + 1) = true then (lcP t f xs (n + 1)).map (y :: ·) else none
      | none => none)
    | some false => lcP t f xs n
    | none => none
def lcS {α β σ : Type} (t : α → σ → Option Bool) (f : α → σ → Option (β × σ)) : List α → σ → Nat → Option (List β × σ)
  | [], s, _ => some ([], s)
  | x :: xs, s, n => match t x s with
    | some true => (match f x s with
      | some y => if fit (n + 1) = true then (lcS t f xs y.2 (n + 1)).map (fun r => (y.1 :: r.1, r.2)) else none
      | none => none)
    | some false => lcS t f xs s n
    | none => none
variable {dg : D → Ev → Option Ev} {dt : Ev → RE Bool} {de : Ev → RE X} {vs : List Nat} {di : Ev → RE Dn.Its}
theorem lcGo_S {e : α → D} {e' : β → D} {B : σ → Ev} {Bx : α → σ → Ev} {ex : β → X} {t : α → σ → Option Bool} {f : α → σ → Option (β × σ)} (hg : ∀ x s, dg (e x) (B s) = some (Bx x s)) (ht : ∀ x s, RV (dt (Bx x s)) (fun b => b) (fun _ => Bx x s) XI (PR.opt (t x s))) (he : ∀ x s, RV (de (Bx x s)) (fun v => ex v.1) (fun v => Bx x v.2) XI (PR.opt (f x s))) (hz : ∀ y, frz (ex y) = some (e' y)) (hw : ∀ x s, wipeE (Bx x s) vs = B s) :
    ∀ (xs : List α) (s : σ) (acc : List D) (r : List β × σ), lcS t f xs s acc.length = some r → lcGo dg dt de vs (xs.map e) (B s) acc = .ok (acc ++ r.1.map e') (B r.2)
  | [], s, acc, r, h => by
    cases h
    simp [lcGo]
  | x :: xs, s, acc, r, h => by
    have h1 := ht x s
    have h2 := he x s
    unfold lcS at h
    cases htx : t x s with
    | none => rw [htx] at h; cases h
    | some b =>
      rw [htx] at h h1
      have h1 : dt (Bx x s) = .ok b (Bx x s) := h1
      cases b with
      | false =>
        simp only at h
        have ih := lcGo_S hg ht he hz hw xs s acc r h
        simp only [List.map_cons, lcGo, hg, h1, hw, ih]
      | true =>
        simp only at h
        cases hf : f x s with
        | none => rw [hf] at h; cases h
        | some y =>
          rw [hf] at h h2
          have h2 : de (Bx x s) = .ok (ex y.1) (Bx x y.2) := h2
          simp only at h
          by_cases hfit : fit (acc.length + 1) = true
          · rw [if_pos hfit] at h
            obtain ⟨r', hr', rfl⟩ := Option.map_eq_some_iff.mp h
            have ih := lcGo_S hg ht he hz hw xs y.2 (acc ++ [e' y.1]) r' (by simpa using hr')
            simp only [List.map_cons, lcGo, hg, h1, h2, hz, hfit, if_true, hw, ih]
            simp
          · rw [if_neg hfit] at h; cases h
theorem lcGo_P {e : α → D} {e' : β → D} {B : Ev} {Bx : α → Ev} {ex : β → X} {t : α → Option Bool} {f : α → Option β} (hg : ∀ x, dg (e x) B = some (Bx x)) (ht : ∀ x, RV (dt (Bx x)) (fun b => b) (fun _ => Bx x) XI (PR.opt (t x))) (he : ∀ x, RV (de (Bx x)) ex (fun _ => Bx x) XI (PR.opt (f x))) (hz : ∀ y, frz (ex y) = some (e' y)) (hw : ∀ x, wipeE (Bx x) vs = B) :
    ∀ (xs : List α) (acc : List D) (r : List β), lcP t f xs acc.length = some r → lcGo dg dt de vs (xs.map e) B acc = .ok (acc ++ r.map e') B
  | [], acc, r, h => by
    cases h
    simp [lcGo]
  | x :: xs, acc, r, h => by
    have h1 := ht x
    have h2 := he x
    unfold lcP at h
    cases htx : t x with
    | none => rw [htx] at h; cases h
    | some b =>
      rw [htx] at h h1
      have h1 : dt (Bx x) = .ok b (Bx x) := h1
      cases b with
      | false =>
        simp only at h
        have ih := lcGo_P hg ht he hz hw xs acc r h
        simp only [List.map_cons, lcGo, hg, h1, hw, ih]
      | true =>
        simp only at h
        cases hf : f x with
        | none => rw [hf] at h; cases h
        | some y =>
          rw [hf] at h h2
          have h2 : de (Bx x) = .ok (ex y) (Bx x) := h2
          simp only at h
          by_cases hfit : fit (acc.length + 1) = true
          · rw [if_pos hfit] at h
            obtain ⟨r', hr', rfl⟩ := Option.map_eq_some_iff.mp h
            have ih := lcGo_P hg ht he hz hw xs (acc ++ [e' y]) r' (by simpa using hr')
            simp only [List.map_cons, lcGo, hg, h1, h2, hz, hfit, if_true, hw, ih]
            simp
          · rw [if_neg hfit] at h; cases h
abbrev lcR (di : Ev → RE Dn.Its) (dg : D → Ev → Option Ev) (dt : Ev → RE Bool) (de : Ev → RE X) (vs : List Nat) (l : List D) (h : Option Nat) (E : Ev) : RE X := if vs.all (freeSl (hideE h E)) = true then lcEnd h E vs (lcGo dg dt de vs l (wipeE (hideE h E) vs) []) else .bad
theorem r_lc_P {l : List D} {h : Option Nat} {ex : β → X} {ee : β → Ev} {r : PR β} (hi : di env = .ok (l, h) env) (hk : RV (lcR di dg dt de vs l h env) ex ee XI r) : RV (dLc di dg dt de vs env) ex ee XI r := by
  unfold dLc; rw [hi]; exact hk
theorem r_lc_M {l : β1 → List D} {h : Option Nat} {eea : β1 → Ev} {ex : β → X} {ee : β → Ev} {ra : PR β1} {r : β1 → PR β} (hi : RV (di env) (fun v => (l v, h)) eea XI ra) (hk : ∀ v, RV (lcR di dg dt de vs (l v) h (eea v)) ex ee XI (r v)) : RV (dLc di dg dt de vs env) ex ee XI (ra.bind r) := rv_bind hi hk
theorem lce {h : Option Nat} {e : α → D} {e' : β → D} {B E : Ev} {Bx : α → Ev} {ex : β → X} {t : α → Option Bool} {f : α → Option β} {l : List α} (hB : wipeE (hideE h E) vs = B) (hf : vs.all (freeSl (hideE h E)) = true) (hg : ∀ x, dg (e x) B = some (Bx x)) (ht : ∀ x, RV (dt (Bx x)) (fun b => b) (fun _ => Bx x) XF (PR.opt (t x))) (he : ∀ x, RV (de (Bx x)) ex (fun _ => Bx x) XF (PR.opt (f x))) (hz : ∀ y, frz (ex y) = some (e' y)) (hw : ∀ x, wipeE (Bx x) vs = B) (hend : unhid h E (restE (hideE h E) B vs) = E) : RV (lcR di dg dt de vs (l.map e) h E) (fun r => .ow (.lst (r.map e'))) (fun _ => E) XI (PR.opt (lcP t f l 0)) := by
  unfold lcR
  rw [if_pos hf, hB]
  cases hr : lcP t f l 0 with
  | none => trivial
  | some r =>
    show _ = _
    rw [lcGo_P hg ht he hz hw l [] r hr]
    simp [lcEnd, hend]
theorem lceS {h : Option Nat} {e : α → D} {e' : β → D} {B E1 : σ → Ev} {E : Ev} {Bx : α → σ → Ev} {ex : β → X} {t : α → σ → Option Bool} {f : α → σ → Option (β × σ)} {l : List α} {s0 : σ} (hB : wipeE (hideE h E) vs = B s0) (hf : vs.all (freeSl (hideE h E)) = true) (hg : ∀ x s, dg (e x) (B s) = some (Bx x s)) (ht : ∀ x s, RV (dt (Bx x s)) (fun b => b) (fun _ => Bx x s) XF (PR.opt (t x s))) (he : ∀ x s, RV (de (Bx x s)) (fun v => ex v.1) (fun v => Bx x v.2) XF (PR.opt (f x s))) (hz : ∀ y, frz (ex y) = some (e' y)) (hw : ∀ x s, wipeE (Bx x s) vs = B s) (hend : ∀ s, unhid h E (restE (hideE h E) (B s) vs) = E1 s) : RV (lcR di dg dt de vs (l.map e) h E) (fun r : List β × σ => .ow (.lst (r.1.map e'))) (fun r => E1 r.2) XI (PR.opt (lcS t f l s0 0)) := by
  unfold lcR
  rw [if_pos hf, hB]
  cases hr : lcS t f l s0 0 with
  | none => trivial
  | some r =>
    show _ = _
    rw [lcGo_S hg ht he hz hw l s0 [] r hr]
    simp [lcEnd, hend]
end
end Tn
namespace Tn
open PySem PySem.Spec PyProof.Rows L2 Dn
inductive Out (ρ σ : Type) where
  | nx (s : σ) | rt (r : ρ) | bk (s : σ)
section
variable {α β β1 β2 γ σ ρ : Type} {XI XF : XIf} {env e1 E1 : Ev} {Φ : β → RS → Prop}
variable {de da : Ev → RE X} {x : X} {ds dr a b c : Ev → RS} {i : Nat}
theorem rs_stm {re : RE γ} {ex : β1 → γ} {ee : β1 → Ev} {k : γ → Ev → RS} {r : PR β1} {rk : β1 → PR β} (h : RV re ex ee XI r) (hk : ∀ v, RS' (k (ex v) (ee v)) Φ XI (rk v)) : RS' (re.stm k) Φ XI (r.bind rk) := by
  cases r with
  | ok v =>
    have h : re = _ := h
    subst h
    exact hk v
  | exc x =>
    obtain ⟨e, h, hx⟩ := h
    subst h
    exact ⟨e, rfl, hx⟩
  | bad => trivial
abbrev ΦN (J : σ → Ev) : σ → RS → Prop := fun s rs => rs = .nx (J s)
def ΦO (J : σ → Ev) (RT : ρ → X → Ev → Prop) (o : Out ρ σ) (rs : RS) : Prop := match o with
  | .nx s => rs = .nx (J s) ∨ rs = .ct (J s)
  | .rt v => ∃ x e, rs = .rt x e ∧ RT v x e
  | .bk s => rs = .bk (J s)
theorem po_nx {J : σ → Ev} {RT : ρ → X → Ev → Prop} {s : σ} {rs : RS} (h : rs = .nx (J s)) : ΦO J RT (.nx s) rs := .inl h
theorem po_rt {J : σ → Ev} {RT : ρ → X → Ev → Prop} {v : ρ} {x : X} {e : Ev} {rs : RS} (h : rs = .rt x e) (h' : RT v x e) : ΦO J RT (.rt v) rs := ⟨x, e, h, h'⟩
theorem seq_assoc : dSeq (dSeq a b) c env = dSeq a (dSeq b c) env := by
  unfold dSeq
  cases h : a env <;> simp [RS.seq, h]
theorem s_assoc {r : PR β} (h : RS' (dSeq a (dSeq b c) env) Φ XI r) : RS' (dSeq (dSeq a b) c env) Φ XI r := by rw [seq_assoc]; exact h
theorem s_skip {r : PR β} (h : RS' (c env) Φ XI r) : RS' (dSeq dNext c env) Φ XI r := h
theorem s_last {r : PR β} (h : RS' (dSeq a dNext env) Φ XI r) : RS' (a env) Φ XI r := by
  have e : dSeq a dNext env = a env := by
    unfold dSeq
    cases h : a env <;> simp [RS.seq, dNext]
  rw [← e]; exact h
theorem s_end {v : β} (h : Φ v (.nx env)) : RS' (dNext env) Φ XI (.ok v) := h
theorem s_cutRet {r : PR β} (h : RS' (dRet de env) Φ XI r) : RS' (dSeq (dRet de) c env) Φ XI r := by
  have e : dSeq (dRet de) c env = dRet de env := by
    unfold dSeq dRet
    cases h : de env <;> simp [RS.seq, RE.stm]
  rw [e]; exact h
theorem s_cutIf {dt : Ev → RE Bool} {r : PR β} (h : RS' (dIfS dt (dSeq a c) (dSeq b c) env) Φ XI r) : RS' (dSeq (dIfS dt a b) c env) Φ XI r := by
  have e : dSeq (dIfS dt a b) c env = dIfS dt (dSeq a c) (dSeq b c) env := by
    unfold dSeq dIfS
    cases h : dt env with
    | ok q e => cases q <;> rfl
    | exc x e => rfl
    | bad => rfl
  rw [e]; exact h
theorem s_join {J : σ → Ev} {r : PR σ} {rc : σ → PR β} (h : RS' (a env) (ΦN J) XI r) (hc : ∀ s, RS' (c (J s)) Φ XI (rc s)) : RS' (dSeq a c env) Φ XI (r.bind rc) := by
  unfold dSeq
  cases r with
  | ok v =>
    have h : a env = _ := h
    rw [h]
    exact hc v
  | exc x =>
    obtain ⟨e, h, hx⟩ := h
    exact ⟨e, by rw [h]; rfl, hx⟩
  | bad => trivial
def thenO (r : PR (Out ρ σ)) (rc : σ → PR β) (inj : ρ → β) : PR β := r.bind fun o => match o with
  | .nx s => rc s
  | .bk s => rc s
  | .rt v => .ok (inj v)
@[simp] theorem thenO_nx (s : σ) (rc : σ → PR β) (inj : ρ → β) : thenO (.ok (.nx s)) rc inj = rc s := rfl
@[simp] theorem thenO_rt (v : ρ) (rc : σ → PR β) (inj : ρ → β) : thenO (.ok (.rt v)) rc inj = .ok (inj v) := rfl
@[simp] theorem thenO_exc (e : Xn) (rc : σ → PR β) (inj : ρ → β) : thenO (.exc e) rc inj = .exc e := rfl
def ΦF (J : σ → Ev) (RT : ρ → X → Ev → Prop) (o : Out ρ σ) (rs : RS) : Prop := match o with
  | .nx s => rs = .nx (J s)
  | .rt v => ∃ x e, rs = .rt x e ∧ RT v x e
  | .bk _ => False
theorem s_joinO {J : σ → Ev} {RT : ρ → X → Ev → Prop} {r : PR (Out ρ σ)} {rc : σ → PR β} {inj : ρ → β} (h : RS' (a env) (ΦF J RT) XI r) (hc : ∀ s, RS' (c (J s)) Φ XI (rc s)) (hr : ∀ v x e, RT v x e → Φ (inj v) (.rt x e)) : RS' (dSeq a c env) Φ XI (thenO r rc inj) := by
  unfold dSeq thenO
  cases r with
  | ok v =>
    cases v with
    | nx s =>
      have h : a env = _ := h
      rw [h]
      exact hc s
    | rt v =>
      obtain ⟨x, e, h, h2⟩ := h
      rw [h]
      exact hr v x e h2
    | bk s => exact h.elim
  | exc x =>
    obtain ⟨e, h, hx⟩ := h
    exact ⟨e, by rw [h]; rfl, hx⟩
  | bad => trivial
theorem s_wp {is : List Nat} {r : PR β} (h : RS' (ds env) (fun v rs => Φ v (rs.wp is)) XI r) : RS' (dWp is ds env) Φ XI r := by
  unfold dWp
  cases r with
  | ok v => exact h
  | exc x =>
    obtain ⟨e, h, hx⟩ := h
    exact ⟨e, by rw [h]; rfl, hx⟩
  | bad => trivial
theorem s_asg {ex : β1 → X} {ee E1 : β1 → Ev} {re : PR β1} {rr : β1 → PR β} (h : RV (de env) ex ee XI re) (hs : ∀ v, setSl i (ex v) (ee v) = some (E1 v)) (hr : ∀ v, RS' (ds (E1 v)) Φ XI (rr v)) : RS' (dSeq (dAsg i de) ds env) Φ XI (re.bind rr) := by
  unfold dSeq dAsg
  cases re with
  | ok v =>
    have h : de env = _ := h
    rw [h]
    simp only [RE.stm, hs v, optS, RS.seq]
    exact hr v
  | exc x =>
    obtain ⟨e, h, hx⟩ := h
    exact ⟨e, by rw [h]; rfl, hx⟩
  | bad => trivial
theorem s_asgP {r : PR β} (h : de env = .ok x env) (hs : setSl i x env = some E1) (hr : RS' (ds E1) Φ XI r) : RS' (dSeq (dAsg i de) ds env) Φ XI r := by
  unfold dSeq dAsg
  rw [h]
  simp only [RE.stm, hs, optS, RS.seq]
  exact hr
theorem s_asgG {dg : D → Ev → Option Ev} {ex : β1 → X} {ee E1 : β1 → Ev} {df : β1 → D} {re : PR β1} {rr : β1 → PR β} (h : RV (de env) ex ee XI re) (hz : ∀ v, frz (ex v) = some (df v)) (hs : ∀ v, dg (df v) (ee v) = some (E1 v)) (hr : ∀ v, RS' (ds (E1 v)) Φ XI (rr v)) : RS' (dSeq (dAsgG dg de) ds env) Φ XI (re.bind rr) := by
  unfold dSeq dAsgG
  cases re with
  | ok v =>
    have h : de env = _ := h
    rw [h]
    simp only [RE.stm, hz v, Option.bind_some, hs v, optS, RS.seq]
    exact hr v
  | exc x =>
    obtain ⟨e, h, hx⟩ := h
    exact ⟨e, by rw [h]; rfl, hx⟩
  | bad => trivial
theorem s_drop {ex : β1 → X} {ee : β1 → Ev} {re : PR β1} {rr : β1 → PR β} (h : RV (de env) ex ee XI re) (hr : ∀ v, RS' (ds (ee v)) Φ XI (rr v)) : RS' (dSeq (dDrop de) ds env) Φ XI (re.bind rr) := by
  unfold dSeq dDrop
  cases re with
  | ok v =>
    have h : de env = _ := h
    rw [h]
    exact hr v
  | exc x =>
    obtain ⟨e, h, hx⟩ := h
    exact ⟨e, by rw [h]; rfl, hx⟩
  | bad => trivial
theorem s_ret {ex : β1 → X} {ee : β1 → Ev} {r : PR β1} {f : β1 → β} (h : RV (de env) ex ee XI r) (hp : ∀ v, Φ (f v) (.rt (ex v) (ee v))) : RS' (dRet de env) Φ XI (r.bind fun v => .ok (f v)) := rs_stm h hp
theorem s_ret1 {ex : β → X} {ee : β → Ev} {r : PR β} (h : RV (de env) ex ee XI r) (hp : ∀ v, Φ v (.rt (ex v) (ee v))) : RS' (dRet de env) Φ XI r := by
  have := s_ret (Φ := Φ) (f := fun v : β => v) h hp
  cases r <;> exact this
theorem s_retP {v : β} (h : de env = .ok x env) (hp : Φ v (.rt x env)) : RS' (dRet de env) Φ XI (.ok v) := by
  unfold dRet
  rw [h]
  exact hp
variable {dt : Ev → RE Bool} {q : Bool}
theorem s_ifP {r r' : PR β} (h : dt env = .ok q env) (ha : RS' (a env) Φ XI r) (hb : RS' (b env) Φ XI r') : RS' (dIfS dt a b env) Φ XI (if q = true then r else r') := by
  unfold dIfS
  rw [h]
  cases q <;> simp only [RE.stm] <;> assumption
theorem s_ifM {g : β1 → Bool} {ee : β1 → Ev} {rt : PR β1} {r r' : β1 → PR β} (h : RV (dt env) g ee XI rt) (ha : ∀ v, RS' (a (ee v)) Φ XI (r v)) (hb : ∀ v, RS' (b (ee v)) Φ XI (r' v)) : RS' (dIfS dt a b env) Φ XI (rt.bind fun v => if g v = true then r v else r' v) :=
  rs_stm h fun v => by
    split
    · exact ha v
    · exact hb v
theorem s_fz {is : List Nat} {r : PR β} (h : fzAll is env = some E1) (hr : RS' (dSeq a c E1) Φ XI r) : RS' (dSeq (dFz is a) c env) Φ XI r := by
  unfold dSeq dFz
  rw [h]
  exact hr
def setP {α : Type} (xs : List α) (k : Int) (v : α) : Option (List α) := (ixN xs.length k).map fun j => xs.set j v
theorem s_setIM {p : Bool} {e : α → D} {xs : β1 → List α} {v : β1 → α} {k : β1 → Int} {ex : β1 → X} {ee : β1 → Ev} {zf : β1 → X} {dk : Ev → RE X} {E1 : β1 → List α → Ev} {re : PR β1} {rr : β1 → List α → PR β} (h0 : (slotOf env i).isSome = true) (h1 : RV (de env) ex ee XI re) (h2 : ∀ u, dk (ee u) = .ok (zf u) (ee u)) (hz : ∀ u, frzs [ex u, zf u] = some [e (v u), .int (k u)]) (hs : ∀ u, slotOf (ee u) i = some (p, oLst e (xs u))) (he : ∀ u l, (ee u).set i (.ow p (oLst e l)) = E1 u l) (hr : ∀ u l, RS' (ds (E1 u l)) Φ XI (rr u l)) : RS' (dSeq (dSetI i de dk) ds env) Φ XI (re.bind fun u => (PR.opt (setP (xs u) (k u) (v u))).bind (rr u)) := by
  unfold dSeq dSetI
  rw [if_pos h0]
  cases re with
  | ok u =>
    have h1 : de env = _ := h1
    rw [h1]
    simp only [RE.stm]
    rw [h2]
    simp only [hz, Option.bind_some, hs, PR.bind_ok]
    unfold setP
    simp only [setI, oLst, List.length_map]
    cases hx : ixN (xs u).length (k u) with
    | none => trivial
    | some j =>
      simp only [Option.map_some, optS, RS.seq, PR.opt_some, PR.bind_ok]
      have := he u ((xs u).set j (v u))
      simp only [oLst, List.map_set] at this
      rw [this]
      exact hr _ _
  | exc x =>
    obtain ⟨e, h, hx⟩ := h1
    exact ⟨e, by rw [h]; rfl, hx⟩
  | bad => trivial
def putP {κ β : Type} [DecidableEq κ] (m : List (κ × β)) (k : κ) (v : β) : Option (List (κ × β)) := if fit (putA m k v).length = true then some (putA m k v) else none
theorem s_setDT {κ δ : Type} [DecidableEq κ] {p : Bool} {kt : KT κ} {e : δ → D} {m : List (κ × δ)} {k : β1 → κ} {v : β1 → δ} {ex : β1 → X} {ee : β1 → Ev} {zf : β1 → X} {dk : Ev → RE X} {E1 : β1 → List (κ × δ) → Ev} {re : PR β1} {rr : β1 → List (κ × δ) → PR β} (h0 : (slotOf env i).isSome = true) (h1 : RV (de env) ex ee XI re) (h2 : ∀ u, dk (ee u) = .ok (zf u) (ee u)) (hz : ∀ u, frzs [ex u, zf u] = some [e (v u), kt.ky (k u)]) (hs : ∀ u, slotOf (ee u) i = some (p, oDt kt e m)) (he : ∀ u l, (ee u).set i (.ow p (oDt kt e l)) = E1 u l) (hr : ∀ u l, RS' (ds (E1 u l)) Φ XI (rr u l)) : RS' (dSeq (dSetD i de dk) ds env) Φ XI (re.bind fun u => (PR.opt (putP m (k u) (v u))).bind (rr u)) := by
  unfold dSeq dSetD
  rw [if_pos h0]
  cases re with
  | ok u =>
    have h1 : de env = _ := h1
    rw [h1]
    simp only [RE.stm]
    rw [h2]
    simp only [hz, Option.bind_some, hs, PR.bind_ok]
    simp only [setD, oDt, kt.hk, Option.bind_some]
    have e1 : putKD (rKT kt e m) (kt.k (k u)) (e (v u)) = rKT kt e (putA m (k u) (v u)) := put_map kt.k kt.inj e (k u) (v u) m
    unfold putP
    rw [e1]
    have e2 : (rKT kt e (putA m (k u) (v u))).length = (putA m (k u) (v u)).length := by simp [rKT]
    rw [e2]
    by_cases hf : fit (putA m (k u) (v u)).length = true
    · rw [if_pos hf, if_pos hf]
      simp only [Option.map_some, optS, RS.seq, PR.opt_some, PR.bind_ok]
      have := he u (putA m (k u) (v u))
      simp only [oDt] at this
      rw [this]
      exact hr _ _
    · rw [if_neg hf, if_neg hf]; trivial
  | exc x =>
    obtain ⟨e, h, hx⟩ := h1
    exact ⟨e, by rw [h]; rfl, hx⟩
  | bad => trivial
theorem s_setF {T : List Str} {fn c : Str} {ex : β1 → X} {ee E1 : β1 → Ev} {df : β1 → D} {p : Bool} {fs fs' : β1 → List (Str × D)} {re : PR β1} {rr : β1 → PR β} (h : RV (de env) ex ee XI re) (hz : ∀ v, frz (ex v) = some (df v)) (hs : ∀ v, (ee v)[i]? = some (.ow p (.ob c (fs v)))) (hc : c ∈ T) (hl : ∀ v, decide ((fs v).length < 900) = true) (hp : ∀ v, putFD fn (df v) (fs v) = fs' v) (he : ∀ v, (ee v).set i (.ow p (.ob c (fs' v))) = E1 v) (hr : ∀ v, RS' (ds (E1 v)) Φ XI (rr v)) : RS' (dSeq (dSetF T i fn de) ds env) Φ XI (re.bind rr) := by
  unfold dSeq dSetF
  cases re with
  | ok v =>
    have h : de env = _ := h
    rw [h]
    simp only [RE.stm, hz v, hs v]
    rw [if_pos ⟨hc, of_decide_eq_true (hl v)⟩, hp v, he v]
    exact hr v
  | exc x =>
    obtain ⟨e, h, hx⟩ := h
    exact ⟨e, by rw [h]; rfl, hx⟩
  | bad => trivial
def foldP {α σ : Type} (f : α → σ → PR σ) : List α → σ → PR σ
  | [], s => .ok s
  | x :: xs, s => (f x s).bind (foldP f xs)
def forO {α σ ρ : Type} (f : α → σ → PR (Out ρ σ)) : List α → σ → PR (Out ρ σ)
  | [], s => .ok (.nx s)
  | x :: xs, s => (f x s).bind fun o => match o with
    | .nx s => forO f xs s
    | .rt r => .ok (.rt r)
    | .bk s => .ok (.nx s)
abbrev unE (h : Option Nat) (E e : Ev) : Ev := match h with
  | none => e
  | some j => e.set j (E.getD j .no)
variable {dg : D → Ev → Option Ev} {db : Ev → RS} {di : Ev → RE Dn.Its} {l : List α} {e : α → D} {L : σ → Ev} {G : α → σ → Ev} {h : Option Nat} {E : Ev}
theorem unh_nx (h : Option Nat) (E e : Ev) : unhide h E (.nx e) = .nx (unE h E e) := by cases h <;> rfl
theorem unh_rt (h : Option Nat) (E e : Ev) (x : X) : unhide h E (.rt x e) = .rt x (unE h E e) := by cases h <;> rfl
theorem unh_exc (h : Option Nat) (E e : Ev) (x : Xn) : unhide h E (.exc x e) = .exc x (unE h E e) := by cases h <;> rfl
theorem fold_ok {f : α → σ → PR σ} {XB : XIf} (hg : ∀ x s, dg (e x) (L s) = some (G x s)) (hb : ∀ x s, RS' (db (G x s)) (ΦN L) XB (f x s)) : ∀ (xs : List α) (s : σ), RS' (forGo dg db (xs.map e) (L s)) (ΦN L) XB (foldP f xs s)
  | [], s => rfl
  | x :: xs, s => by
    have h1 := hb x s
    simp only [List.map_cons, forGo, hg]
    unfold foldP
    cases hr : f x s with
    | ok v =>
      rw [hr] at h1
      have h1 : db _ = _ := h1
      rw [h1]
      exact fold_ok hg hb xs v
    | exc x =>
      rw [hr] at h1
      obtain ⟨e, h1, hx⟩ := h1
      exact ⟨e, by rw [h1], hx⟩
    | bad => trivial
theorem forO_ok {f : α → σ → PR (Out ρ σ)} {XB : XIf} {RT : ρ → X → Ev → Prop} (hg : ∀ x s, dg (e x) (L s) = some (G x s)) (hb : ∀ x s, RS' (db (G x s)) (ΦO L RT) XB (f x s)) : ∀ (xs : List α) (s : σ), RS' (forGo dg db (xs.map e) (L s)) (ΦF L RT) XB (forO f xs s)
  | [], s => rfl
  | x :: xs, s => by
    have h1 := hb x s
    simp only [List.map_cons, forGo, hg]
    unfold forO
    cases hr : f x s with
    | ok v =>
      rw [hr] at h1
      cases v with
      | nx v =>
        have h1 : db _ = _ ∨ db _ = _ := h1
        rcases h1 with h1 | h1 <;> rw [h1] <;> exact forO_ok hg hb xs v
      | rt v =>
        obtain ⟨y, e, h1, h2⟩ := h1
        rw [h1]
        exact ⟨y, e, rfl, h2⟩
      | bk s =>
        have h1 : db _ = _ := h1
        rw [h1]
        rfl
    | exc x =>
      rw [hr] at h1
      obtain ⟨e, h1, hx⟩ := h1
      exact ⟨e, by rw [h1], hx⟩
    | bad => trivial
abbrev forR (dg : D → Ev → Option Ev) (db : Ev → RS) (l : List D) (h : Option Nat) (E : Ev) : RS := unhide h E (forGo dg db l (hideE h E))
theorem s_for_P {ld : List D} {r : PR β} (hi : di env = .ok (ld, h) env) (hk : RS' (forR dg db ld h env) Φ XI r) : RS' (dFor di dg db env) Φ XI r := by
  unfold dFor; rw [hi]; exact hk
theorem s_for_M {ld : β1 → List D} {eea : β1 → Ev} {ra : PR β1} {r : β1 → PR β} (hi : RV (di env) (fun v => (ld v, h)) eea XI ra) (hk : ∀ v, RS' (forR dg db (ld v) h (eea v)) Φ XI (r v)) : RS' (dFor di dg db env) Φ XI (ra.bind r) := rs_stm hi hk
theorem fore {f : α → σ → PR σ} {J : σ → Ev} {s0 : σ} (h0 : hideE h E = L s0) (hg : ∀ x s, dg (e x) (L s) = some (G x s)) (hb : ∀ x s, RS' (db (G x s)) (ΦN L) (fun x e => XI x (unE h E e)) (f x s)) (hout : ∀ s, unE h E (L s) = J s) : RS' (forR dg db (l.map e) h E) (ΦN J) XI (foldP f l s0) := by
  unfold forR
  rw [h0]
  have := fold_ok hg hb l s0
  cases hr : foldP f l s0 with
  | ok v =>
    rw [hr] at this
    have this : forGo _ _ _ _ = _ := this
    show _ = _
    rw [this, unh_nx, hout]
  | exc x =>
    rw [hr] at this
    obtain ⟨e, this, hx⟩ := this
    exact ⟨_, by rw [this, unh_exc], hx⟩
  | bad => trivial
theorem foreO {f : α → σ → PR (Out ρ σ)} {J : σ → Ev} {RT : ρ → X → Ev → Prop} {s0 : σ} (h0 : hideE h E = L s0) (hg : ∀ x s, dg (e x) (L s) = some (G x s)) (hb : ∀ x s, RS' (db (G x s)) (ΦO L fun v x e => RT v x (unE h E e)) (fun x e => XI x (unE h E e)) (f x s)) (hout : ∀ s, unE h E (L s) = J s) : RS' (forR dg db (l.map e) h E) (ΦF J RT) XI (forO f l s0) := by
  unfold forR
  rw [h0]
  have := forO_ok hg hb l s0
  cases hr : forO f l s0 with
  | ok v =>
    rw [hr] at this
    cases v with
    | nx v =>
      have this : forGo _ _ _ _ = _ := this
      show _ = _
      rw [this, unh_nx, hout]
    | rt v =>
      obtain ⟨x, e, this, h2⟩ := this
      exact ⟨x, _, by rw [this, unh_rt], h2⟩
    | bk v => exact this
  | exc x =>
    rw [hr] at this
    obtain ⟨e, this, hx⟩ := this
    exact ⟨_, by rw [this, unh_exc], hx⟩
  | bad => trivial
abbrev ΦT (n : Nat) (ps : Ev) (ex : β → X) (pe : β → Ev) : β → RS → Prop := fun v rs => finR n ps rs = .ok (ex v) (pe v)
theorem f_mk {N n : Nat} {ps : Ev} {ex : β → X} {pe : β → Ev} {r : PR β} (h0 : ps.length = n ∧ n ≤ N ∧ ps.all Sl.par = true) (he : ps ++ List.replicate (N - n) .no = env) (h : RS' (ds env) (ΦT n ps ex pe) (fun x e => XF x (backP ps e)) r) : RV (fnM N n ds ps) ex pe XF r := by
  unfold fnM
  rw [if_pos h0, he]
  cases r with
  | ok v => exact h
  | exc x =>
    obtain ⟨e, h, hx⟩ := h
    exact ⟨_, by rw [h]; rfl, hx⟩
  | bad => trivial
theorem f_mkN {N n : Nat} {ps : Ev} {ex : β → X} {pe : β → Ev} {r : PR β} (h0 : ps.length = n ∧ n ≤ N ∧ ps.all Sl.par = true) (he : ps ++ List.replicate (N - n) .no = env) (h : RS' (ds env) (ΦT n ps ex pe) (fun _ _ => True) r) : RV (fnM N n ds ps) ex pe XF (PR.opt r.o) :=
  rv_o (f_mk (XF := fun _ _ => True) h0 he h)
end
end Tn
namespace Tn
open PySem PySem.Spec PyProof.Rows L2 Dn
abbrev XFT : XIf := fun _ _ => True
theorem fit_0 : fit 0 = true := by decide
theorem fit_1 : fit 1 = true := by decide
theorem fit_2 : fit 2 = true := by decide
theorem fit_3 : fit 3 = true := by decide
theorem fit_5 : fit 5 = true := by decide
section
variable {α β κ : Type} {XI : XIf} {env : Ev} {da db dd : Ev → RE X} {dl : Ev → RE (List X)} {x y z : X}
class Inj (e : α → D) : Prop where
  inj : ∀ a b, e a = e b → a = b
instance : Inj D.int := ⟨fun _ _ h => by cases h; rfl⟩
instance : Inj D.str := ⟨fun _ _ h => by cases h; rfl⟩
instance : Inj D.bl := ⟨fun _ _ h => by cases h; rfl⟩
instance : Inj eD := ⟨fun _ _ h => h⟩
instance (e : α → D) [Inj e] : Inj (eTup e) := ⟨fun a b h => map_inj' Inj.inj a b (by simpa [eTup] using h)⟩
instance (e : α → D) [Inj e] : Inj (eLst e) := ⟨fun a b h => map_inj' Inj.inj a b (by simpa [eLst] using h)⟩
instance (e : α → D) (f : β → D) [Inj e] [Inj f] : Inj (ePr e f) := ⟨fun a b h => by
  simp only [ePr, D.tup.injEq, List.cons.injEq, and_true] at h
  exact Prod.ext (Inj.inj _ _ h.1) (Inj.inj _ _ h.2)⟩
open Classical in
noncomputable def decC (e : α → D) (d : D) : Option α := if h : ∃ a, e a = d then some h.choose else none
@[simp] theorem decC_enc (e : α → D) [Inj e] (a : α) : decC e (e a) = some a := by
  have q : ∃ b, e b = e a := ⟨a, rfl⟩
  unfold decC
  rw [dif_pos q, Inj.inj _ _ q.choose_spec]
def mulP (a b : Int) : Option Int := if mulFit a b = true then some (a * b) else none
def divP (a b : Int) : Option Int := if 0 < b ∧ b.natAbs.log2 < 9000 then some (a / b) else none
def modP (a b : Int) : Option Int := if 0 < b then some (a % b) else none
theorem o_mul (a b : Int) : OpS pMul (.int a) (.int b) (fun z => .im (.int z)) (mulP a b) := fun z h => by
  unfold mulP at h
  split at h
  · cases h
    simp [pMul, *]
  · cases h
theorem o_div (a b : Int) : OpS pDiv (.int a) (.int b) (fun z => .im (.int z)) (divP a b) := fun z h => by
  unfold divP at h
  split at h
  · cases h
    simp [pDiv, *]
  · cases h
theorem o_mod (a b : Int) : OpS pMod (.int a) (.int b) (fun z => .im (.int z)) (modP a b) := fun z h => by
  unfold modP at h
  split at h
  · cases h
    simp [pMod, *]
  · cases h
def catS (a b : Str) : Option Str := if fit (a.length + b.length) = true then some (a ++ b) else none
def repSP (a : Str) (n : Int) : Option Str := if 0 ≤ n ∧ n ≤ 1000 ∧ a.length ≤ 1000 then some (repS a n.toNat) else none
def repP (xs : List α) (n : Int) : Option (List α) := if 0 ≤ n ∧ n ≤ 1000 ∧ xs.length ≤ 1000 then some (List.replicate n.toNat xs).flatten else none
theorem o_catS (a b : Str) : OpS pAdd (.str a) (.str b) (fun z => .im (.str z)) (catS a b) := fun z h => by
  unfold catS at h
  split at h
  · cases h
    simp [pAdd, *]
  · cases h
theorem o_repS (a : Str) (n : Int) : OpS pMul (.str a) (.int n) (fun z => .im (.str z)) (repSP a n) := fun z h => by
  unfold repSP at h
  split at h
  · cases h
    simp [pMul, *]
  · cases h
theorem map_flatten_rep (e : α → D) (xs : List α) : ∀ n : Nat, (List.replicate n xs).flatten.map e = (List.replicate n (xs.map e)).flatten
  | 0 => rfl
  | n + 1 => by simp [List.replicate_succ, map_flatten_rep e xs n]
theorem o_repL (e : α → D) (a : List α) (n : Int) : OpS pMul (eLst e a) (.int n) (fun z => .ow (oLst e z)) (repP a n) := fun z h => by
  unfold repP at h
  split at h
  · rename_i h'
    cases h
    have h2 : 0 ≤ n ∧ n ≤ 1000 ∧ (a.map e).length ≤ 1000 := by simpa using h'
    simp only [pMul, eLst, oLst]
    rw [if_pos h2, map_flatten_rep]
  · cases h
theorem o_eqI (a b : Int) : pEq (.int a) (.int b) = some (.im (.bl (decide (a = b)))) := by simp [pEq, pEqB, D.scal, L2.scal]
theorem o_neI (a b : Int) : pNe (.int a) (.int b) = some (.im (.bl (!decide (a = b)))) := by simp [pNe, pEqB, D.scal, L2.scal]
theorem o_eqS (a b : Str) : pEq (.str a) (.str b) = some (.im (.bl (decide (a = b)))) := by simp [pEq, pEqB, D.scal, L2.scal]
theorem o_neS (a b : Str) : pNe (.str a) (.str b) = some (.im (.bl (!decide (a = b)))) := by simp [pNe, pEqB, D.scal, L2.scal]
theorem o_eq (a b : D) : OpS pEq a b (fun z => .im (.bl z)) (pEqB a b) := fun z h => by simp [pEq, h]
theorem o_in (a b : D) : OpS pIn a b (fun z => .im (.bl z)) (pInB a b) := fun z h => by simp [pIn, h]
theorem o_notin (a b : D) : OpS pNotIn a b (fun z => .im (.bl (!z))) (pInB a b) := fun z h => by simp [pNotIn, h]
theorem o_inST (w : Str) (ns : List Str) : pIn (.str w) (eTup D.str ns) = some (.im (.bl (decide (w ∈ ns)))) := in_tup w ns
theorem o_inSL (w : Str) (ns : List Str) : pIn (.str w) (eLst D.str ns) = some (.im (.bl (decide (w ∈ ns)))) := in_lst w ns
theorem o_ninST (w : Str) (ns : List Str) : pNotIn (.str w) (eTup D.str ns) = some (.im (.bl (!decide (w ∈ ns)))) := notIn_tup w ns
theorem o_ninSL (w : Str) (ns : List Str) : pNotIn (.str w) (eLst D.str ns) = some (.im (.bl (!decide (w ∈ ns)))) := notIn_lst w ns
/-- encodings that are never None -/
class NoN (e : α → D) : Prop where
  no : ∀ a, (e a).isNon = false
instance : NoN D.int := ⟨fun _ => rfl⟩
instance : NoN D.str := ⟨fun _ => rfl⟩
instance : NoN D.bl := ⟨fun _ => rfl⟩
instance (e : α → D) : NoN (eTup e) := ⟨fun _ => rfl⟩
instance (e : α → D) : NoN (eLst e) := ⟨fun _ => rfl⟩
instance (e : α → D) (f : β → D) : NoN (ePr e f) := ⟨fun _ => rfl⟩
instance {γ : Type} (e : α → D) (f : β → D) (g : γ → D) : NoN (ePr3 e f g) := ⟨fun _ => rfl⟩
instance {γ δ : Type} (e : α → D) (f : β → D) (g : γ → D) (h : δ → D) : NoN (ePr4 e f g h) := ⟨fun _ => rfl⟩
theorem isNon_opt (e : α → D) [NoN e] (a : Option α) : (eOpt e a).isNon = a.isNone := by
  cases a with
  | none => rfl
  | some a => exact NoN.no a
theorem o_notN (e : α → D) [NoN e] (a : Option α) : pNotN (eOpt e a) .non = some (.im (.bl (!a.isNone))) := by
  simp [pNotN, D.isNon, ← isNon_opt e a]
theorem o_isND (d : D) : pIsN d .non = some (.im (.bl d.isNon)) := by simp [pIsN, D.isNon]
theorem atI_map (e : α → D) (xs : List α) (i : Int) : atI (xs.map e) i = (atI xs i).map e := by
  unfold atI
  rw [List.length_map]
  cases ixN xs.length i with
  | none => rfl
  | some j => simp
theorem o_ixT (e : α → D) (xs : List α) (i : Int) : OpS pIx (eTup e xs) (.int i) (fun z => .im (e z)) (atI xs i) := fun z h => by
  simp [pIx, eTup, atI_map, h]
theorem o_ixL (e : α → D) (xs : List α) (i : Int) : OpS pIx (eLst e xs) (.int i) (fun z => .im (e z)) (atI xs i) := fun z h => by
  simp [pIx, eLst, atI_map, h]
theorem o_ixScr (xs : List Int) (i : Int) : OpS pIx (eScr xs) (.int i) (fun z => .im (.int z)) (atI xs i) := fun z h => by
  simp [pIx, eScr, h]
def ixS (z : Str) (i : Int) : Option Str := if fit z.length = true then (atI z.cps.toList i).map fun c => ⟨#[c]⟩ else none
theorem o_ixS (a : Str) (i : Int) : OpS pIx (.str a) (.int i) (fun z => .im (.str z)) (ixS a i) := fun z h => by
  unfold ixS at h
  split at h
  · rename_i hf
    obtain ⟨c, hc, rfl⟩ := Option.map_eq_some_iff.mp h
    simp [pIx, hf, hc]
  · cases h
/-- an item of data that is not read further -/
def ixD (d : D) (i : Int) : Option D := match pIx d (.int i) with
  | some (.im x) => some x
  | _ => none
theorem o_ixD (d : D) (i : Int) : OpS pIx d (.int i) (fun z => .im z) (ixD d i) := fun z h => by
  unfold ixD at h
  cases hp : pIx d (.int i) with
  | none => rw [hp] at h; cases h
  | some x =>
    rw [hp] at h
    cases x with
    | im x => cases h; rfl
    | sl j => cases h
    | ow o => cases h
theorem o_itDt {κ : Type} [DecidableEq κ] (k : KT κ) (e : β → D) (m : List (κ × β)) (x : κ) : OpS pItD (eDt k e m) (k.ky x) (fun z => .im (e z)) (getA m x) := fun z h => by
  have := get_map k.k k.inj e x m
  simp [pItD, lookD, eDt, rKT, k.hk, this, h]
theorem cutD_map (e : α → D) (xs : List α) (lo hi : Option Int) : cutD (xs.map e) lo hi = (cutD xs lo hi).map e := by
  simp [Dn.cutD, List.map_take, List.map_drop]
theorem o_slT (e : α → D) (xs : List α) (lo hi : Option Int) : pSl (eTup e xs) lo hi = some (.im (eTup e (cutD xs lo hi))) := by
  simp [pSl, eTup, cutD_map]
def slS (z : Str) (lo hi : Option Int) : Option Str := if fit z.length = true then some (cutS z lo hi) else none
theorem sc {d : D} {lo hi : Option Int} {ex : β → X} {r : Option β} (hx : rd env x = some d) (h : ∀ z, r = some z → pSl d lo hi = some (ex z)) : RV (opt ((rd env x).bind fun d => pSl d lo hi) env) ex (fun _ => env) XI (PR.opt r) := rv_opt fun z hz => by
  rw [hx]; exact h z hz
theorem o_slS (a : Str) (lo hi : Option Int) : ∀ z, slS a lo hi = some z → pSl (.str a) lo hi = some (.im (.str z)) := fun z h => by
  unfold slS at h
  split at h
  · cases h
    simp [pSl, *]
  · cases h
theorem o_revL (e : α → D) (xs : List α) : pRevL (eLst e xs) = some (.ow (oLst e xs.reverse)) := by simp [pRevL, eLst, oLst]
theorem c_lenT (e : α → D) (xs : List α) : pLen [eTup e xs] = some (.im (.int xs.length)) := by simp [pLen, eTup]
theorem c_lenL (e : α → D) (xs : List α) : pLen [eLst e xs] = some (.im (.int xs.length)) := by simp [pLen, eLst]
theorem c_lenScr (xs : List Int) : pLen [eScr xs] = some (.im (.int xs.length)) := by simp [pLen, eScr]
def lenS (z : Str) : Option Int := if fit z.length = true then some z.length else none
theorem c_lenS (a : Str) : CbS pLen [.str a] (fun z => .im (.int z)) (lenS a) := fun z h => by
  unfold lenS at h
  split at h
  · cases h
    simp [pLen, *]
  · cases h
def lenD (d : D) : Option Int := match pLen [d] with
  | some (.im (.int n)) => some n
  | _ => none
theorem c_lenD (d : D) : CbS pLen [d] (fun z => .im (.int z)) (lenD d) := fun z h => by
  unfold lenD at h
  cases hp : pLen [d] with
  | none => rw [hp] at h; cases h
  | some x =>
    rw [hp] at h
    cases x with
    | im x =>
      cases x with
      | int b => cases h; rfl
      | _ => cases h
    | sl j => cases h
    | ow o => cases h
theorem c_tupL (e : α → D) (xs : List α) : pTuple [eLst e xs] = some (.im (eTup e xs)) := rfl
theorem c_lstT (e : α → D) (xs : List α) : pList [eTup e xs] = some (.ow (oLst e xs)) := rfl
def sgns (z : Str) : List Str := z.cps.toList.map fun c => ⟨#[c]⟩
def lstS (z : Str) : Option (List Str) := if fit z.length = true then some (sgns z) else none
theorem c_lstS (a : Str) : CbS pList [.str a] (fun z => .ow (oLst D.str z)) (lstS a) := fun z h => by
  unfold lstS at h
  split at h
  · cases h
    simp [pList, oLst, sgns, *]
  · cases h
theorem ofX_str (a : Str) : ofX env (.im (.str a)) = some ((sgns a).map D.str, none) := by simp [ofX, sgns]
theorem blsD_map : ∀ bs : List Bool, blsD (bs.map D.bl) = some bs
  | [] => rfl
  | b :: bs => by simp [blsD, blsD_map bs]
theorem intsD_map' : ∀ bs : List Int, intsD (bs.map D.int) = some bs
  | [] => rfl
  | b :: bs => by simp [intsD, intsD_map' bs]
theorem c_all (bs : List Bool) : pAll [eLst D.bl bs] = some (.im (.bl (bs.all id))) := by simp [pAll, eLst, blsD_map]
theorem c_sum (bs : List Int) : pSum [eLst D.int bs] = some (.im (.int bs.sum)) := by simp [pSum, eLst, intsD_map']
/-- data read as Python data -/
def pysOf (e : α → D) (xs : List α) : Option (List PyData) := pys (xs.map e)
def sortP (e : α → D) (xs : List α) : Option (List α) := (pysOf e xs).bind fun ds => if sortOk ds = true then some (xs.mergeSort fun a b => leD false (e a) (e b)) else none
theorem c_sortL (e : α → D) (xs : List α) : CbS pSorted [eLst e xs] (fun z => .ow (oLst e z)) (sortP e xs) := fun z h => by
  unfold sortP pysOf at h
  obtain ⟨ds, h1, h2⟩ := Option.bind_eq_some_iff.mp h
  split at h2
  · rename_i hs
    cases h2
    simp only [pSorted, eLst, h1, Option.bind_some, hs, if_true, oLst]
    rw [List.map_mergeSort (s := leD false)]
    intro a _ b _
    rfl
  · cases h2
theorem c_isiD (d : D) (n : String) : CbS pIsi [d, .ty n] (fun z => .im (.bl z)) (d.tyN.bind fun t => L2.kitB t n) := fun z h => by simp [pIsi, h]
theorem c_isiO {T : Str → Str → Option Bool} {T2 : Str → String → Option Bool} {c C : Str} {fs : List (Str × D)} {b : Bool} (h : T c C = some b) : pIsiO T T2 [.obj c fs, .cls C] = some (.im (.bl b)) := by simp [pIsiO, h]
theorem c_listO {cs : List Str} {F c : Str} {fs : List (Str × D)} {l : List D} (h : rowsO cs F c fs = some l) : pListO cs F [.obj c fs] = some (.ow (.lst l)) := by simp [pListO, h]
def joinP (a : Str) (ys : List Str) : Option Str := if fit ((ys.map (·.length)).sum + ys.length * a.length) = true then some (Txt.join a ys) else none
theorem o_joinL (a : Str) (ys : List Str) : OpS pJoin (.str a) (eLst D.str ys) (fun z => .im (.str z)) (joinP a ys) := fun z h => by
  unfold joinP at h
  split at h
  · rename_i hf
    cases h
    simp only [pJoin, eLst, textsD_map, Option.bind_some, hf, if_true]
  · cases h
variable {f : D → D → Option X} {dx dy : D}
theorem r_m1_PP {ex : β → X} {ee : β → Ev} {r : PR β} (ha : da env = .ok x env) (hs : (rd env x).map isS = some true) (hb : db env = .ok y env) (h : RV (opt ((rd env x).bind fun dx => (rd env y).bind fun dy => f dx dy) env) ex ee XI r) : RV (dM1 f da db env) ex ee XI r := by
  unfold dM1; rw [ha]; simp only [re_bind_ok]; rw [if_pos hs, hb]; exact h
theorem r_m1_PM {β1 : Type} {exb : β1 → X} {eeb : β1 → Ev} {ex : β → X} {ee : β → Ev} {rb : PR β1} {r : β1 → PR β} (ha : da env = .ok x env) (hs : (rd env x).map isS = some true) (hb : RV (db env) exb eeb XI rb) (h : ∀ v, RV (opt ((rd (eeb v) x).bind fun dx => (rd (eeb v) (exb v)).bind fun dy => f dx dy) (eeb v)) ex ee XI (r v)) : RV (dM1 f da db env) ex ee XI (rb.bind r) := by
  unfold dM1; rw [ha]; simp only [re_bind_ok]; rw [if_pos hs]; exact rv_bind hb h
def tixP (ys : List Str) (z : Str) : Option Int := (ixOf z ys).map fun j => (j : Int)
theorem r_tix_PP {ys : List Str} {w : Str} (ha : da env = .ok (.im (eTup D.str ys)) env) (hb : db env = .ok (.im (.str w)) env) : RV (dTIx da db env) (fun j => .im (.int j)) (fun _ => env) XI (PR.opt (tixP ys w)) := by
  unfold dTIx tixP
  rw [ha]
  simp only [re_bind_ok, eTup]
  rw [hb]
  simp only [re_bind_ok, textsD_map, Option.bind_some]
  cases ixOf w ys with
  | none => trivial
  | some j => rfl
theorem r_tix_PM {β1 : Type} {ys : List Str} {exb : β1 → X} {w : β1 → Str} {rb : PR β1} (ha : da env = .ok (.im (eTup D.str ys)) env) (hb : RV (db env) exb (fun _ => env) XI rb) (hw : ∀ v, exb v = .im (.str (w v))) : RV (dTIx da db env) (fun j => .im (.int j)) (fun _ => env) XI (rb.bind fun v => PR.opt (tixP ys (w v))) := by
  unfold dTIx tixP
  rw [ha]
  simp only [re_bind_ok, eTup]
  refine rv_bind hb fun v => ?_
  rw [hw v]
  simp only [textsD_map, Option.bind_some]
  cases ixOf (w v) ys with
  | none => trivial
  | some j => rfl
variable {dy' dx' : Ev → RE X} {c : D}
theorem p_getDt {κ : Type} [DecidableEq κ] {k : KT κ} {e : β → D} {m : List (κ × β)} {q : κ} {v : β} (ha : dd env = .ok x env) (hx : rd env x = some (eDt k e m)) (hb : dy' env = .ok y env) (hy : rd env y = some (k.ky q)) (hc : dx' env = .ok (.im (e v)) env) : dGetD dd dy' dx' env = .ok (.im (e ((getA m q).getD v))) env := by
  unfold dGetD
  rw [ha]
  simp only [re_bind_ok, hx, Option.map_some, eDt, isDic, if_true]
  rw [hb]
  simp only [re_bind_ok]
  rw [hc]
  have := get_map k.k k.inj e q m
  simp only [re_bind_ok, hx, hy, Option.bind_some, imX, lookD, eDt, rKT, k.hk, Option.map_some, this, opt]
  cases getA m q <;> rfl
theorem p_newT {κ β : Type} (k : KT κ) (e : β → D) : dNewT env = .ok (.ow (oDt k e [])) env := rfl
def appP (xs : List α) (x : α) : Option (List α) := if fit (xs.length + 1) = true then some (xs ++ [x]) else none
theorem m_app (e : α → D) (xs : List α) (x : α) : ∀ z, appP xs x = some z → mApp (oLst e xs) [e x] = some (.non, oLst e z) := fun z h => by
  unfold appP at h
  split at h
  · cases h
    simp [mApp, oLst, *]
  · cases h
def insP (xs : List α) (i : Int) (x : α) : Option (List α) := if 0 ≤ i ∧ rgOk i = true ∧ fit (xs.length + 1) = true then some (xs.take i.toNat ++ [x] ++ xs.drop i.toNat) else none
theorem m_ins (e : α → D) (xs : List α) (i : Int) (x : α) : ∀ z, insP xs i x = some z → mIns (oLst e xs) [.int i, e x] = some (.non, oLst e z) := fun z h => by
  unfold insP at h
  split at h
  · rename_i hc
    cases h
    simp only [mIns, oLst, List.length_map]
    rw [if_pos hc]
    simp [List.map_take, List.map_drop]
  · cases h
def popAtP (xs : List α) (k : Int) : Option (α × List α) := if 0 ≤ k ∧ k < xs.length ∧ rgOk k = true then (xs[k.toNat]?).map fun d => (d, xs.eraseIdx k.toNat) else none
theorem map_eraseIdx' (e : α → D) : ∀ (xs : List α) (n : Nat), (xs.map e).eraseIdx n = (xs.eraseIdx n).map e
  | [], _ => rfl
  | _ :: _, 0 => rfl
  | x :: xs, n + 1 => by simp [map_eraseIdx' e xs n]
theorem m_popAt (e : α → D) (xs : List α) (k : Int) : ∀ z, popAtP xs k = some z → mPopAt (oLst e xs) [.int k] = some (e z.1, oLst e z.2) := fun z h => by
  unfold popAtP at h
  split at h
  · rename_i hc
    obtain ⟨d, hd, rfl⟩ := Option.map_eq_some_iff.mp h
    simp only [mPopAt, oLst, List.length_map]
    rw [if_pos hc]
    simp [hd, map_eraseIdx']
  · cases h
end
end Tn
namespace Tn
open PySem PySem.Spec PyProof.Rows L2 Dn
section
end
end Tn
namespace Tn
open PySem PySem.Spec PyProof.Rows L2 Dn
section
end
end Tn
namespace Tn
open PySem PySem.Spec PyProof.Rows L2 Dn
section
end
end Tn
namespace Tn
open PySem PySem.Spec PyProof.Rows L2 Dn
section
section
end
end
end Tn
namespace Tn
open PySem PySem.Spec PyProof.Rows L2 Dn
section
variable {β β1 : Type} {XI : XIf} {env : Ev} {d : Ev → RE X} {r : Str → Ev → RE X} {acc y : Str}
def fmtP (i : Int) : Option Str := if i.natAbs.log2 < 1920 then some (Str.ofString (toString i)) else none
theorem c_strI (i : Int) : CbS pStrI [.int i] (fun z => .im (.str z)) (fmtP i) := fun z h => by
  unfold fmtP at h
  split at h
  · cases h
    simp [pStrI, *]
  · cases h
end
end Tn
namespace Tn
open PySem PySem.Spec PyProof.Rows L2 Dn
section
end
section
end
end Tn
namespace Tn
open PySem PySem.Spec PyProof.Rows L2 Dn
def splitP (a b : Str) : Option (List Str) := if (b.length == 0) = false ∧ fit (a.length + 2) = true then some (Txt.split a b) else none
theorem o_split (a b : Str) : OpS pSplit (.str a) (.str b) (fun z => .ow (oLst D.str z)) (splitP a b) := fun z h => by
  unfold splitP at h
  split at h
  · cases h
    simp [pSplit, oLst, *]
  · cases h
def partP (a b : Str) : Option (Str × Str × Str) := if (b.length == 0) = false ∧ fit a.length = true then some (Txt.partition a b) else none
def eW3 {α β γ : Type} (e : α → D) (f : β → D) (g : γ → D) (p : α × β × γ) : D := .tupW [e p.1, f p.2.1, g p.2.2]
theorem o_part (a b : Str) : OpS pPart (.str a) (.str b) (fun z => .im (eW3 D.str D.str D.str z)) (partP a b) := fun z h => by
  unfold partP at h
  split at h
  · cases h
    simp [pPart, eW3, *]
  · cases h
def intP (a : Str) : Option Int := if a.length ≤ 640 then PySem.intText? a else none
theorem c_intT (a : Str) : CbS pIntT [.str a] (fun z => .im (.int z)) (intP a) := fun z h => by
  unfold intP at h
  split at h
  · simp [pIntT, *]
  · cases h
def eCls (c : Str) (_ : Unit) : D := .cls c
section
variable {β γ : Type} {XI : XIf} {env : Ev} {i : Nat} {c : Str} {d : Ev → RE X} {x : X} {ex : β → X} {ee : β → Ev} {r : PR β}
theorem r_guard (h : env[i]? = some (.im (.cls c))) (hd : RV (d env) ex ee XI r) : RV (dGuard i c d env) ex ee XI r := by
  rw [guard_eq h]
  exact hd
end
end Tn
namespace Tn
open PySem PySem.Spec PyProof.Rows L2 Dn
section
variable {α β γ σ ρ : Type}
def Ho (o : Option α) (Q : α → Prop) : Prop := ∃ a, o = some a ∧ Q a
def Hp (r : PR α) (Q : α → Prop) : Prop := ∃ a, r = .ok a ∧ Q a
theorem Hp.o {r : PR α} {Q : α → Prop} (h : Hp r Q) : Ho r.o Q := by
  obtain ⟨a, rfl, h⟩ := h
  exact ⟨a, rfl, h⟩
theorem Hp.opt {r : Option α} {Q : α → Prop} (h : Ho r Q) : Hp (.opt r) Q := by
  obtain ⟨a, rfl, h⟩ := h
  exact ⟨a, rfl, h⟩
theorem Hp.ret {a : α} {Q : α → Prop} (h : Q a) : Hp (.ok a) Q := ⟨a, rfl, h⟩
theorem Ho.ret {a : α} {Q : α → Prop} (h : Q a) : Ho (some a) Q := ⟨a, rfl, h⟩
theorem Hp.bind {r : PR α} {f : α → PR β} {P : α → Prop} {Q : β → Prop} (h : Hp r P) (k : ∀ a, P a → Hp (f a) Q) : Hp (r.bind f) Q := by
  obtain ⟨a, rfl, h⟩ := h
  exact k a h
theorem Hp.bo {r : Option α} {f : α → PR β} {P : α → Prop} {Q : β → Prop} (h : Ho r P) (k : ∀ a, P a → Hp (f a) Q) : Hp ((PR.opt r).bind f) Q := by
  obtain ⟨a, rfl, h⟩ := h
  exact k a h
theorem Hp.bs {r : Option α} {f : α → PR β} {a : α} {Q : β → Prop} (h : r = some a) (k : Hp (f a) Q) : Hp ((PR.opt r).bind f) Q := by
  subst h; exact k
theorem Hp.imp {r : PR α} {P Q : α → Prop} (h : Hp r P) (k : ∀ a, P a → Q a) : Hp r Q := by
  obtain ⟨a, e, h⟩ := h
  exact ⟨a, e, k a h⟩
theorem Ho.imp {r : Option α} {P Q : α → Prop} (h : Ho r P) (k : ∀ a, P a → Q a) : Ho r Q := by
  obtain ⟨a, e, h⟩ := h
  exact ⟨a, e, k a h⟩
theorem Hp.ite {c : Prop} [Decidable c] {r r' : PR α} {Q : α → Prop} (h : c → Hp r Q) (h' : ¬ c → Hp r' Q) : Hp (if c then r else r') Q := by
  split
  · exact h ‹_›
  · exact h' ‹_›
theorem Hp.eq {r : PR α} {a : α} (h : r = .ok a) : Hp r (fun z => z = a) := ⟨a, h, rfl⟩
theorem Ho.to {r : Option α} {a : α} (h : Ho r (fun z => z = a)) : r = some a := by
  obtain ⟨b, e, rfl⟩ := h
  exact e
theorem Hp.to {r : PR α} {a : α} (h : Hp r (fun z => z = a)) : r = .ok a := by
  obtain ⟨b, e, rfl⟩ := h
  exact e
theorem Hp.fold {f : α → σ → PR σ} (I : List α → σ → Prop) (hs : ∀ x xs s, I (x :: xs) s → Hp (f x s) (I xs)) : ∀ xs s, I xs s → Hp (foldP f xs s) (I [])
  | [], s, h => ⟨s, rfl, h⟩
  | x :: xs, s, h => by
    unfold foldP
    exact (hs x xs s h).bind fun s' h' => Hp.fold I hs xs s' h'
theorem fold_ok' {f : α → σ → PR σ} {g : σ → α → σ} : ∀ (xs : List α) (s : σ), (∀ x ∈ xs, ∀ s, f x s = .ok (g s x)) → foldP f xs s = .ok (xs.foldl g s)
  | [], s, h => rfl
  | x :: xs, s, h => by
    unfold foldP
    rw [h x (by simp) s]
    exact fold_ok' xs _ fun y hy => h y (by simp [hy])
/-- a loop of tests that all pass -/
theorem forO_pass {f : α → σ → PR (Out ρ σ)} {s : σ} : ∀ (xs : List α), (∀ x ∈ xs, f x s = .ok (.nx s)) → forO f xs s = .ok (.nx s)
  | [], _ => rfl
  | x :: xs, h => by
    unfold forO
    rw [h x (by simp)]
    exact forO_pass xs fun y hy => h y (by simp [hy])
theorem lcP_ok {t : α → Option Bool} {f : α → Option β} (p : α → Bool) (g : α → β) : ∀ (xs : List α) (n : Nat), (∀ x ∈ xs, t x = some (p x)) → (∀ x ∈ xs, p x = true → f x = some (g x)) → n + xs.length ≤ 100000 → lcP t f xs n = some ((xs.filter p).map g)
  | [], n, _, _, _ => rfl
  | x :: xs, n, ht, hf, hn => by
    simp only [List.length_cons] at hn
    have h1 := ht x (by simp)
    unfold lcP
    rw [h1]
    cases hp : p x with
    | false =>
      simp only
      rw [lcP_ok p g xs n (fun y hy => ht y (by simp [hy])) (fun y hy => hf y (by simp [hy])) (by omega)]
      simp [hp]
    | true =>
      simp only
      rw [hf x (by simp) hp]
      simp only
      rw [if_pos (fit_s (by omega)), lcP_ok p g xs (n + 1) (fun y hy => ht y (by simp [hy])) (fun y hy => hf y (by simp [hy])) (by omega)]
      simp [hp]
/-- no test -/
theorem lcP_map {f : α → Option β} (g : α → β) (xs : List α) (hf : ∀ x ∈ xs, f x = some (g x)) (hn : xs.length ≤ 100000) : lcP (fun _ => some true) f xs 0 = some (xs.map g) := by
  rw [lcP_ok (fun _ => true) g xs 0 (fun _ _ => rfl) (fun x hx _ => hf x hx) (by omega)]
  congr 2
  exact List.filter_eq_self.mpr fun _ _ => rfl
theorem lcP_fil {t : α → Option Bool} (p : α → Bool) (xs : List α) (ht : ∀ x ∈ xs, t x = some (p x)) (hn : xs.length ≤ 100000) : lcP t (fun x => some x) xs 0 = some (xs.filter p) := by
  have := lcP_ok p (fun x : α => x) xs 0 ht (f := fun x => some x) (fun x _ _ => rfl) (by omega)
  simpa using this
theorem lcS_inv {t : α → σ → Option Bool} {f : α → σ → Option (β × σ)} (I : List α → List β → σ → Prop) (hs : ∀ x xs acc s, I (x :: xs) acc s → (t x s = some true ∧ ∃ y s', f x s = some (y, s') ∧ fit (acc.length + 1) = true ∧ I xs (acc ++ [y]) s') ∨ (t x s = some false ∧ I xs acc s)) : ∀ xs acc s, I xs acc s → ∃ r, lcS t f xs s acc.length = some r ∧ I [] (acc ++ r.1) r.2
  | [], acc, s, h => ⟨([], s), rfl, by simpa using h⟩
  | x :: xs, acc, s, h => by
    unfold lcS
    rcases hs x xs acc s h with ⟨h1, y, s', h2, h3, h4⟩ | ⟨h1, h2⟩
    · rw [h1]
      simp only
      rw [h2]
      simp only
      rw [if_pos h3]
      obtain ⟨r, h5, h6⟩ := lcS_inv I hs xs (acc ++ [y]) s' h4
      rw [List.length_append, List.length_singleton] at h5
      rw [h5]
      exact ⟨(y :: r.1, r.2), rfl, by simpa using h6⟩
    · rw [h1]
      exact lcS_inv I hs xs acc s h2
@[simp] theorem atI_0 (x : α) (xs : List α) : atI (x :: xs) 0 = some x := by rw [atI_i (by omega)]; rfl
@[simp] theorem atI_1 (x y : α) (xs : List α) : atI (x :: y :: xs) 1 = some y := by rw [atI_i (by omega)]; rfl
@[simp] theorem atI_2 (x y z : α) (xs : List α) : atI (x :: y :: z :: xs) 2 = some z := by rw [atI_i (by omega)]; rfl
theorem atI_n {xs : List α} {i : Nat} {x : α} (h : xs[i]? = some x) : atI xs (i : Int) = some x := by rw [atI_i (by omega)]; simpa using h
theorem ixN_ok {n : Nat} {i : Int} (h : 0 ≤ i) (h' : i < n) : ixN n i = some i.toNat := by unfold ixN; rw [if_pos h, if_pos h']
@[simp] theorem setP_0 (x v : α) (xs : List α) : setP (x :: xs) 0 v = some (v :: xs) := by
  have : ixN (x :: xs).length 0 = some 0 := ixN_ok (by omega) (by simp only [List.length_cons]; omega)
  simp only [setP, this, Option.map_some, List.set_cons_zero]
@[simp] theorem setP_2 (x y z v : α) (xs : List α) : setP (x :: y :: z :: xs) 2 v = some (x :: y :: v :: xs) := by
  have : ixN (x :: y :: z :: xs).length 2 = some 2 := ixN_ok (by omega) (by simp only [List.length_cons]; omega)
  simp only [setP, this, Option.map_some, List.set_cons_succ, List.set_cons_zero]
theorem mulP_ok {a b : Int} (h : mulFit a b = true) : mulP a b = some (a * b) := by simp [mulP, h]
theorem modP_ok {a b : Int} (h : 0 < b) : modP a b = some (a % b) := by simp [modP, h]
theorem rg1_ok {j : Int} (h : -1000000 ≤ j) (h' : j ≤ 1000000) : rg1 j = some (rng 0 j.toNat) := by simp [rg1, rgOk_s h h']
@[simp] theorem rng_len (lo : Int) (n : Nat) : (rng lo n).length = n := by simp [rng]
theorem rng_mem {lo : Int} {n : Nat} {x : Int} : x ∈ rng lo n ↔ ∃ i : Nat, i < n ∧ x = lo + i := by
  simp [rng]
  constructor
  · rintro ⟨i, h, rfl⟩; exact ⟨i, h, rfl⟩
  · rintro ⟨i, h, rfl⟩; exact ⟨i, h, rfl⟩
theorem appP_ok {xs : List α} {x : α} (h : xs.length < 100000) : appP xs x = some (xs ++ [x]) := by simp [appP, fit_s (show xs.length + 1 ≤ 100000 by omega)]
theorem catS_ok {a b : Str} (h : a.length + b.length ≤ 100000) : catS a b = some (a ++ b) := by simp [catS, fit_s h]
theorem lenS_ok {a : Str} (h : a.length ≤ 100000) : lenS a = some (a.length : Int) := by simp [lenS, fit_s h]
theorem lstS_ok {a : Str} (h : a.length ≤ 100000) : lstS a = some (sgns a) := by simp [lstS, fit_s h]
theorem repSP_ok {a : Str} {n : Int} (h : 0 ≤ n) (h' : n ≤ 1000) (h2 : a.length ≤ 1000) : repSP a n = some (repS a n.toNat) := by simp [repSP, h, h', h2]
theorem repP_ok {xs : List α} {n : Int} (h : 0 ≤ n) (h' : n ≤ 1000) (h2 : xs.length ≤ 1000) : repP xs n = some (List.replicate n.toNat xs).flatten := by simp [repP, h, h', h2]
theorem insP_ok {xs : List α} {i : Int} {x : α} (h : 0 ≤ i) (h' : i ≤ 1000000) (h2 : xs.length < 100000) : insP xs i x = some (xs.take i.toNat ++ [x] ++ xs.drop i.toNat) := by
  simp [insP, h, rgOk_s (show -1000000 ≤ i by omega) h', fit_s (show xs.length + 1 ≤ 100000 by omega)]
theorem popAtP_ok {xs : List α} {k : Nat} (h : k < xs.length) (h' : xs.length ≤ 100000) : popAtP xs (k : Int) = some (xs[k], xs.eraseIdx k) := by
  have h1 : (0 : Int) ≤ k ∧ (k : Int) < xs.length ∧ rgOk (k : Int) = true := ⟨by omega, by omega, rgOk_s (by omega) (by omega)⟩
  unfold popAtP
  rw [if_pos h1]
  simp [h]
theorem law_plain {d : Ev → RE X} {f : List Int → Option Bool} {is : List Int} (s : RV (d [.im (eScr is)]) (fun v : Bool => X.im (D.bl v)) (fun v : Bool => [.im (eScr is)]) XFT (PR.opt (f is))) (h : f is = some true) : ∃ e, d [.im (.scr is)] = .ok (.im (.bl true)) e := by
  rw [h] at s
  exact ⟨_, s⟩
theorem pEqB_I (a b : Int) : pEqB (.int a) (.int b) = some (decide (a = b)) := by simp [pEqB, D.scal, L2.scal]
theorem pEqB_S (a b : Str) : pEqB (.str a) (.str b) = some (decide (a = b)) := by simp [pEqB, D.scal, L2.scal]
theorem pEqB_B (a b : Bool) : pEqB (.bl a) (.bl b) = some (decide (a = b)) := by simp [pEqB, D.scal, L2.scal]
end
end Tn
namespace Tn
open PySem PySem.Spec PyProof.Rows L2 Dn
abbrev Rw : Type := List Str × Int
def sumOf (rs : List Rw) (b : List Str) : Int := ((rs.filter fun r => decide (r.1 = b)).map (·.2)).sum
theorem sumOf_nil (b : List Str) : sumOf [] b = 0 := rfl
theorem sumOf_cons (r : Rw) (rs : List Rw) (b : List Str) : sumOf (r :: rs) b = (if r.1 = b then r.2 else 0) + sumOf rs b := by
  unfold sumOf
  by_cases h : r.1 = b <;> simp [h]
theorem sumOf_app (rs qs : List Rw) (b : List Str) : sumOf (rs ++ qs) b = sumOf rs b + sumOf qs b := by simp [sumOf]
theorem sumOf_rev (b : List Str) : ∀ rs : List Rw, sumOf rs.reverse b = sumOf rs b
  | [] => rfl
  | r :: rs => by
    rw [List.reverse_cons, sumOf_app, sumOf_rev b rs, sumOf_cons r rs, sumOf_cons r [], sumOf_nil]
    omega
theorem sumOf_none {rs : List Rw} {b : List Str} (h : b ∉ rs.map (·.1)) : sumOf rs b = 0 := by
  unfold sumOf
  rw [List.filter_eq_nil_iff.mpr]
  · rfl
  · intro r hr z
    exact h (List.mem_map.mpr ⟨r, hr, of_decide_eq_true z⟩)
theorem sumOf_mem {rs : List Rw} {b : List Str} (h : 0 < sumOf rs b) : b ∈ rs.map (·.1) := by
  refine Decidable.byContradiction fun z => ?_
  rw [sumOf_none z] at h
  omega
def ixs (ns b : List Str) : List Int := b.map fun w => ((ns.idxOf w : Nat) : Int)
theorem ixs_cons (ns : List Str) (a : Str) (b : List Str) : ixs ns (a :: b) = ((ns.idxOf a : Nat) : Int) :: ixs ns b := rfl
theorem ixs_len (ns b : List Str) : (ixs ns b).length = b.length := by simp [ixs]
theorem idx_at {w : Str} : ∀ {ns : List Str}, w ∈ ns → ns[ns.idxOf w]? = some w
  | [], h => nomatch h
  | y :: ys, h => by
    rw [List.idxOf_cons]
    by_cases e : y = w
    · have : (y == w) = true := by simpa using e
      rw [this]
      simp [e]
    · have : (y == w) = false := by simpa using e
      rw [this]
      have h2 : w ∈ ys := by
        rcases List.mem_cons.mp h with q | q
        · exact absurd q.symm e
        · exact q
      simpa using idx_at h2
theorem idx_inj {ns : List Str} {a b : Str} (h : a ∈ ns) (h' : b ∈ ns) (e : ns.idxOf a = ns.idxOf b) : a = b := by
  have e1 := idx_at h
  have e2 := idx_at h'
  rw [e, e2] at e1
  exact (Option.some.inj e1).symm
theorem ixs_inj {ns : List Str} : ∀ {b c : List Str}, (∀ w ∈ b, w ∈ ns) → (∀ w ∈ c, w ∈ ns) → ixs ns b = ixs ns c → b = c
  | [], [], _, _, _ => rfl
  | [], _ :: _, _, _, e => by cases e
  | _ :: _, [], _, _, e => by cases e
  | x :: b, y :: c, h, h', e => by
    rw [ixs_cons, ixs_cons, List.cons.injEq] at e
    rw [idx_inj (h x (by simp)) (h' y (by simp)) (by omega), ixs_inj (fun w hw => h w (by simp [hw])) (fun w hw => h' w (by simp [hw])) e.2]
theorem ixOf_idx {w : Str} : ∀ {ns : List Str}, w ∈ ns → ixOf w ns = some (ns.idxOf w)
  | [], h => nomatch h
  | y :: ys, h => by
    unfold ixOf
    by_cases e : y = w
    · rw [if_pos e, e]
      simp
    · have : (y == w) = false := by simpa using e
      have h2 : w ∈ ys := by
        rcases List.mem_cons.mp h with q | q
        · exact absurd q.symm e
        · exact q
      rw [if_neg e, ixOf_idx h2, List.idxOf_cons, this]
      rfl
def IsOrd (ns : List Str) (s : List Str → Int) (L : List (List Str)) : Prop := (L.Pairwise fun x y => ixs ns x < ixs ns y) ∧ ∀ b, b ∈ L ↔ 0 < s b
theorem pair_uniq {α : Type} {R : α → α → Prop} (irr : ∀ a, ¬ R a a) (asy : ∀ a b, R a b → ¬ R b a) : ∀ {L M : List α}, L.Pairwise R → M.Pairwise R → (∀ x, x ∈ L ↔ x ∈ M) → L = M
  | [], [], _, _, _ => rfl
  | [], y :: M, _, _, h => nomatch (h y).mpr (by simp)
  | x :: L, [], _, _, h => nomatch (h x).mp (by simp)
  | x :: L, y :: M, h1, h2, h => by
    obtain ⟨a1, a2⟩ := List.pairwise_cons.mp h1
    obtain ⟨b1, b2⟩ := List.pairwise_cons.mp h2
    have e : x = y := by
      rcases List.mem_cons.mp ((h x).mp (by simp)) with e | hx
      · exact e
      · rcases List.mem_cons.mp ((h y).mpr (by simp)) with e | hy
        · exact e.symm
        · exact (asy _ _ (a1 y hy) (b1 x hx)).elim
    subst e
    rw [pair_uniq irr asy a2 b2 fun z => ?_]
    constructor
    · intro hz
      rcases List.mem_cons.mp ((h z).mp (by simp [hz])) with e | q
      · subst e
        exact (irr _ (a1 _ hz)).elim
      · exact q
    · intro hz
      rcases List.mem_cons.mp ((h z).mpr (by simp [hz])) with e | q
      · subst e
        exact (irr _ (b1 _ hz)).elim
      · exact q
theorem IsOrd.uniq {ns : List Str} {s : List Str → Int} {L M : List (List Str)} (h : IsOrd ns s L) (h' : IsOrd ns s M) : L = M :=
  pair_uniq (R := fun x y => ixs ns x < ixs ns y) (fun _ => List.lt_irrefl _) (fun _ _ => List.lt_asymm) h.1 h'.1 fun x => (h.2 x).trans (h'.2 x).symm
theorem IsOrd.same {ns : List Str} {s t : List Str → Int} {L : List (List Str)} (h : IsOrd ns s L) (e : ∀ b, 0 < s b ↔ 0 < t b) : IsOrd ns t L := ⟨h.1, fun b => (h.2 b).trans (e b)⟩
theorem IsOrd.nodup {ns : List Str} {s : List Str → Int} {L : List (List Str)} (h : IsOrd ns s L) : L.Nodup := h.1.imp fun {a b} q e => by subst e; exact List.lt_irrefl _ q
theorem app_lt : ∀ (p u v : List Int), p ++ u < p ++ v ↔ u < v
  | [], u, v => Iff.rfl
  | x :: p, u, v => by
    rw [List.cons_append, List.cons_append, List.cons_lt_cons_iff]
    have := app_lt p u v
    constructor
    · rintro (h | ⟨_, h⟩)
      · omega
      · exact this.mp h
    · exact fun h => .inr ⟨rfl, this.mpr h⟩
theorem leL_trans (a b c : List Int) (h1 : decide (a ≤ b) = true) (h2 : decide (b ≤ c) = true) : decide (a ≤ c) = true := by
  simp only [decide_eq_true_eq] at *
  exact List.le_trans h1 h2
theorem leL_total (a b : List Int) : (decide (a ≤ b) || decide (b ≤ a)) = true := by
  simp only [Bool.or_eq_true, decide_eq_true_eq]
  exact List.le_total a b
theorem pys_ints : ∀ xs : List Int, pys (xs.map D.int) = some (xs.map PyData.int)
  | [] => by simp [pys]
  | x :: xs => by simp [pys, D.py, pys_ints xs]
theorem alike_ints : ∀ xs ys : List Int, PySem.W.alikeAll (xs.map PyData.int) (ys.map PyData.int) = true
  | [], _ => by simp [PySem.W.alikeAll]
  | _ :: _, [] => by simp [PySem.W.alikeAll]
  | x :: xs, y :: ys => by simp [PySem.W.alikeAll, PySem.W.alike, alike_ints xs ys]
theorem depth_ints : ∀ xs : List Int, PyData.depthAll (xs.map PyData.int) = 0
  | [] => by simp [PyData.depthAll]
  | x :: xs => by simp [PyData.depthAll, PyData.depth, depth_ints xs]
theorem ints_py (a : List Int) : (eTup D.int a).py = some (.tuple (a.map .int)) := by simp [eTup, D.py, pys_ints]
theorem leD_ints (a b : List Int) : leD false (eTup D.int a) (eTup D.int b) = decide (a ≤ b) := by
  unfold leD D.pyD
  rw [ints_py, ints_py]
  simp only [cond, Option.getD_some]
  rw [PySem.W.dataLt_tuple]
  show (!PySem.W.rowLt _ _) = _
  rw [PySem.W.dataLt_ints]
  by_cases h : b < a
  · rw [decide_eq_true h, decide_eq_false (List.not_le.mpr h)]
    rfl
  · rw [decide_eq_false h, decide_eq_true (List.not_lt.mp h)]
    rfl
theorem sort_ints (ks : List (List Int)) : sortP (eTup D.int) ks = some (ks.mergeSort fun a b => decide (a ≤ b)) := by
  have h1 : ∀ ks : List (List Int), pysOf (eTup D.int) ks = some (ks.map fun b => PyData.tuple (b.map .int)) := fun ks => by
    unfold pysOf
    induction ks with
    | nil => simp [pys]
    | cons k ks ih => simp [pys, ints_py, ih]
  have h2 : sortOk (ks.map fun b => PyData.tuple (b.map .int)) = true := by
    unfold sortOk
    rw [Bool.and_eq_true, Bool.and_eq_true, Bool.or_eq_true]
    refine ⟨?_, .inl ?_, ?_⟩
    · rw [List.all_eq_true]
      intro d hd
      obtain ⟨b, _, rfl⟩ := List.mem_map.mp hd
      rw [List.all_eq_true]
      intro e he
      obtain ⟨c, _, rfl⟩ := List.mem_map.mp he
      simp [PySem.W.alike, alike_ints]
    · rw [List.all_eq_true]
      intro d hd
      obtain ⟨b, _, rfl⟩ := List.mem_map.mp hd
      rfl
    · rw [List.all_eq_true]
      intro d hd
      obtain ⟨b, _, rfl⟩ := List.mem_map.mp hd
      simp [PyData.depth, depth_ints]
  unfold sortP
  rw [h1]
  simp only [Option.bind_some]
  rw [if_pos h2]
  congr 2
  funext a b
  exact leD_ints a b
theorem sort_ixs (ns : List Str) (ks : List (List Str)) : sortP (eTup D.int) (ks.map (ixs ns)) = some ((ks.mergeSort fun b c => decide (ixs ns b ≤ ixs ns c)).map (ixs ns)) := by
  rw [sort_ints, List.map_mergeSort (s := fun a b : List Int => decide (a ≤ b))]
  intro a _ b _
  rfl
theorem sorted_ord {ns : List Str} {ks : List (List Str)} (hd : ks.Nodup) (hm : ∀ b ∈ ks, ∀ w ∈ b, w ∈ ns) : (ks.mergeSort fun b c => decide (ixs ns b ≤ ixs ns c)).Pairwise fun x y => ixs ns x < ixs ns y := by
  have h1 := List.pairwise_mergeSort (le := fun b c : List Str => decide (ixs ns b ≤ ixs ns c)) (fun a b c => leL_trans _ _ _) (fun a b => leL_total _ _) ks
  have h2 : (ks.mergeSort fun b c => decide (ixs ns b ≤ ixs ns c)).Nodup := (List.mergeSort_perm ks _).nodup_iff.mpr hd
  have h3 : ∀ b ∈ ks.mergeSort fun b c => decide (ixs ns b ≤ ixs ns c), ∀ w ∈ b, w ∈ ns := fun b hb => hm b (List.mem_mergeSort.mp hb)
  refine (List.Pairwise.and h1 h2).imp_of_mem ?_
  intro a b ha hb ⟨q1, q2⟩
  have q1 := of_decide_eq_true q1
  refine List.not_le.mp fun q => ?_
  exact q2 (ixs_inj (h3 a ha) (h3 b hb) (List.le_antisymm q1 q))
theorem eqvAll_strsR : ∀ (xs ys : List Str), PyData.eqvAll (xs.map PyData.str) (ys.map PyData.str) = decide (xs = ys)
  | [], [] => by simp [PyData.eqvAll]
  | [], _ :: _ => by simp [PyData.eqvAll]
  | _ :: _, [] => by simp [PyData.eqvAll]
  | x :: xs, y :: ys => by
    simp only [List.map_cons, PyData.eqvAll, PyData.eqv, eqvAll_strsR xs ys]
    by_cases h : x = y <;> by_cases h' : xs = ys <;> simp [h, h']
theorem ok_lowR {w : Str} (h : LowS w) : PyData.strOk w = true := by
  unfold PyData.strOk
  rw [Array.all_eq_true']
  intro c hc
  have := h c (by simpa using hc)
  simp
  omega
theorem canLay_strsR : ∀ (xs : List Str), (∀ w ∈ xs, LowS w) → PyData.canLayAll0 (xs.map PyData.str) = true
  | [], _ => by simp [PyData.canLayAll0]
  | x :: xs, h => by simp [PyData.canLayAll0, PyData.canLay0, canLay_strsR xs fun w hw => h w (by simp [hw]), ok_lowR (h x (by simp))]
theorem depth_strsR : ∀ (xs : List Str), PyData.depthAll (xs.map PyData.str) = 0
  | [] => by simp [PyData.depthAll]
  | x :: xs => by simp [PyData.depthAll, PyData.depth, depth_strsR xs]
theorem shaped_strsR (xs : List Str) (h : ∀ w ∈ xs, LowS w) : SeqAt.shaped (.tuple (xs.map PyData.str)) = true := by
  have h1 := depth_strsR xs
  have h2 := canLay_strsR xs h
  simp [SeqAt.shaped, PyData.canLay0, PyData.depth, h1, h2]
theorem pys_strsR : ∀ (xs : List Str), pys (xs.map D.str) = some (xs.map PyData.str)
  | [] => by simp [pys]
  | x :: xs => by simp [pys, D.py, pys_strsR xs]
theorem pEqB_T (xs ys : List Str) (h : ∀ w ∈ xs, LowS w) (h' : ∀ w ∈ ys, LowS w) : pEqB (eTup D.str xs) (eTup D.str ys) = some (decide (xs = ys)) := by
  simp [pEqB, eTup, D.scal, D.py, pys_strsR, shaped_strsR xs h, shaped_strsR ys h', PyData.eqv, eqvAll_strsR]
theorem pys_bs : ∀ F : List (List Str), pys (F.map (eTup D.str)) = some (F.map fun b => PyData.tuple (b.map .str))
  | [] => by simp [pys]
  | b :: F => by
    have ih := pys_bs F
    simp only [List.map_cons, pys, ih]
    simp [eTup, D.py, pys_strsR]
theorem canLay_bs : ∀ (F : List (List Str)), (∀ b ∈ F, ∀ w ∈ b, LowS w) → PyData.canLayAll0 (F.map fun b => PyData.tuple (b.map .str)) = true
  | [], _ => by simp [PyData.canLayAll0]
  | x :: xs, h => by simp [PyData.canLayAll0, PyData.canLay0, canLay_strsR x (h x (by simp)), canLay_bs xs fun w hw => h w (by simp [hw])]
theorem depth_bs : ∀ (F : List (List Str)), PyData.depthAll (F.map fun b => PyData.tuple (b.map .str)) ≤ 1
  | [] => by simp [PyData.depthAll]
  | x :: xs => by
    have := depth_bs xs
    simp only [List.map_cons, PyData.depthAll, PyData.depth, depth_strsR x]
    omega
theorem shaped_bs (F : List (List Str)) (h : ∀ b ∈ F, ∀ w ∈ b, LowS w) : SeqAt.shaped (.list (F.map fun b => PyData.tuple (b.map .str))) = true := by
  have h1 := depth_bs F
  have h2 := canLay_bs F h
  simp [SeqAt.shaped, PyData.canLay0, PyData.depth, h2]
  omega
theorem pInB_T (b : List Str) (F : List (List Str)) (hb : ∀ w ∈ b, LowS w) (h : ∀ b ∈ F, ∀ w ∈ b, LowS w) : pInB (eTup D.str b) (eLst (eTup D.str) F) = some (decide (b ∈ F)) := by
  have h1 := shaped_strsR b hb
  have h2 := shaped_bs F h
  have h3 : (eTup D.str b).py = some (.tuple (b.map .str)) := by simp [eTup, D.py, pys_strsR]
  have h4 : (eTup D.str b).scal = none := rfl
  unfold pInB eLst
  simp only [h4, h3, pys_bs, h1, h2, Bool.and_self, if_true]
  congr 1
  clear h2
  induction F with
  | nil => rfl
  | cons c F ih =>
    have := ih (fun b hb => h b (by simp [hb]))
    rw [List.map_cons, List.any_cons, this]
    simp only [PyData.eqv, eqvAll_strsR]
    rw [show decide (c = b) = decide (b = c) from decide_eq_decide.mpr eq_comm]
    simp
theorem cntL_all {ns : List Str} {b : List Str} : ∀ {F : List (List Str)}, (∀ x ∈ F, ixs ns b < ixs ns x) → F.filter (fun x => decide (ixs ns x < ixs ns b)) = []
  | F, h => List.filter_eq_nil_iff.mpr fun x hx q => List.lt_asymm (h x hx) (of_decide_eq_true q)
/-- a sorted list falls in two at b -/
theorem ord_cut {ns b : List Str} : ∀ {F : List (List Str)}, (F.Pairwise fun x y => ixs ns x < ixs ns y) → (∀ x ∈ F, ixs ns x ≠ ixs ns b) → ∃ A B, F = A ++ B ∧ (∀ x ∈ A, ixs ns x < ixs ns b) ∧ (∀ x ∈ B, ixs ns b < ixs ns x) ∧ (F.filter fun x => decide (ixs ns x < ixs ns b)) = A
  | [], _, _ => ⟨[], [], rfl, by simp, by simp, rfl⟩
  | x :: F, h, hn => by
    obtain ⟨h1, h2⟩ := List.pairwise_cons.mp h
    by_cases hx : ixs ns x < ixs ns b
    · obtain ⟨A, B, e, a1, a2, a3⟩ := ord_cut h2 fun y hy => hn y (by simp [hy])
      refine ⟨x :: A, B, by rw [e]; rfl, fun y hy => ?_, a2, by rw [List.filter_cons, if_pos (by simpa using hx), a3]⟩
      rcases List.mem_cons.mp hy with rfl | hy
      · exact hx
      · exact a1 y hy
    · have hb : ixs ns b < ixs ns x := by
        refine List.not_le.mp fun q => ?_
        exact hn x (by simp) (List.le_antisymm q (List.not_lt.mp hx))
      have hall : ∀ y ∈ x :: F, ixs ns b < ixs ns y := fun y hy => by
        rcases List.mem_cons.mp hy with rfl | hy
        · exact hb
        · exact List.lt_trans hb (h1 y hy)
      exact ⟨[], x :: F, rfl, by simp, hall, cntL_all hall⟩
theorem ord_ins {ns b : List Str} {A B : List (List Str)} (h : (A ++ B).Pairwise fun x y => ixs ns x < ixs ns y) (h1 : ∀ x ∈ A, ixs ns x < ixs ns b) (h2 : ∀ x ∈ B, ixs ns b < ixs ns x) : (A ++ [b] ++ B).Pairwise fun x y => ixs ns x < ixs ns y := by
  obtain ⟨p1, p2, p3⟩ := List.pairwise_append.mp h
  rw [List.append_assoc]
  refine List.pairwise_append.mpr ⟨p1, List.pairwise_append.mpr ⟨List.pairwise_singleton _ _, p2, fun x hx y hy => ?_⟩, fun x hx y hy => ?_⟩
  · rw [List.mem_singleton.mp hx]
    exact h2 y hy
  · rcases List.mem_append.mp hy with hy | hy
    · rw [List.mem_singleton.mp hy]
      exact h1 x hx
    · exact p3 x hx y hy
/-- a ballot of the slate -/
def Blt (ns b : List Str) : Prop := ∃ rest, (rest ++ b).Perm ns
theorem Blt.mem {ns b : List Str} (h : Blt ns b) {w : Str} (hw : w ∈ b) : w ∈ ns := by
  obtain ⟨r, h⟩ := h
  exact h.mem_iff.mp (List.mem_append_right _ hw)
theorem Blt.nodup {ns b : List Str} (h : Blt ns b) (hd : ns.Nodup) : b.Nodup := by
  obtain ⟨r, h⟩ := h
  exact ((List.nodup_append.mp (h.nodup_iff.mpr hd)).2).1
theorem Blt.len {ns b : List Str} (h : Blt ns b) : b.length ≤ ns.length := by
  obtain ⟨r, h⟩ := h
  have := h.length_eq
  simp at this
  omega
theorem Blt.nil {ns : List Str} : Blt ns [] := ⟨ns, by simp⟩
theorem Blt.all {ns : List Str} : Blt ns ns := ⟨[], by simp⟩
theorem Blt.low {ns b : List Str} (h : Blt ns b) (hn : ∀ w ∈ ns, WordS w) : ∀ w ∈ b, LowS w := fun w hw => (hn w (h.mem hw)).2.2
/-- a slate -/
structure Sla (ns : List Str) : Prop where
  w : ∀ w ∈ ns, WordS w
  d : ns.Nodup
  l1 : 1 ≤ ns.length
  l5 : ns.length ≤ 5
theorem Sla.low {ns : List Str} (h : Sla ns) : ∀ w ∈ ns, LowS w := fun w hw => (h.w w hw).2.2
theorem Sla.bl {ns b : List Str} (h : Sla ns) (hb : Blt ns b) : ∀ w ∈ b, LowS w := hb.low h.w
/-- rows of a slate: counts of a script; counts that are not below 0; any -/
def RwsOk (ns : List Str) (rs : List Rw) : Prop := ∀ r ∈ rs, Blt ns r.1 ∧ 0 ≤ r.2 ∧ r.2 ≤ 1000000000000
def RwsP (ns : List Str) (rs : List Rw) : Prop := ∀ r ∈ rs, Blt ns r.1 ∧ 0 ≤ r.2
def RwsB (ns : List Str) (rs : List Rw) : Prop := ∀ r ∈ rs, Blt ns r.1
theorem RwsOk.p {ns : List Str} {rs : List Rw} (h : RwsOk ns rs) : RwsP ns rs := fun r hr => ⟨(h r hr).1, (h r hr).2.1⟩
theorem RwsP.b {ns : List Str} {rs : List Rw} (h : RwsP ns rs) : RwsB ns rs := fun r hr => (h r hr).1
theorem RwsOk.b {ns : List Str} {rs : List Rw} (h : RwsOk ns rs) : RwsB ns rs := h.p.b
/-- the rows of a roll -/
def rsOf (s : List Str → Int) (L : List (List Str)) : List Rw := L.map fun b => (b, s b)
structure RollOk (ns : List Str) (s : List Str → Int) (L : List (List Str)) : Prop where
  ord : IsOrd ns s L
  nn : ∀ b, 0 ≤ s b
  blt : ∀ b ∈ L, Blt ns b
theorem RollOk.len {ns : List Str} {s : List Str → Int} {L : List (List Str)} (h : RollOk ns s L) : ∀ b ∈ L, b.length ≤ ns.length := fun b hb => (h.blt b hb).len
theorem RollOk.to {ns : List Str} {s t : List Str → Int} {L : List (List Str)} (h : RollOk ns s L) (e : ∀ b, s b = t b) : RollOk ns t L := by
  have e : s = t := funext e
  exact e ▸ h
theorem RollOk.uniq {ns : List Str} {s : List Str → Int} {L M : List (List Str)} (h : RollOk ns s L) (h' : RollOk ns s M) : L = M := h.ord.uniq h'.ord
theorem sumOf_scale (k : Int) (b : List Str) : ∀ rs : List Rw, sumOf (rs.map fun r => (r.1, r.2 * k)) b = sumOf rs b * k
  | [] => by simp [sumOf_nil]
  | r :: rs => by
    rw [List.map_cons, sumOf_cons, sumOf_cons, sumOf_scale k b rs, Int.add_mul]
    dsimp only
    split <;> simp
end Tn
namespace Tn
open PySem PySem.Spec PyProof.Rows L2 Dn
theorem Hp.too {α : Type} {r : PR α} {a : α} (h : Hp r fun z => z = a) : r.o = some a := by rw [h.to]; rfl
theorem perm_len {α : Type} [DecidableEq α] : ∀ {L M : List α}, L.Nodup → (∀ x ∈ L, x ∈ M) → L.length ≤ M.length
  | [], _, _, _ => Nat.zero_le _
  | x :: L, M, h, hs => by
    obtain ⟨h1, h2⟩ := List.nodup_cons.mp h
    have hx : x ∈ M := hs x (by simp)
    have := perm_len (L := L) (M := M.erase x) h2 fun y hy => (List.mem_erase_of_ne (fun e : y = x => h1 (e ▸ hy))).mpr (hs y (by simp [hy]))
    have e := List.length_erase_of_mem hx
    have : 0 < M.length := List.length_pos_of_mem hx
    simp only [List.length_cons]
    omega
/-- ballots in order -/
def srtB (ns : List Str) (ks : List (List Str)) : List (List Str) := ks.mergeSort fun b c => decide (ixs ns b ≤ ixs ns c)
def ordL (ns : List Str) (rs : List Rw) : List (List Str) := srtB ns (((rs.map (·.1)).eraseDups).filter fun b => decide (0 < sumOf rs b))
theorem nodup_eraseDups {α : Type} [BEq α] [LawfulBEq α] : ∀ l : List α, l.eraseDups.Nodup := fun l => by
  induction hn : l.length using Nat.strongRecOn generalizing l with
  | _ n ih =>
    cases l with
    | nil => simp
    | cons x l =>
      rw [List.eraseDups_cons]
      refine List.nodup_cons.mpr ⟨?_, ih _ ?_ _ rfl⟩
      · intro h
        have := List.mem_eraseDups.mp h
        simp at this
      · subst hn
        have := List.length_filter_le (fun b => !b == x) l
        simp only [List.length_cons]
        omega
theorem ordL_mem {ns : List Str} {rs : List Rw} {b : List Str} : b ∈ ordL ns rs ↔ 0 < sumOf rs b := by
  unfold ordL srtB
  rw [List.mem_mergeSort, List.mem_filter, List.mem_eraseDups, decide_eq_true_eq]
  exact ⟨fun h => h.2, fun h => ⟨sumOf_mem h, h⟩⟩
theorem ordL_ord {ns : List Str} {rs : List Rw} (h : RwsB ns rs) : IsOrd ns (sumOf rs) (ordL ns rs) := by
  refine ⟨sorted_ord ((nodup_eraseDups _).filter _) ?_, fun b => ordL_mem⟩
  intro b hb w hw
  obtain ⟨r, hr, rfl⟩ := List.mem_map.mp (List.mem_eraseDups.mp (List.mem_filter.mp hb).1)
  exact (h r hr).mem hw
theorem ordL_is {ns : List Str} {rs : List Rw} {L : List (List Str)} (h : RwsB ns rs) (hL : IsOrd ns (sumOf rs) L) : L = ordL ns rs := hL.uniq (ordL_ord h)
theorem ordL_blt {ns : List Str} {rs : List Rw} (h : RwsB ns rs) : ∀ b ∈ ordL ns rs, Blt ns b := fun b hb => by
  obtain ⟨q, hq, rfl⟩ := List.mem_map.mp (sumOf_mem (ordL_mem.mp hb))
  exact h q hq
theorem ordL_nodup {ns : List Str} {rs : List Rw} (h : RwsB ns rs) : (ordL ns rs).Nodup := (ordL_ord h).nodup
theorem ordL_len {ns : List Str} {rs : List Rw} (h : RwsB ns rs) : (ordL ns rs).length ≤ rs.length := by
  have := perm_len (ordL_nodup h) (M := rs.map (·.1)) fun b hb => sumOf_mem (ordL_mem.mp hb)
  simpa using this
theorem ordL_congr {ns : List Str} {rs qs : List Rw} (h : RwsB ns rs) (h' : RwsB ns qs) (e : ∀ b, 0 < sumOf rs b ↔ 0 < sumOf qs b) : ordL ns rs = ordL ns qs := ((ordL_ord h).same e).uniq (ordL_ord h')
/-- the sums of rows, in the order of ballots -/
def rwsT (ns : List Str) (rs : List Rw) : List Rw := rsOf (sumOf rs) (ordL ns rs)
def rollT (ns : List Str) (rs : List Rw) : List Str × List Rw := (ns, rwsT ns rs)
theorem rwsT_congr {ns : List Str} {rs qs : List Rw} (h : RwsB ns rs) (h' : RwsB ns qs) (e : ∀ b, sumOf rs b = sumOf qs b) : rwsT ns rs = rwsT ns qs := by
  unfold rwsT
  rw [ordL_congr h h' fun b => by rw [e b], show sumOf rs = sumOf qs from funext e]
theorem rollT_congr {ns : List Str} {rs qs : List Rw} (h : RwsB ns rs) (h' : RwsB ns qs) (e : ∀ b, sumOf rs b = sumOf qs b) : rollT ns rs = rollT ns qs := by
  unfold rollT
  rw [rwsT_congr h h' e]
theorem rwsT_len {ns : List Str} {rs : List Rw} (h : RwsB ns rs) : (rwsT ns rs).length ≤ rs.length := by
  unfold rwsT rsOf
  rw [List.length_map]
  exact ordL_len h
theorem RwsB.app {ns : List Str} {rs qs : List Rw} (h : RwsB ns rs) (h' : RwsB ns qs) : RwsB ns (rs ++ qs) := fun r hr => (List.mem_append.mp hr).elim (h r) (h' r)
theorem RwsP.app {ns : List Str} {rs qs : List Rw} (h : RwsP ns rs) (h' : RwsP ns qs) : RwsP ns (rs ++ qs) := fun r hr => (List.mem_append.mp hr).elim (h r) (h' r)
theorem RwsOk.app {ns : List Str} {rs qs : List Rw} (h : RwsOk ns rs) (h' : RwsOk ns qs) : RwsOk ns (rs ++ qs) := fun r hr => (List.mem_append.mp hr).elim (h r) (h' r)
theorem RwsB.nil {ns : List Str} : RwsB ns [] := fun r hr => nomatch hr
theorem RwsP.nil {ns : List Str} : RwsP ns [] := fun r hr => nomatch hr
theorem RwsOk.nil {ns : List Str} : RwsOk ns [] := fun r hr => nomatch hr
theorem getA_rs (s : List Str → Int) (b : List Str) : ∀ ks : List (List Str), getA (rsOf s ks) b = if b ∈ ks then some (s b) else none
  | [] => rfl
  | k :: ks => by
    have ih := getA_rs s b ks
    unfold getA rsOf at ih ⊢
    by_cases h : k = b
    · subst h
      simp
    · rw [List.map_cons, List.find?_cons]
      simp only [decide_eq_false h]
      rw [ih]
      simp [Ne.symm h]
theorem putA_rs {s t : List Str → Int} {b : List Str} {ks : List (List Str)} (h : ∀ c, c ≠ b → t c = s c) : putA (rsOf s ks) b (t b) = rsOf t (if b ∈ ks then ks else ks ++ [b]) := by
  unfold putA
  rw [getA_rs]
  by_cases hb : b ∈ ks
  · rw [if_pos hb, if_pos hb]
    simp only [Option.isSome_some, if_true]
    unfold rsOf
    rw [List.map_map]
    refine List.map_congr_left fun c _ => ?_
    by_cases hc : c = b
    · subst hc
      simp
    · simp [hc, h c hc]
  · rw [if_neg hb, if_neg hb]
    rw [if_neg (c := (none : Option Int).isSome = true) (by simp)]
    unfold rsOf
    rw [List.map_append]
    congr 1
    refine List.map_congr_left fun c hc => ?_
    have : c ≠ b := fun e => hb (e ▸ hc)
    rw [h c this]
theorem rsOf_keys (s : List Str → Int) (ks : List (List Str)) : (rsOf s ks).map Prod.fst = ks := by simp [rsOf, Function.comp_def]
end Tn
namespace Tn
open PySem PySem.Spec PyProof.Rows L2 Dn
/-- a string that has a place in the model's data -/
def SOk (w : Str) : Prop := PyData.strOk w = true
theorem LowS.ok {w : Str} (h : LowS w) : SOk w := ok_lowR h
theorem Sla.ok {ns : List Str} (h : Sla ns) : ∀ w ∈ ns, SOk w := fun w hw => ok_lowR (h.low w hw)
end Tn
namespace Tn
open PySem PySem.Spec PyProof.Rows L2 Dn
section
variable {α β γ : Type} [DecidableEq α] [DecidableEq β] [DecidableEq γ]
/-- what e encodes is data of depth n that is compared as it is -/
structure Dat (e : α → D) (p : α → PyData) (P : α → Prop) (n : Nat) : Prop where
  py : ∀ x, (e x).py = some (p x)
  lay : ∀ x, P x → (p x).canLay0 = true
  dep : ∀ x, (p x).depth ≤ n
  eqv : ∀ x y, PyData.eqv (p x) (p y) = decide (x = y)
variable {e : α → D} {p : α → PyData} {P : α → Prop} {n m k : Nat} {f : β → D} {q : β → PyData} {Q : β → Prop} {g : γ → D} {r : γ → PyData} {R : γ → Prop}
theorem Dat.pys (h : Dat e p P n) : ∀ xs : List α, Dn.pys (xs.map e) = some (xs.map p)
  | [] => by simp [Dn.pys]
  | x :: xs => by simp [Dn.pys, h.py, h.pys xs]
theorem Dat.lays (h : Dat e p P n) : ∀ xs : List α, (∀ x ∈ xs, P x) → PyData.canLayAll0 (xs.map p) = true
  | [], _ => by simp [PyData.canLayAll0]
  | x :: xs, hx => by simp [PyData.canLayAll0, h.lay x (hx x (by simp)), h.lays xs fun y hy => hx y (by simp [hy])]
theorem Dat.deps (h : Dat e p P n) : ∀ xs : List α, PyData.depthAll (xs.map p) ≤ n
  | [] => by simp [PyData.depthAll]
  | x :: xs => by
    have h1 := h.dep x
    have h2 := h.deps xs
    simp only [List.map_cons, PyData.depthAll]
    omega
theorem Dat.eqvs (h : Dat e p P n) : ∀ xs ys : List α, PyData.eqvAll (xs.map p) (ys.map p) = decide (xs = ys)
  | [], [] => by simp [PyData.eqvAll]
  | [], _ :: _ => by simp [PyData.eqvAll]
  | _ :: _, [] => by simp [PyData.eqvAll]
  | x :: xs, y :: ys => by
    simp only [List.map_cons, PyData.eqvAll, h.eqv, h.eqvs xs ys]
    by_cases h1 : x = y <;> by_cases h2 : xs = ys <;> simp [h1, h2]
theorem Dat.tup (h : Dat e p P n) : Dat (eTup e) (fun xs => .tuple (xs.map p)) (fun xs => ∀ x ∈ xs, P x) (n + 1) :=
  ⟨fun xs => by simp [eTup, D.py, h.pys], fun xs hx => by simp only [PyData.canLay0]; exact h.lays xs hx, fun xs => by have := h.deps xs; simp only [PyData.depth]; omega, fun xs ys => by simp only [PyData.eqv]; exact h.eqvs xs ys⟩
theorem Dat.lst (h : Dat e p P n) : Dat (eLst e) (fun xs => .list (xs.map p)) (fun xs => ∀ x ∈ xs, P x) (n + 1) :=
  ⟨fun xs => by simp [eLst, D.py, h.pys], fun xs hx => by simp only [PyData.canLay0]; exact h.lays xs hx, fun xs => by have := h.deps xs; simp only [PyData.depth]; omega, fun xs ys => by simp only [PyData.eqv]; exact h.eqvs xs ys⟩
end
end Tn
namespace Tn
open PySem PySem.Spec PyProof.Rows L2 Dn
end Tn
namespace Tn
open PySem PySem.Spec PyProof.Rows L2 Dn
section
end
end Tn
namespace Tn
open PySem PySem.Spec PyProof.Rows L2 Dn
end Tn
namespace Tn
open PySem PySem.Spec PyProof.Rows L2 Dn
end Tn
namespace Tn
open PySem PySem.Spec PyProof.Rows L2 Dn
end Tn
namespace Tn
open PySem PySem.Spec PyProof.Rows L2 Dn
def pos (x : Int) : Int := if x > 0 then x else 0
def bnd (l : List (Int × Int)) (s lam : Int) : Int := s * lam + (l.map fun p => p.2 * pos (p.1 - lam)).sum
end Tn
namespace Tn
open PySem PySem.Spec PyProof.Rows L2 Dn
def t3 (p : Int × Int × Int) : List Int := [p.1, p.2.1, p.2.2]
end Tn
namespace Tn
open PySem PySem.Spec PyProof.Rows L2 Dn
abbrev Ln := Int × Int × Int
/-- what can be done and earned: (done, earned) -/
inductive Cho : List Ln → Int → Int → Prop
  | nil : Cho [] 0 0
  | cons {g lo hi k d e : Int} {l : List Ln} (h1 : lo ≤ k) (h2 : k ≤ hi) (c : Cho l d e) : Cho ((g, lo, hi) :: l) (d + k) (e + k * g)
def loS (l : List Ln) : Int := (l.map fun p => p.2.1).sum
theorem Cho.lo {l : List Ln} {d e : Int} (c : Cho l d e) : loS l ≤ d ∧ ∀ p ∈ l, p.2.1 ≤ p.2.2 := by
  induction c with
  | nil => exact ⟨Int.le_refl _, fun p hp => nomatch hp⟩
  | cons h1 h2 c ih =>
    refine ⟨?_, fun p hp => ?_⟩
    · unfold loS at ih ⊢
      simp only [List.map_cons, List.sum_cons]
      omega
    · rcases List.mem_cons.mp hp with q | q
      · subst q; dsimp only; omega
      · exact ih.2 p q
end Tn
namespace Tn
open PySem PySem.Spec PyProof.Rows L2 Dn
end Tn
namespace Tn
open PySem PySem.Spec PyProof.Rows L2 Dn
end Tn
namespace Tn
open PySem PySem.Spec PyProof.Rows L2 Dn
theorem Blt.of {ns b : List Str} (hn : ns.Nodup) (hd : b.Nodup) (hm : ∀ w ∈ b, w ∈ ns) : Blt ns b := by
  refine ⟨ns.filter fun w => !decide (w ∈ b), (List.perm_ext_iff_of_nodup ?_ hn).mpr fun w => ?_⟩
  · refine List.nodup_append.mpr ⟨hn.filter _, hd, fun x hx y hy e => ?_⟩
    subst e
    have := (List.mem_filter.mp hx).2
    simp [hy] at this
  · rw [List.mem_append, List.mem_filter]
    constructor
    · rintro (h | h)
      · exact h.1
      · exact hm w h
    · intro h
      by_cases c : w ∈ b
      · exact .inr c
      · exact .inl ⟨h, by simpa using c⟩
theorem Cho.app {l m : List Ln} {d e d' e' : Int} (c : Cho l d e) (c' : Cho m d' e') : Cho (l ++ m) (d + d') (e + e') := by
  induction c with
  | nil => simpa using c'
  | @cons g lo hi k d e l h1 h2 c ih =>
    have := Cho.cons (g := g) h1 h2 ih
    rw [show d + k + d' = d + d' + k by omega, show e + k * g + e' = e + e' + k * g by omega]
    exact this
end Tn
namespace Tn
open PySem PySem.Spec PyProof.Rows L2 Dn
def numT (c : Int) : Str := Str.ofString (toString c)
def txT (b : List Str) : Str := if b = [] then "-" else Txt.join ">" b
def lineT (r : Rw) : Str := numT r.2 ++ " " ++ txT r.1
def linesT (rs : List Rw) : Str := Txt.join "\n" (rs.map lineT)
theorem tl_sp : TL.tl " " = [32] := by decide +kernel
theorem tl_nl : TL.tl "\n" = [10] := by decide +kernel
theorem tl_gt : TL.tl ">" = [62] := by decide +kernel
theorem tl_da : TL.tl "-" = [45] := by decide +kernel
theorem tl_numT {c : Int} (h : 0 ≤ c) : TL.tl (numT c) = TL.numL c.toNat := by
  unfold numT
  have : c = ((c.toNat : Nat) : Int) := by omega
  rw [this]
  exact TL.tl_num _
theorem fmtP_ok {c : Int} (h0 : 0 ≤ c) (h : c < 2 ^ 62) : fmtP c = some (numT c) := by
  unfold fmtP numT
  refine if_pos ?_
  by_cases e : c.natAbs = 0
  · rw [e]; decide
  · refine (Nat.log2_lt e).mpr ?_
    have : c.natAbs < 2 ^ 62 := by omega
    exact Nat.lt_of_lt_of_le this (Nat.pow_le_pow_right (by decide) (by decide))
theorem numT_len {c : Int} (h0 : 0 ≤ c) {k : Nat} (hk : 0 < k) (h : c < 10 ^ k) : (numT c).length ≤ k := by
  rw [TL.len_tl, tl_numT h0]
  refine TL.numL_len hk ?_
  have e : ((10 : Int) ^ k) = ((10 ^ k : Nat) : Int) := by simp
  rw [e] at h
  omega
theorem numT_free {c : Int} (h0 : 0 ≤ c) {s : Nat} (h : s < 48 ∨ 57 < s) : s ∉ TL.tl (numT c) := by
  rw [tl_numT h0]
  exact TL.numL_free h
theorem intP_num {c : Int} (h0 : 0 ≤ c) (h : c < 10 ^ 640) : intP (numT c) = some c := by
  have hl := numT_len h0 (by decide) h
  unfold intP
  rw [if_pos hl]
  unfold numT
  have : c = ((c.toNat : Nat) : Int) := by omega
  rw [this]
  refine TL.int_num ?_
  rw [TL.len_tl, tl_numT h0] at hl
  omega
/-- no leading zero -/
theorem numL_head : ∀ n : Nat, 0 < n → ∃ c r, TL.numL n = c :: r ∧ 49 ≤ c := by
  intro n
  induction n using Nat.strongRecOn with
  | _ n ih =>
    intro h
    by_cases c : n < 10
    · rw [TL.numL_lt c]
      exact ⟨_, _, rfl, by omega⟩
    · rw [TL.numL_step (by omega)]
      obtain ⟨c, r, e, h1⟩ := ih (n / 10) (by omega) (by omega)
      rw [e]
      exact ⟨c, r ++ _, rfl, h1⟩
theorem al_dig : ("0123456789" : Str).cps.toList = [48, 49, 50, 51, 52, 53, 54, 55, 56, 57] := by decide +kernel
theorem in_dig (c : Nat) : pInB (D.str ⟨#[c]⟩) (D.str ("0123456789" : Str)) = some (decide (48 ≤ c ∧ c ≤ 57)) := by
  have h : pInB (D.str ⟨#[c]⟩) (D.str ("0123456789" : Str)) = some (decide (c ∈ ("0123456789" : Str).cps.toList)) := by simp [pInB]
  rw [h, al_dig]
  congr 1
  refine decide_eq_decide.mpr ?_
  simp only [List.mem_cons, List.not_mem_nil, or_false]
  omega
/-- signs of a ballot's text -/
theorem tl_txT {b : List Str} (h : ∀ w ∈ b, LowS w) : ∀ c ∈ TL.tl (txT b), c = 45 ∨ c = 62 ∨ (97 ≤ c ∧ c ≤ 122) := fun c hc => by
  unfold txT at hc
  split at hc
  · rw [tl_da] at hc
    simp at hc
    exact .inl hc
  · rw [TL.join_eq, TL.tl_join, tl_gt] at hc
    have : ∀ ps : List Str, (∀ w ∈ ps, LowS w) → ∀ c ∈ TL.joinL [62] (ps.map TL.tl), c = 62 ∨ (97 ≤ c ∧ c ≤ 122) := fun ps => by
      induction ps with
      | nil => intro _ c hc; simp [TL.joinL] at hc
      | cons p ps ih =>
        intro h c hc
        cases ps with
        | nil => exact .inr (h p (by simp) c hc)
        | cons q ps =>
          have hc : c ∈ TL.tl p ++ ([62] ++ TL.joinL [62] ((q :: ps).map TL.tl)) := hc
          rw [List.mem_append, List.mem_append] at hc
          rcases hc with hc | hc | hc
          · exact .inr (h p (by simp) c hc)
          · simp at hc
            exact .inl hc
          · exact ih (fun w hw => h w (by simp [hw])) c hc
    exact .inr (this b h c hc)
theorem txT_free {b : List Str} (h : ∀ w ∈ b, LowS w) {s : Nat} (hs : s < 45) : s ∉ TL.tl (txT b) := fun hc => by
  have := tl_txT h s hc
  omega
theorem split_gt {b : List Str} (hb : b ≠ []) (h : ∀ w ∈ b, LowS w) : Txt.split (Txt.join ">" b) ">" = b := TL.split_join tl_gt (by decide +kernel) hb fun w hw hc => by
  have := h w hw 62 hc
  omega
theorem txT_da {b : List Str} (h : ∀ w ∈ b, LowS w) : txT b = "-" ↔ b = [] := by
  constructor
  · intro e
    refine Classical.byContradiction fun hb => ?_
    unfold txT at e
    rw [if_neg hb] at e
    have h1 := split_gt hb h
    rw [e] at h1
    have h2 : Txt.split (Txt.join ">" [("-" : Str)]) ">" = [("-" : Str)] := TL.split_join tl_gt (by decide +kernel) (by simp) fun w hw => by
      rw [List.mem_singleton] at hw
      subst hw
      rw [tl_da]
      decide
    rw [show Txt.join ">" [("-" : Str)] = "-" by rw [TL.join_eq]; rfl] at h2
    rw [h2] at h1
    have := h "-" (by rw [← h1]; simp) 45 (by rw [show ("-" : Str).cps.toList = [45] from tl_da]; simp)
    omega
  · rintro rfl
    rfl
theorem txT_len {ns b : List Str} (S : Sla ns) (h : Blt ns b) : (txT b).length ≤ 65 := by
  have h5 := S.l5
  have hl := h.len
  unfold txT
  split
  · decide +kernel
  · have h1 := StrLaws.join_length_le ">" b
    have h2 : ∀ xs : List Str, (∀ w ∈ xs, w ∈ ns) → (xs.map (·.length)).sum ≤ 12 * xs.length := fun xs => by
      induction xs with
      | nil => intro _; simp
      | cons x xs ih =>
        intro h
        have h1 := ih fun w hw => h w (by simp [hw])
        have h2 := (S.w x (h x (by simp))).2.1
        rw [List.map_cons, List.sum_cons, List.length_cons]
        omega
    have h3 := h2 b fun w hw => h.mem hw
    rw [TL.join_eq]
    rw [show ((">" : Str).length) = 1 by decide +kernel] at h1
    omega
/-- a row that can be written and read -/
def RwW (ns : List Str) (r : Rw) : Prop := Blt ns r.1 ∧ 1 ≤ r.2 ∧ r.2 ≤ 1000000000000
theorem line_len {ns : List Str} (S : Sla ns) {r : Rw} (h : RwW ns r) : (lineT r).length ≤ 80 := by
  have h1 := txT_len S h.1
  have h2 := numT_len (c := r.2) (by have := h.2; omega) (k := 13) (by decide) (by have := h.2; omega)
  unfold lineT
  rw [Str.length_append, Str.length_append, show ((" " : Str).length) = 1 by decide +kernel]
  omega
theorem line_part {ns : List Str} {r : Rw} (h : RwW ns r) : Txt.partition (lineT r) " " = (numT r.2, (" " : Str), txT r.1) :=
  TL.partition_app tl_sp (numT_free (c := r.2) (s := 32) (by have := h.2; omega) (by omega))
theorem line_free {ns : List Str} (S : Sla ns) {r : Rw} (h : RwW ns r) : 10 ∉ TL.tl (lineT r) := by
  unfold lineT
  rw [TL.tl_append, TL.tl_append, tl_sp]
  simp only [List.mem_append, not_or]
  exact ⟨⟨numT_free (by have := h.2; omega) (by omega), by decide⟩, txT_free (h.1.low S.w) (by omega)⟩
theorem lines_split {ns : List Str} (S : Sla ns) {rs : List Rw} (hr : ∀ r ∈ rs, RwW ns r) (hne : rs ≠ []) : Txt.split (linesT rs) "\n" = rs.map lineT :=
  TL.split_join tl_nl (by decide +kernel) (fun e => hne (List.map_eq_nil_iff.mp e)) fun p hp => by
    obtain ⟨r, h, rfl⟩ := List.mem_map.mp hp
    exact line_free S (hr r h)
theorem lines_fit {ns : List Str} (S : Sla ns) {rs : List Rw} (hr : ∀ r ∈ rs, RwW ns r) : ((rs.map lineT).map (·.length)).sum + (rs.map lineT).length * ("\n" : Str).length ≤ 81 * rs.length := by
  rw [show (("\n" : Str).length) = 1 by decide +kernel, List.length_map]
  induction rs with
  | nil => simp
  | cons r rs ih =>
    have h1 := ih fun q hq => hr q (by simp [hq])
    have h2 := line_len S (hr r (by simp))
    simp only [List.map_cons, List.sum_cons, List.length_cons] at h1 ⊢
    omega
theorem lines_len {ns : List Str} (S : Sla ns) {rs : List Rw} (hr : ∀ r ∈ rs, RwW ns r) : (linesT rs).length ≤ 81 * rs.length := by
  have h1 := StrLaws.join_length_le "\n" (rs.map lineT)
  have h2 := lines_fit S hr
  unfold linesT
  rw [TL.join_eq]
  omega
theorem lines_empty {rs : List Rw} (h : linesT rs = "") (hne : rs ≠ []) {ns : List Str} (S : Sla ns) (hr : ∀ r ∈ rs, RwW ns r) : False := by
  have h1 := lines_split S hr hne
  rw [h] at h1
  have h2 : Txt.split (Txt.join "\n" [("" : Str)]) "\n" = [("" : Str)] := TL.split_join tl_nl (by decide +kernel) (by simp) fun w hw => by
    rw [List.mem_singleton] at hw
    subst hw
    rw [show TL.tl "" = [] by decide +kernel]
    simp
  rw [show Txt.join "\n" [("" : Str)] = "" by rw [TL.join_eq]; rfl] at h2
  rw [h2] at h1
  cases rs with
  | nil => exact hne rfl
  | cons r rs =>
    rw [List.map_cons] at h1
    have : lineT r = "" := (List.cons.inj h1).1.symm
    have hl := congrArg Str.length this
    unfold lineT at hl
    rw [Str.length_append, Str.length_append, show ((" " : Str).length) = 1 by decide +kernel, show (("" : Str).length) = 0 by decide +kernel] at hl
    omega
theorem linesT_nil : linesT [] = "" := by
  unfold linesT
  rw [TL.join_eq]
  rfl
end Tn
namespace Wk
open PySem PySem.Spec PyProof.Rows L2 Dn
def topS (i : Nat) : Stmt := PySem.Challenge.pw_ballotturns_k15_texts_read.main.body.getD i (.Pass ⟨0, 0, 0, 0⟩)
abbrev s__law_mix : Stmt := topS 34
abbrev s__law_draw : Stmt := topS 36
abbrev s__law_word : Stmt := topS 37
abbrev s__law_names : Stmt := topS 38
abbrev s__law_cell : Stmt := topS 33
abbrev s__law_pool : Stmt := topS 35
abbrev s__law_choice : Stmt := topS 39
abbrev s__law_kin : Stmt := topS 47
abbrev s__law_ballot : Stmt := topS 40
abbrev s__law_line_rows : Stmt := topS 48
abbrev s__law_ballot_text : Stmt := topS 46
abbrev s__law_lines : Stmt := topS 49
abbrev s__law_same : Stmt := topS 41
abbrev s__law_sum_of : Stmt := topS 43
abbrev s__law_ahead : Stmt := topS 42
abbrev s__law_ordered : Stmt := topS 44
abbrev s__law_roll_is : Stmt := topS 45
abbrev s_is_name : Stmt := topS 16
abbrev s_checked_names : Stmt := topS 17
abbrev s_checked_ballot : Stmt := topS 18
abbrev s_sorted_rows : Stmt := topS 30
abbrev s_Roll___init__ : Stmt := match topS 31 with
  | .ClassDef (body := b) .. => b.getD 1 (.Pass ⟨0, 0, 0, 0⟩)
  | _ => .Pass ⟨0, 0, 0, 0⟩
abbrev s_is_number : Stmt := topS 22
abbrev s_is_ballot_text : Stmt := topS 23
abbrev s_ballot_of : Stmt := topS 24
abbrev s_read_line : Stmt := topS 26
abbrev s_read_rows : Stmt := topS 27
abbrev s_Roll_read : Stmt := match topS 31 with
  | .ClassDef (body := b) .. => b.getD 3 (.Pass ⟨0, 0, 0, 0⟩)
  | _ => .Pass ⟨0, 0, 0, 0⟩
abbrev s_law : Stmt := topS 50
abbrev s_Roll___iter__ : Stmt := match topS 31 with
  | .ClassDef (body := b) .. => b.getD 6 (.Pass ⟨0, 0, 0, 0⟩)
  | _ => .Pass ⟨0, 0, 0, 0⟩
abbrev s_Roll___len__ : Stmt := match topS 31 with
  | .ClassDef (body := b) .. => b.getD 7 (.Pass ⟨0, 0, 0, 0⟩)
  | _ => .Pass ⟨0, 0, 0, 0⟩
abbrev mfP : Str := PySem.Challenge.pw_ballotturns_k15_texts_read.main.file
def exT : XTab := []
def kiT : XTab := []
def ktT : XTab2 := []
def oexL : List Str := []
def oiT : XTab := [(("Roll", "Roll"), true)]
def oiU : XTab2 := []
@[simp] theorem oi_Roll_Roll : XTab.get oiT "Roll" "Roll" = some true := by decide
def fl_names : List Str := ["Roll"]
@[simp] theorem in_fl_names_Roll : ("Roll" : Str) ∈ fl_names := by decide
def fl__rows : List Str := ["Roll"]
@[simp] theorem in_fl__rows_Roll : ("Roll" : Str) ∈ fl__rows := by decide
structure TX (P : Program) (w : World) (K : Fg) [WD K] (mg : Str → Option Value) : Prop where
  wd : WD.P K = P ∧ WD.w K = w
  F__law_mix : ∃ fd, FunD K "_law_mix" "_law_mix" (defArgs s__law_mix) (defBody s__law_mix) (defScope s__law_mix) [] [] (He.ga K "_law_mix") fd
  g__law_mix : mg "_law_mix" = some (.ref (He.ga K "_law_mix"))
  F__law_draw : ∃ fd, FunD K "_law_draw" "_law_draw" (defArgs s__law_draw) (defBody s__law_draw) (defScope s__law_draw) [] [] (He.ga K "_law_draw") fd
  g__law_draw : mg "_law_draw" = some (.ref (He.ga K "_law_draw"))
  F__law_word : ∃ fd, FunD K "_law_word" "_law_word" (defArgs s__law_word) (defBody s__law_word) (defScope s__law_word) [] [] (He.ga K "_law_word") fd
  g__law_word : mg "_law_word" = some (.ref (He.ga K "_law_word"))
  F__law_names : ∃ fd, FunD K "_law_names" "_law_names" (defArgs s__law_names) (defBody s__law_names) (defScope s__law_names) [] [] (He.ga K "_law_names") fd
  g__law_names : mg "_law_names" = some (.ref (He.ga K "_law_names"))
  F__law_cell : ∃ fd, FunD K "_law_cell" "_law_cell" (defArgs s__law_cell) (defBody s__law_cell) (defScope s__law_cell) [] [] (He.ga K "_law_cell") fd
  g__law_cell : mg "_law_cell" = some (.ref (He.ga K "_law_cell"))
  F__law_pool : ∃ fd, FunD K "_law_pool" "_law_pool" (defArgs s__law_pool) (defBody s__law_pool) (defScope s__law_pool) [] [] (He.ga K "_law_pool") fd
  g__law_pool : mg "_law_pool" = some (.ref (He.ga K "_law_pool"))
  F__law_choice : ∃ fd, FunD K "_law_choice" "_law_choice" (defArgs s__law_choice) (defBody s__law_choice) (defScope s__law_choice) [] [] (He.ga K "_law_choice") fd
  g__law_choice : mg "_law_choice" = some (.ref (He.ga K "_law_choice"))
  F__law_kin : ∃ fd, FunD K "_law_kin" "_law_kin" (defArgs s__law_kin) (defBody s__law_kin) (defScope s__law_kin) [] [] (He.ga K "_law_kin") fd
  g__law_kin : mg "_law_kin" = some (.ref (He.ga K "_law_kin"))
  F__law_ballot : ∃ fd, FunD K "_law_ballot" "_law_ballot" (defArgs s__law_ballot) (defBody s__law_ballot) (defScope s__law_ballot) [] [] (He.ga K "_law_ballot") fd
  g__law_ballot : mg "_law_ballot" = some (.ref (He.ga K "_law_ballot"))
  F__law_line_rows : ∃ fd, FunD K "_law_line_rows" "_law_line_rows" (defArgs s__law_line_rows) (defBody s__law_line_rows) (defScope s__law_line_rows) [] [] (He.ga K "_law_line_rows") fd
  g__law_line_rows : mg "_law_line_rows" = some (.ref (He.ga K "_law_line_rows"))
  F__law_ballot_text : ∃ fd, FunD K "_law_ballot_text" "_law_ballot_text" (defArgs s__law_ballot_text) (defBody s__law_ballot_text) (defScope s__law_ballot_text) [] [] (He.ga K "_law_ballot_text") fd
  g__law_ballot_text : mg "_law_ballot_text" = some (.ref (He.ga K "_law_ballot_text"))
  F__law_lines : ∃ fd, FunD K "_law_lines" "_law_lines" (defArgs s__law_lines) (defBody s__law_lines) (defScope s__law_lines) [] [] (He.ga K "_law_lines") fd
  g__law_lines : mg "_law_lines" = some (.ref (He.ga K "_law_lines"))
  F__law_same : ∃ fd, FunD K "_law_same" "_law_same" (defArgs s__law_same) (defBody s__law_same) (defScope s__law_same) [] [] (He.ga K "_law_same") fd
  g__law_same : mg "_law_same" = some (.ref (He.ga K "_law_same"))
  F__law_sum_of : ∃ fd, FunD K "_law_sum_of" "_law_sum_of" (defArgs s__law_sum_of) (defBody s__law_sum_of) (defScope s__law_sum_of) [] [] (He.ga K "_law_sum_of") fd
  g__law_sum_of : mg "_law_sum_of" = some (.ref (He.ga K "_law_sum_of"))
  F__law_ahead : ∃ fd, FunD K "_law_ahead" "_law_ahead" (defArgs s__law_ahead) (defBody s__law_ahead) (defScope s__law_ahead) [] [] (He.ga K "_law_ahead") fd
  g__law_ahead : mg "_law_ahead" = some (.ref (He.ga K "_law_ahead"))
  F__law_ordered : ∃ fd, FunD K "_law_ordered" "_law_ordered" (defArgs s__law_ordered) (defBody s__law_ordered) (defScope s__law_ordered) [] [] (He.ga K "_law_ordered") fd
  g__law_ordered : mg "_law_ordered" = some (.ref (He.ga K "_law_ordered"))
  F__law_roll_is : ∃ fd, FunD K "_law_roll_is" "_law_roll_is" (defArgs s__law_roll_is) (defBody s__law_roll_is) (defScope s__law_roll_is) [] [] (He.ga K "_law_roll_is") fd
  g__law_roll_is : mg "_law_roll_is" = some (.ref (He.ga K "_law_roll_is"))
  F_is_name : ∃ fd, FunD K "is_name" "is_name" (defArgs s_is_name) (defBody s_is_name) (defScope s_is_name) [] [] (He.ga K "is_name") fd
  g_is_name : mg "is_name" = some (.ref (He.ga K "is_name"))
  F_checked_names : ∃ fd, FunD K "checked_names" "checked_names" (defArgs s_checked_names) (defBody s_checked_names) (defScope s_checked_names) [] [] (He.ga K "checked_names") fd
  g_checked_names : mg "checked_names" = some (.ref (He.ga K "checked_names"))
  F_checked_ballot : ∃ fd, FunD K "checked_ballot" "checked_ballot" (defArgs s_checked_ballot) (defBody s_checked_ballot) (defScope s_checked_ballot) [] [] (He.ga K "checked_ballot") fd
  g_checked_ballot : mg "checked_ballot" = some (.ref (He.ga K "checked_ballot"))
  F_sorted_rows : ∃ fd, FunD K "sorted_rows" "sorted_rows" (defArgs s_sorted_rows) (defBody s_sorted_rows) (defScope s_sorted_rows) [] [] (He.ga K "sorted_rows") fd
  g_sorted_rows : mg "sorted_rows" = some (.ref (He.ga K "sorted_rows"))
  F_is_number : ∃ fd, FunD K "is_number" "is_number" (defArgs s_is_number) (defBody s_is_number) (defScope s_is_number) [] [] (He.ga K "is_number") fd
  g_is_number : mg "is_number" = some (.ref (He.ga K "is_number"))
  F_is_ballot_text : ∃ fd, FunD K "is_ballot_text" "is_ballot_text" (defArgs s_is_ballot_text) (defBody s_is_ballot_text) (defScope s_is_ballot_text) [] [] (He.ga K "is_ballot_text") fd
  g_is_ballot_text : mg "is_ballot_text" = some (.ref (He.ga K "is_ballot_text"))
  F_ballot_of : ∃ fd, FunD K "ballot_of" "ballot_of" (defArgs s_ballot_of) (defBody s_ballot_of) (defScope s_ballot_of) [] [] (He.ga K "ballot_of") fd
  g_ballot_of : mg "ballot_of" = some (.ref (He.ga K "ballot_of"))
  F_read_line : ∃ fd, FunD K "read_line" "read_line" (defArgs s_read_line) (defBody s_read_line) (defScope s_read_line) [] [] (He.ga K "read_line") fd
  g_read_line : mg "read_line" = some (.ref (He.ga K "read_line"))
  F_read_rows : ∃ fd, FunD K "read_rows" "read_rows" (defArgs s_read_rows) (defBody s_read_rows) (defScope s_read_rows) [] [] (He.ga K "read_rows") fd
  g_read_rows : mg "read_rows" = some (.ref (He.ga K "read_rows"))
  F_law : ∃ fd, FunD K "law" "law" (defArgs s_law) (defBody s_law) (defScope s_law) [] [] (He.ga K "law") fd
  g_law : mg "law" = some (.ref (He.ga K "law"))
  F_Roll___iter__ : ∃ fd, FunD K "__iter__" "Roll.__iter__" (defArgs s_Roll___iter__) (defBody s_Roll___iter__) (defScope s_Roll___iter__) [] [] (He.ma K (He.ga K "Roll") "__iter__") fd
  F_Roll___len__ : ∃ fd, FunD K "__len__" "Roll.__len__" (defArgs s_Roll___len__) (defBody s_Roll___len__) (defScope s_Roll___len__) [] [] (He.ma K (He.ga K "Roll") "__len__") fd
  F_Roll___init__ : ∃ fd, FunD K "__init__" "Roll.__init__" (defArgs s_Roll___init__) (defBody s_Roll___init__) (defScope s_Roll___init__) [(.ref (He.dflAt ("Roll", some "__init__") 0 K))] [("largest", (.int 1000000000000))] (He.ma K (He.ga K "Roll") "__init__") fd
  F_Roll_read : ∃ fd, FunD K "read" "Roll.read" (defArgs s_Roll_read) (defBody s_Roll_read) (defScope s_Roll_read) [] [] (cmA K (He.ga K "Roll") "read") fd
  b_all : mg "all" = none
  b_bool : mg "bool" = none
  b_enumerate : mg "enumerate" = none
  b_int : mg "int" = none
  b_isinstance : mg "isinstance" = none
  b_iter : mg "iter" = none
  b_len : mg "len" = none
  b_list : mg "list" = none
  b_min : mg "min" = none
  b_range : mg "range" = none
  b_sorted : mg "sorted" = none
  b_str : mg "str" = none
  b_sum : mg "sum" = none
  b_tuple : mg "tuple" = none
  g_Roll : mg "Roll" = some (.ref (He.ga K "Roll"))
  cm_Roll_read : cmetB K (He.ga K "Roll") "read" = true
  fd_names : FldT K fl_names "names"
  cl_Roll : Cls K (He.ga K "Roll")
  fd__rows : FldT K fl__rows "_rows"
  fi_Roll_iter : PySem.W.findIn K (.ref (He.ga K "Roll")) "__iter__" = some (some (.ref (He.ma K (He.ga K "Roll") "__iter__")))
  ff_Roll_iter : PySem.W.isFn K (.ref (He.ma K (He.ga K "Roll") "__iter__")) = true
  fi_Roll_len : PySem.W.findIn K (.ref (He.ga K "Roll")) "__len__" = some (some (.ref (He.ma K (He.ga K "Roll") "__len__")))
  ff_Roll_len : PySem.W.isFn K (.ref (He.ma K (He.ga K "Roll") "__len__")) = true
  dv_Roll___init___rows : DvR K (.tup []) (.ref (He.dflAt ("Roll", some "__init__") 0 K))
  mk_Roll : Mk K (He.ga K "Roll") (He.ma K (He.ga K "Roll") "__init__")
  ois : (∀ c C b, XTab.get oiT c C = some b → IsiC K (He.ga K c) ∧ PySem.W.kitOne K (.ref (He.ga K c)) (.ref (He.ga K C)) = some b) ∧ ∀ c n b, XTab2.get oiU c n = some b → IsiC K (He.ga K c) ∧ PySem.W.kitOne K (.ref (He.ga K c)) (.type n) = some b
  k_DIGITS : ∃ u, mg "DIGITS" = some u ∧ RelV (.str "0123456789") u
  k_LARGEST_COUNT : ∃ u, mg "LARGEST_COUNT" = some u ∧ RelV (.int 1000000000000) u
  k_LETTERS : ∃ u, mg "LETTERS" = some u ∧ RelV (.str "abcdefghijklmnopqrstuvwxyz") u
  k_LONGEST_NAME : ∃ u, mg "LONGEST_NAME" = some u ∧ RelV (.int 12) u
  k_MOST_DIGITS : ∃ u, mg "MOST_DIGITS" = some u ∧ RelV (.int 13) u
  k_MOST_NAMES : ∃ u, mg "MOST_NAMES" = some u ∧ RelV (.int 5) u
  file : ((P.main.file : Str) == mfP) = true
  top : (P.main.scope.names.lookup ("super" : Str)).isSome = false
  b_super : mg "super" = none
  x_ex : ∀ p ∈ exT, PySem.W.exmOne K (.ref (He.ga K p.1.1)) (.ref (He.ga K p.1.2)) = some p.2
  x_ki : ∀ p ∈ kiT, ExcC K (He.ga K p.1.1) ∧ PySem.W.kitOne K (.ref (He.ga K p.1.1)) (.ref (He.ga K p.1.2)) = some p.2
  x_kt : ∀ p ∈ ktT, ExcC K (He.ga K p.1.1) ∧ PySem.W.kitOne K (.ref (He.ga K p.1.1)) (.type p.1.2) = some p.2
  x_oex : ∀ c ∈ oexL, OexS K (He.ga K c)
  x_ini : ∀ c ∈ oexL, PySem.W.findIn K (.ref (He.ga K c)) "__init__" = some (some (.ref (He.ma K (He.ga K c) "__init__"))) ∧ PySem.W.typeIn K (.ref (He.ma K (He.ga K c) "__init__")) = some (.type "function")
def b__law_mix : Ev → RS := (dSeq (dAsg 2 (dOp pMod (dCB pInt (dCons (dOp pAdd (dOp pAdd (dOp pMul (dVar 0) (dC (.int 48271))) (dOp pMul (dVar 1) (dC (.int 69621)))) (dC (.int 11))) dNil)) (dC (.int 2147483647))))
 (dSeq (dAsg 3 (dOp pMod (dCB pInt (dCons (dOp pAdd (dOp pAdd (dOp pMul (dVar 2) (dVar 2)) (dOp pMul (dVar 1) (dC (.int 16807)))) (dC (.int 3))) dNil)) (dC (.int 2147483629))))
 (dRet (dOp pMod (dCB pInt (dCons (dOp pAdd (dOp pAdd (dOp pMul (dVar 3) (dVar 3)) (dOp pMul (dVar 3) (dC (.int 40692)))) (dC (.int 7))) dNil)) (dC (.int 2147483587))))))
def d__law_mix : Ev → RE X := fnM 4 2 b__law_mix
theorem n__law_mix : NoSl d__law_mix := noSl_fn
def b__law_draw : Ev → RS := (dSeq (dIfS (dTest (dOp (pCmp fun i j => decide (i > j)) (dOp pIx (dVar 0) (dC (.int 0))) (dC (.int 0))))
 (dSeq (dAsg 2 (dOp pMod (dCB pInt (dCons (dOp pIx (dVar 0) (dC (.int 0))) dNil)) (dVar 1)))
 (dSeq (dSetI 0 (dOp pDiv (dOp pIx (dVar 0) (dC (.int 0))) (dVar 1)) (dC (.int 0)))
 (dRet (dVar 2))))
 dNext)
 (dSeq (dSetI 0 (dOp pAdd (dOp pIx (dVar 0) (dC (.int 2))) (dC (.int 1))) (dC (.int 2)))
 (dRet (dOp pMod (dCB pInt (dCons (dCall d__law_mix (dCons (dOp pIx (dVar 0) (dC (.int 1))) (dCons (dOp pIx (dVar 0) (dC (.int 2))) dNil))) dNil)) (dVar 1)))))
def d__law_draw : Ev → RE X := fnM 3 2 b__law_draw
theorem n__law_draw : NoSl d__law_draw := noSl_fn
def c__law_word_E1 : Ev → RE X := (dOp pIx (dVar 1) (dCall d__law_draw (dCons (dVar 0) (dCons (dC (.int 26)) dNil))))
def b__law_word : Ev → RS := (dSeq (dAsg 1 (dC (.str "abcdefghijklmnopqrstuvwxyz")))
 (dSeq (dAsg 2 (dFrz (dCall d__law_draw (dCons (dVar 0) (dCons (dC (.int 4)) dNil)))))
 (dSeq (dIfS (dTest (dOp pEq (dVar 2) (dC (.int 0))))
 (dRet (dOp pIx (dVar 1) (dCall d__law_draw (dCons (dVar 0) (dCons (dC (.int 26)) dNil)))))
 dNext)
 (dSeq (dAsg 3 (dFrz (dOp pAdd (dC (.int 1)) (dCall d__law_draw (dCons (dVar 0) (dCons (dC (.int 12)) dNil))))))
 (dSeq (dIfS (dTest (dOp pEq (dVar 2) (dC (.int 1))))
 (dRet (dOp pAdd (dOp pMul (dC (.str "a")) (dOp pSub (dVar 3) (dC (.int 1)))) (dOp pIx (dVar 1) (dCall d__law_draw (dCons (dVar 0) (dCons (dC (.int 26)) dNil))))))
 dNext)
 (dSeq (dIfS (dTest (dOp pEq (dVar 2) (dC (.int 2))))
 (dRet (dOp pAdd (dOp pIx (dVar 1) (dCall d__law_draw (dCons (dVar 0) (dCons (dC (.int 26)) dNil)))) (dOp pMul (dC (.str "z")) (dOp pSub (dVar 3) (dC (.int 1))))))
 dNext)
 (dRet (dM1 pJoin (dC (.str "")) (dLc (diR1 (dCons (dVar 3) dNil)) (dgName 4) (fun env => .ok true env) c__law_word_E1 [4])))))))))
def d__law_word : Ev → RE X := fnM 5 1 b__law_word
theorem n__law_word : NoSl d__law_word := noSl_fn
def c__law_names_T1 : Ev → RE Bool := (dTest (dOp pNotIn (dVar 6) (dVar 3)))
def c__law_names_E1 : Ev → RE X := (dVar 6)
def b__law_names_L1 : Ev → RS := (dSeq (dAsg 5 (dFrz (dCall d__law_word (dCons (dVar 0) dNil))))
 (dSeq (dIfS (dTest (dOp pIn (dVar 5) (dVar 3)))
 (dAsg 5 (dOp pIx (dLc (diSeq (dLst (dCons (dC (.str "a")) (dCons (dC (.str "b")) (dCons (dC (.str "c")) (dCons (dC (.str "d")) (dCons (dC (.str "e")) dNil))))))) (dgName 6) c__law_names_T1 c__law_names_E1 [6]) (dC (.int 0))))
 dNext)
 (dDrop (dMut 3 OD.isL mApp (dCons (dVar 5) dNil)))))
def b__law_names : Ev → RS := (dSeq (dAsg 3 (dLst dNil))
 (dSeq (dFor (diR1 (dCons (dOp pAdd (dVar 1) (dCall d__law_draw (dCons (dVar 0) (dCons (dFrz (dOp pAdd (dOp pSub (dVar 2) (dVar 1)) (dC (.int 1)))) dNil)))) dNil)) (dgName 4)
 (dWp [4, 5] b__law_names_L1))
 (dRet (dCB pTuple (dCons (dVar 3) dNil)))))
def d__law_names : Ev → RE X := fnM 7 3 b__law_names
theorem n__law_names : NoSl d__law_names := noSl_fn
def b__law_cell : Ev → RS := (dSeq (dIfS (dTest (dOp (pCmp fun i j => decide (i < j)) (dVar 1) (dCB pLen (dCons (dVar 0) dNil))))
 (dRet (dOp pIx (dVar 0) (dVar 1)))
 dNext)
 (dRet (dC (.int 0))))
def d__law_cell : Ev → RE X := fnM 2 2 b__law_cell
theorem n__law_cell : NoSl d__law_cell := noSl_fn
def b__law_pool : Ev → RS := (dSeq (dAsg 2 (dFrz (dCall d__law_cell (dCons (dVar 0) (dCons (dVar 1) dNil)))))
 (dSeq (dIfS (dTest (dOp (pCmp fun i j => decide (i ≥ j)) (dVar 2) (dOp pPow (dC (.int 10)) (dC (.int 18)))))
 (dRet (dLst (dCons (dOp pSub (dVar 2) (dOp pPow (dC (.int 10)) (dC (.int 18)))) (dCons (dOp pAdd (dOp pMul (dVar 2) (dC (.int 64))) (dVar 1)) (dCons (dC (.int 0)) dNil)))))
 dNext)
 (dRet (dLst (dCons (dC (.int 0)) (dCons (dOp pAdd (dOp pMul (dVar 2) (dC (.int 64))) (dVar 1)) (dCons (dC (.int 0)) dNil)))))))
def d__law_pool : Ev → RE X := fnM 3 2 b__law_pool
theorem n__law_pool : NoSl d__law_pool := noSl_fn
def b__law_choice_L1 : Ev → RS := (dSeq (dAsg 6 (dFrz (dCall d__law_draw (dCons (dVar 0) (dCons (dCB pLen (dCons (dVar 3) dNil)) dNil)))))
 (dDrop (dMut 4 OD.isL mApp (dCons (dMut 3 OD.isL mPopAt (dCons (dVar 6) dNil)) dNil))))
def b__law_choice : Ev → RS := (dSeq (dAsg 3 (dCB pList (dCons (dVar 1) dNil)))
 (dSeq (dAsg 4 (dLst dNil))
 (dSeq (dFor (diR1 (dCons (dVar 2) dNil)) (dgName 5)
 (dWp [5, 6] b__law_choice_L1))
 (dRet (dCB pTuple (dCons (dVar 4) dNil))))))
def d__law_choice : Ev → RE X := fnM 7 3 b__law_choice
theorem n__law_choice : NoSl d__law_choice := noSl_fn
def c__law_kin_E1 : Ev → RE X := (dOp pAdd (dOp pAdd (dSl (dVar 2) dNone (dSome (dVar 3))) (dVar 5)) (dSl (dVar 2) (dSome (dOp pAdd (dVar 3) (dC (.int 1)))) dNone))
def b__law_kin : Ev → RS := (dSeq (dAsg 2 (dFrz (dCall d__law_word (dCons (dVar 0) dNil))))
 (dSeq (dAsg 3 (dFrz (dCall d__law_draw (dCons (dVar 0) (dCons (dCB pLen (dCons (dVar 2) dNil)) dNil)))))
 (dSeq (dAsg 4 (dFrz (dCall d__law_choice (dCons (dVar 0) (dCons (dC (.str "abcdefghijklmnopqrstuvwxyz")) (dCons (dVar 1) dNil))))))
 (dRet (dCB pTuple (dCons (dLc (diSeq (dVar 4)) (dgName 5) (fun env => .ok true env) c__law_kin_E1 [5]) dNil))))))
def d__law_kin : Ev → RE X := fnM 6 2 b__law_kin
theorem n__law_kin : NoSl d__law_kin := noSl_fn
def b__law_ballot : Ev → RS := (dRet (dCall d__law_choice (dCons (dVar 0) (dCons (dVar 1) (dCons (dFrz (dCall d__law_draw (dCons (dVar 0) (dCons (dFrz (dOp pAdd (dCB pLen (dCons (dVar 1) dNil)) (dC (.int 1)))) dNil)))) dNil)))))
def d__law_ballot : Ev → RE X := fnM 2 2 b__law_ballot
theorem n__law_ballot : NoSl d__law_ballot := noSl_fn
def b__law_line_rows_L1 : Ev → RS := (dSeq (dAsg 5 (dFrz (dCall d__law_ballot (dCons (dVar 0) (dCons (dVar 1) dNil)))))
 (dSeq (dIfS (dtAnd (dTest (dOp (pCmp fun i j => decide (i > j)) (dCB pLen (dCons (dVar 3) dNil)) (dC (.int 0)))) (dTest (dOp pEq (dCall d__law_draw (dCons (dVar 0) (dCons (dC (.int 3)) dNil))) (dC (.int 0)))))
 (dAsg 5 (dOp pIx (dOp pIx (dVar 3) (dCall d__law_draw (dCons (dVar 0) (dCons (dCB pLen (dCons (dVar 3) dNil)) dNil)))) (dC (.int 0))))
 dNext)
 (dSeq (dAsg 6 (dFrz (dCall d__law_draw (dCons (dVar 0) (dCons (dC (.int 4)) dNil)))))
 (dSeq (dAsg 7 (dOp pPow (dC (.int 10)) (dC (.int 12))))
 (dSeq (dIfS (dTest (dOp (pCmp fun i j => decide (i < j)) (dVar 6) (dC (.int 3))))
 (dAsg 7 (dFrz (dOp pAdd (dC (.int 1)) (dCall d__law_draw (dCons (dVar 0) (dCons (dOp pIx (dLst (dCons (dC (.int 4)) (dCons (dC (.int 30)) (dCons (dOp pPow (dC (.int 10)) (dC (.int 12))) dNil)))) (dVar 6)) dNil))))))
 dNext)
 (dDrop (dMut 3 OD.isL mApp (dCons (dTup (dCons (dVar 5) (dCons (dVar 7) dNil))) dNil))))))))
def b__law_line_rows : Ev → RS := (dSeq (dAsg 2 (dC (.int 7)))
 (dSeq (dIfS (dTest (dOp pEq (dCall d__law_draw (dCons (dVar 0) (dCons (dC (.int 4)) dNil))) (dC (.int 0))))
 (dAsg 2 (dC (.int 25)))
 dNext)
 (dSeq (dAsg 3 (dLst dNil))
 (dSeq (dFor (diR1 (dCons (dCall d__law_draw (dCons (dVar 0) (dCons (dVar 2) dNil))) dNil)) (dgName 4)
 (dWp [4, 5, 6, 7] b__law_line_rows_L1))
 (dRet (dVar 3))))))
def d__law_line_rows : Ev → RE X := fnM 8 2 b__law_line_rows
theorem n__law_line_rows : NoSl d__law_line_rows := noSl_fn
def b__law_ballot_text : Ev → RS := (dSeq (dIfS (dTest (dOp pEq (dCB pLen (dCons (dVar 0) dNil)) (dC (.int 0))))
 (dRet (dC (.str "-")))
 dNext)
 (dRet (dM1 pJoin (dC (.str ">")) (dCB pList (dCons (dVar 0) dNil)))))
def d__law_ballot_text : Ev → RE X := fnM 1 1 b__law_ballot_text
theorem n__law_ballot_text : NoSl d__law_ballot_text := noSl_fn
def c__law_lines_E1 : Ev → RE X := (dOp pAdd (dOp pAdd (dCB pStrI (dCons (dVar 2) dNil)) (dC (.str " "))) (dCall d__law_ballot_text (dCons (dVar 1) dNil)))
def b__law_lines : Ev → RS := (dRet (dLc (diSeq (dVar 0)) (dgTup 2 (dgCons (dgName 1) (dgCons (dgName 2) dgNil))) (fun env => .ok true env) c__law_lines_E1 [1, 2]))
def d__law_lines : Ev → RE X := fnM 3 1 b__law_lines
theorem n__law_lines : NoSl d__law_lines := noSl_fn
def b__law_same_L1 (REC : Ev → RE X) : Ev → RS := (dIfS (dtNot (dTest (dCall REC (dCons (dOp pIx (dVar 0) (dVar 2)) (dCons (dOp pIx (dVar 1) (dVar 2)) dNil)))))
 (dRet (dC (.bl false)))
 dNext)
def b__law_same (REC : Ev → RE X) : Ev → RS := (dSeq (dIfS (dTest (dOp pIsN (dVar 1) (dC .non)))
 (dRet (dOp pIsN (dVar 0) (dC .non)))
 dNext)
 (dSeq (dIfS (dTest (dCB pIsi (dCons (dVar 1) (dCons (dC (.ty "bool")) dNil))))
 (dRet (dAndV (dCB pIsi (dCons (dVar 0) (dCons (dC (.ty "bool")) dNil))) (dOp pEq (dVar 0) (dVar 1))))
 dNext)
 (dSeq (dIfS (dTest (dCB pIsi (dCons (dVar 1) (dCons (dC (.ty "int")) dNil))))
 (dRet (dAndV (dCB pIsi (dCons (dVar 0) (dCons (dC (.ty "int")) dNil))) (dAndV (dNotV (dCB pIsi (dCons (dVar 0) (dCons (dC (.ty "bool")) dNil)))) (dOp pEq (dVar 0) (dVar 1)))))
 dNext)
 (dSeq (dIfS (dTest (dCB pIsi (dCons (dVar 1) (dCons (dC (.ty "str")) dNil))))
 (dRet (dAndV (dCB pIsi (dCons (dVar 0) (dCons (dC (.ty "str")) dNil))) (dOp pEq (dVar 0) (dVar 1))))
 dNext)
 (dSeq (dIfS (dtAnd (dTest (dCB pIsi (dCons (dVar 1) (dCons (dC (.ty "tuple")) dNil)))) (dtNot (dTest (dCB pIsi (dCons (dVar 0) (dCons (dC (.ty "tuple")) dNil))))))
 (dRet (dC (.bl false)))
 dNext)
 (dSeq (dIfS (dtAnd (dTest (dCB pIsi (dCons (dVar 1) (dCons (dC (.ty "list")) dNil)))) (dtNot (dTest (dCB pIsi (dCons (dVar 0) (dCons (dC (.ty "list")) dNil))))))
 (dRet (dC (.bl false)))
 dNext)
 (dSeq (dIfS (dTest (dOp pNe (dCB pLen (dCons (dVar 0) dNil)) (dCB pLen (dCons (dVar 1) dNil))))
 (dRet (dC (.bl false)))
 dNext)
 (dSeq (dFor (diR1 (dCons (dCB pLen (dCons (dVar 1) dNil)) dNil)) (dgName 2)
 (dWp [2] (b__law_same_L1 REC)))
 (dRet (dC (.bl true)))))))))))
def d__law_same : Nat → Ev → RE X
  | 0 => fun _ => .bad
  | n + 1 => fnM 3 2 (b__law_same (d__law_same n))
theorem n__law_same : ∀ n, NoSl (d__law_same n)
  | 0 => noSl_bad
  | n + 1 => noSl_fn
def c__law_sum_of_T1 : Ev → RE Bool := (dTest (dOp pEq (dVar 2) (dVar 1)))
def c__law_sum_of_E1 : Ev → RE X := (dVar 3)
def b__law_sum_of : Ev → RS := (dRet (dCB pSum (dCons (dLc (diSeq (dVar 0)) (dgTup 2 (dgCons (dgName 2) (dgCons (dgName 3) dgNil))) c__law_sum_of_T1 c__law_sum_of_E1 [2, 3]) dNil)))
def d__law_sum_of : Ev → RE X := fnM 4 2 b__law_sum_of
theorem n__law_sum_of : NoSl d__law_sum_of := noSl_fn
def b__law_ahead_L1 : Ev → RS := (dIfS (dTest (dOp pNe (dOp pIx (dVar 1) (dVar 3)) (dOp pIx (dVar 2) (dVar 3))))
 (dRet (dOp (pCmp fun i j => decide (i < j)) (dTIx (dVar 0) (dOp pIx (dVar 1) (dVar 3))) (dTIx (dVar 0) (dOp pIx (dVar 2) (dVar 3)))))
 dNext)
def b__law_ahead : Ev → RS := (dSeq (dFor (diR1 (dCons (dCB pMin (dCons (dCB pLen (dCons (dVar 1) dNil)) (dCons (dCB pLen (dCons (dVar 2) dNil)) dNil))) dNil)) (dgName 3)
 (dWp [3] b__law_ahead_L1))
 (dRet (dOp (pCmp fun i j => decide (i < j)) (dCB pLen (dCons (dVar 1) dNil)) (dCB pLen (dCons (dVar 2) dNil)))))
def d__law_ahead : Ev → RE X := fnM 4 3 b__law_ahead
theorem n__law_ahead : NoSl d__law_ahead := noSl_fn
def c__law_ordered_T1 : Ev → RE Bool := (dTest (dCall d__law_ahead (dCons (dVar 0) (dCons (dVar 6) (dCons (dVar 3) dNil)))))
def c__law_ordered_E1 : Ev → RE X := (dVar 6)
def b__law_ordered_L1 : Ev → RS := (dWp [5] (dIfS (dtAnd (dTest (dOp pNotIn (dVar 3) (dVar 2))) (dTest (dOp (pCmp fun i j => decide (i > j)) (dCall d__law_sum_of (dCons (dVar 1) (dCons (dVar 3) dNil))) (dC (.int 0)))))
 (dSeq (dAsg 5 (dCB pLen (dCons (dLc (diSeq (dVar 2)) (dgName 6) c__law_ordered_T1 c__law_ordered_E1 [6]) dNil)))
 (dDrop (dMut 2 OD.isL mIns (dCons (dVar 5) (dCons (dVar 3) dNil)))))
 dNext))
def c__law_ordered_E2 : Ev → RE X := (dTup (dCons (dVar 3) (dCons (dCall d__law_sum_of (dCons (dVar 1) (dCons (dVar 3) dNil))) dNil)))
def b__law_ordered : Ev → RS := (dSeq (dAsg 2 (dLst dNil))
 (dSeq (dFor (diSeq (dVar 1)) (dgTup 2 (dgCons (dgName 3) (dgCons (dgName 4) dgNil)))
 (dWp [3, 4, 5] b__law_ordered_L1))
 (dRet (dLc (diSeq (dVar 2)) (dgName 3) (fun env => .ok true env) c__law_ordered_E2 [3]))))
def d__law_ordered : Ev → RE X := fnM 7 2 b__law_ordered
theorem n__law_ordered : NoSl d__law_ordered := noSl_fn
def b__law_roll_is : Ev → RS := (dSeq (dIfS (dtNot (dTest (dCB (pIsiO (XTab.get oiT) (XTab2.get oiU)) (dCons (dVar 0) (dCons (dC (.cls "Roll")) dNil)))))
 (dRet (dC (.bl false)))
 dNext)
 (dRet (dAndV (dCall (d__law_same 5) (dCons (dFldF fl_names "names" (dVar 0)) (dCons (dVar 1) dNil))) (dCall (d__law_same 5) (dCons (dFrz (dCB (pListO ["Roll"] "_rows") (dCons (dVar 0) dNil))) (dCons (dFrz (dCall d__law_ordered (dCons (dVar 1) (dCons (dVar 2) dNil)))) dNil))))))
def d__law_roll_is : Ev → RE X := fnM 3 3 b__law_roll_is
theorem n__law_roll_is : NoSl d__law_roll_is := noSl_fn
def c_is_name_E1 : Ev → RE X := (dOp pIn (dVar 1) (dC (.str "abcdefghijklmnopqrstuvwxyz")))
def b_is_name : Ev → RS := (dSeq (dIfS (dtNot (dTest (dChain (fun i j => decide (i ≤ j)) (fun i j => decide (i ≤ j)) (dC (.int 1)) (dCB pLen (dCons (dVar 0) dNil)) (dC (.int 12)))))
 (dRet (dC (.bl false)))
 dNext)
 (dRet (dCB pAll (dCons (dLc (diSeq (dVar 0)) (dgName 1) (fun env => .ok true env) c_is_name_E1 [1]) dNil))))
def d_is_name : Ev → RE X := fnM 2 1 b_is_name
theorem n_is_name : NoSl d_is_name := noSl_fn
def b_checked_names_L1 : Ev → RS := (dSeq (dIfS (dtNot (dTest (dCall d_is_name (dCons (dVar 2) dNil))))
 dNever
 dNext)
 (dIfS (dTest (dOp pIn (dVar 2) (dSl (dVar 0) dNone (dSome (dVar 1)))))
 dNever
 dNext))
def b_checked_names : Ev → RS := (dSeq (dIfS (dtNot (dTest (dChain (fun i j => decide (i ≤ j)) (fun i j => decide (i ≤ j)) (dC (.int 1)) (dCB pLen (dCons (dVar 0) dNil)) (dC (.int 5)))))
 dNever
 dNext)
 (dSeq (dFor (diEnum (dVar 0)) (dgTup 2 (dgCons (dgName 1) (dgCons (dgName 2) dgNil)))
 (dWp [1, 2] b_checked_names_L1))
 (dRet (dVar 0))))
def d_checked_names : Ev → RE X := fnM 3 1 b_checked_names
theorem n_checked_names : NoSl d_checked_names := noSl_fn
def b_checked_ballot_L1 : Ev → RS := (dSeq (dIfS (dTest (dOp pNotIn (dVar 3) (dVar 0)))
 dNever
 dNext)
 (dIfS (dTest (dOp pIn (dVar 3) (dSl (dVar 1) dNone (dSome (dVar 2)))))
 dNever
 dNext))
def b_checked_ballot : Ev → RS := (dSeq (dFor (diEnum (dVar 1)) (dgTup 2 (dgCons (dgName 2) (dgCons (dgName 3) dgNil)))
 (dWp [2, 3] b_checked_ballot_L1))
 (dRet (dVar 1)))
def d_checked_ballot : Ev → RE X := fnM 4 2 b_checked_ballot
theorem n_checked_ballot : NoSl d_checked_ballot := noSl_fn
def c_sorted_rows_E1 : Ev → RE X := (dTIx (dVar 0) (dVar 7))
def c_sorted_rows_T2 : Ev → RE Bool := (dTest (dOp (pCmp fun i j => decide (i > j)) (dOp pItD (dVar 1) (dVar 5)) (dC (.int 0))))
def c_sorted_rows_E2 : Ev → RE X := (dCB pTuple (dCons (dLc (diSeq (dVar 5)) (dgName 7) (fun env => .ok true env) c_sorted_rows_E1 [7]) dNil))
def c_sorted_rows_E3 : Ev → RE X := (dOp pIx (dVar 0) (dVar 6))
def c_sorted_rows_E4 : Ev → RE X := (dCB pTuple (dCons (dLc (diSeq (dVar 4)) (dgName 6) (fun env => .ok true env) c_sorted_rows_E3 [6]) dNil))
def c_sorted_rows_E5 : Ev → RE X := (dTup (dCons (dVar 5) (dCons (dOp pItD (dVar 1) (dVar 5)) dNil)))
def b_sorted_rows : Ev → RS := (dSeq (dAsg 2 (dFrz (dCB pSorted (dCons (dLc (diKs (dVar 1)) (dgName 5) c_sorted_rows_T2 c_sorted_rows_E2 [5]) dNil))))
 (dSeq (dAsg 3 (dFrz (dLc (diSeq (dVar 2)) (dgName 4) (fun env => .ok true env) c_sorted_rows_E4 [4])))
 (dRet (dCB pTuple (dCons (dLc (diSeq (dVar 3)) (dgName 5) (fun env => .ok true env) c_sorted_rows_E5 [5]) dNil)))))
def d_sorted_rows : Ev → RE X := fnM 8 2 b_sorted_rows
theorem n_sorted_rows : NoSl d_sorted_rows := noSl_fn
def b_Roll___init___L1 : Ev → RS := (dSeq (dDrop (dCall d_checked_ballot (dCons (dFldF fl_names "names" (dVar 0)) (dCons (dVar 5) dNil))))
 (dSeq (dIfS (dtOr (dTest (dOp (pCmp fun i j => decide (i < j)) (dVar 6) (dC (.int 0)))) (dtAnd (dTest (dOp pNotN (dVar 3) (dC .non))) (dTest (dOp (pCmp fun i j => decide (i > j)) (dVar 6) (dVar 3)))))
 dNever
 dNext)
 (dSetD 4 (dOp pAdd (dGetD (dVar 4) (dVar 5) (dC (.int 0))) (dVar 6)) (dVar 5))))
def b_Roll___init__ : Ev → RS := (dSeq (dSetF fl_names 0 "names" (dCall d_checked_names (dCons (dVar 1) dNil)))
 (dSeq (dAsg 4 dNewT)
 (dSeq (dFor (diSeq (dVar 2)) (dgTup 2 (dgCons (dgName 5) (dgCons (dgName 6) dgNil)))
 (dWp [5, 6] b_Roll___init___L1))
 (dFz [4] (dSetF fl__rows 0 "_rows" (dCall d_sorted_rows (dCons (dFldF fl_names "names" (dVar 0)) (dCons (dVar 4) dNil))))))))
def d_Roll___init__ : Ev → RE X := fnM 7 4 b_Roll___init__
theorem n_Roll___init__ : NoSl d_Roll___init__ := noSl_fn
def c_is_number_E1 : Ev → RE X := (dOp pIn (dVar 1) (dC (.str "0123456789")))
def b_is_number : Ev → RS := (dSeq (dIfS (dtOr (dTest (dOp pEq (dVar 0) (dC (.str "")))) (dtNot (dTest (dCB pAll (dCons (dLc (diSeq (dVar 0)) (dgName 1) (fun env => .ok true env) c_is_number_E1 [1]) dNil)))))
 (dRet (dC (.bl false)))
 dNext)
 (dRet (dOrV (dOp pEq (dVar 0) (dC (.str "0"))) (dOp pNe (dOp pIx (dVar 0) (dC (.int 0))) (dC (.str "0"))))))
def d_is_number : Ev → RE X := fnM 2 1 b_is_number
theorem n_is_number : NoSl d_is_number := noSl_fn
def c_is_ballot_text_E1 : Ev → RE X := (dCall d_is_name (dCons (dVar 1) dNil))
def b_is_ballot_text : Ev → RS := (dRet (dOrV (dOp pEq (dVar 0) (dC (.str "-"))) (dCB pAll (dCons (dLc (diSeq (dM1 pSplit (dVar 0) (dC (.str ">")))) (dgName 1) (fun env => .ok true env) c_is_ballot_text_E1 [1]) dNil))))
def d_is_ballot_text : Ev → RE X := fnM 2 1 b_is_ballot_text
theorem n_is_ballot_text : NoSl d_is_ballot_text := noSl_fn
def b_ballot_of : Ev → RS := (dSeq (dIfS (dTest (dOp pEq (dVar 0) (dC (.str "-"))))
 (dRet (dTup dNil))
 dNext)
 (dRet (dCB pTuple (dCons (dM1 pSplit (dVar 0) (dC (.str ">"))) dNil))))
def d_ballot_of : Ev → RE X := fnM 1 1 b_ballot_of
theorem n_ballot_of : NoSl d_ballot_of := noSl_fn
def b_read_line_L1 : Ev → RS := (dSeq (dIfS (dTest (dOp pNotIn (dVar 8) (dVar 0)))
 dNever
 dNext)
 (dIfS (dTest (dOp pIn (dVar 8) (dSl (dVar 6) dNone (dSome (dVar 7)))))
 dNever
 dNext))
def b_read_line : Ev → RS := (dSeq (dAsgG (dgTup 3 (dgCons (dgName 3) (dgCons (dgName 4) (dgCons (dgName 5) dgNil)))) (dM1 pPart (dVar 2) (dC (.str " "))))
 (dSeq (dIfS (dtOr (dTest (dOp pEq (dVar 4) (dC (.str "")))) (dtOr (dtNot (dTest (dCall d_is_number (dCons (dVar 3) dNil)))) (dtNot (dTest (dCall d_is_ballot_text (dCons (dVar 5) dNil))))))
 dNever
 dNext)
 (dSeq (dIfS (dtOr (dTest (dOp (pCmp fun i j => decide (i > j)) (dCB pLen (dCons (dVar 3) dNil)) (dC (.int 13)))) (dtNot (dTest (dChain (fun i j => decide (i ≤ j)) (fun i j => decide (i ≤ j)) (dC (.int 1)) (dCB pIntT (dCons (dVar 3) dNil)) (dC (.int 1000000000000))))))
 dNever
 dNext)
 (dSeq (dAsg 6 (dFrz (dCall d_ballot_of (dCons (dVar 5) dNil))))
 (dSeq (dFor (diEnum (dVar 6)) (dgTup 2 (dgCons (dgName 7) (dgCons (dgName 8) dgNil)))
 (dWp [7, 8] b_read_line_L1))
 (dRet (dTup (dCons (dVar 6) (dCons (dCB pIntT (dCons (dVar 3) dNil)) dNil)))))))))
def d_read_line : Ev → RE X := fnM 9 3 b_read_line
theorem n_read_line : NoSl d_read_line := noSl_fn
def c_read_rows_E1 : Ev → RE X := (dCall d_read_line (dCons (dVar 0) (dCons (dFrz (dOp pAdd (dVar 2) (dC (.int 1)))) (dCons (dVar 3) dNil))))
def b_read_rows : Ev → RS := (dSeq (dIfS (dTest (dOp pEq (dVar 1) (dC (.str ""))))
 (dRet (dLst dNil))
 dNext)
 (dRet (dLc (diEnum (dM1 pSplit (dVar 1) (dC (.str "\n")))) (dgTup 2 (dgCons (dgName 2) (dgCons (dgName 3) dgNil))) (fun env => .ok true env) c_read_rows_E1 [2, 3])))
def d_read_rows : Ev → RE X := fnM 4 2 b_read_rows
theorem n_read_rows : NoSl d_read_rows := noSl_fn
def b_Roll_read : Ev → RS := (dRet (dFrz (dGuard 0 "Roll" (dMakeF "Roll" d_Roll___init__ (dArr 2 0 [.a 0, .a 1, .d (.int 1000000000000)] (dCons (dVar 1) (dCons (dFrz (dCall d_read_rows (dCons (dFrz (dCall d_checked_names (dCons (dVar 1) dNil))) (dCons (dVar 2) dNil)))) dNil)) dNil)))))
def d_Roll_read : Ev → RE X := fnM 3 3 b_Roll_read
theorem n_Roll_read : NoSl d_Roll_read := noSl_fn
def b_law_I1 : Ev → RS := (dIfS (dTest (dOp pEq (dCall d__law_draw (dCons (dVar 2) (dCons (dC (.int 3)) dNil))) (dC (.int 1))))
 (dAsg 1 (dFrz (dCall d__law_kin (dCons (dVar 2) (dCons (dCB pLen (dCons (dVar 1) dNil)) dNil)))))
 dNext)
def b_law_I2 : Ev → RS := (dIfS (dTest (dOp pEq (dCall d__law_draw (dCons (dVar 3) (dCons (dC (.int 4)) dNil))) (dC (.int 3))))
 (dAsg 7 (dFrz (dOp pAdd (dC (.int 1)) (dCall d__law_draw (dCons (dVar 3) (dCons (dC (.int 16)) dNil))))))
 dNext)
def c_law_E1 : Ev → RE X := (dTup (dCons (dVar 10) (dCons (dOp pMul (dVar 11) (dVar 7)) dNil)))
def b_law_L1 : Ev → RS := (dIfS (dtNot (dTest (dCall d__law_roll_is (dCons (dCall d_Roll_read (dCons (dC (.cls "Roll")) (dCons (dVar 1) (dCons (dOp pIx (dVar 5) (dVar 9)) dNil)))) (dCons (dVar 1) (dCons (dFrz (dLst (dCons (dOp pIx (dVar 4) (dVar 9)) dNil))) dNil))))))
 (dRet (dC (.bl false)))
 dNext)
def b_law : Ev → RS := (dSeq (dAsg 1 (dFrz (dCall d__law_names (dCons (dCall d__law_pool (dCons (dVar 0) (dCons (dC (.int 0)) dNil))) (dCons (dC (.int 1)) (dCons (dC (.int 5)) dNil))))))
 (dSeq (dAsg 2 (dCall d__law_pool (dCons (dVar 0) (dCons (dC (.int 2)) dNil))))
 (dSeq b_law_I1
 (dSeq (dAsg 3 (dCall d__law_pool (dCons (dVar 0) (dCons (dC (.int 1)) dNil))))
 (dSeq (dAsg 4 (dFrz (dCall d__law_line_rows (dCons (dVar 3) (dCons (dVar 1) dNil)))))
 (dSeq (dAsg 5 (dFrz (dCall d__law_lines (dCons (dVar 4) dNil))))
 (dSeq (dAsg 6 (dM1 pJoin (dC (.str "\n")) (dVar 5)))
 (dSeq (dAsg 7 (dC (.int 1)))
 (dSeq b_law_I2
 (dSeq (dIfS (dtOr (dtNot (dTest (dCall d__law_roll_is (dCons (dCall d_Roll_read (dCons (dC (.cls "Roll")) (dCons (dVar 1) (dCons (dVar 6) dNil)))) (dCons (dVar 1) (dCons (dVar 4) dNil)))))) (dtNot (dTest (dCall d__law_roll_is (dCons (dCall d_Roll_read (dCons (dC (.cls "Roll")) (dCons (dVar 1) (dCons (dC (.str "")) dNil)))) (dCons (dVar 1) (dCons (dFrz (dLst dNil)) dNil)))))))
 (dRet (dC (.bl false)))
 dNext)
 (dSeq (dIfS (dtNot (dTest (dCall d__law_roll_is (dCons (dCall d_Roll_read (dCons (dC (.cls "Roll")) (dCons (dVar 1) (dCons (dM1 pJoin (dC (.str "\n")) (dUn pRevL (dVar 5))) dNil)))) (dCons (dVar 1) (dCons (dVar 4) dNil))))))
 (dRet (dC (.bl false)))
 dNext)
 (dSeq (dAsg 8 (dFrz (dLc (diSeq (dVar 4)) (dgTup 2 (dgCons (dgName 10) (dgCons (dgName 11) dgNil))) (fun env => .ok true env) c_law_E1 [10, 11])))
 (dSeq (dIfS (dtNot (dTest (dCall d__law_roll_is (dCons (dCall d_Roll_read (dCons (dC (.cls "Roll")) (dCons (dVar 1) (dCons (dM1 pJoin (dC (.str "\n")) (dOp pMul (dVar 5) (dVar 7))) dNil)))) (dCons (dVar 1) (dCons (dVar 8) dNil))))))
 (dRet (dC (.bl false)))
 dNext)
 (dSeq (dFor (diR1 (dCons (dCB pLen (dCons (dVar 4) dNil)) dNil)) (dgName 9)
 (dWp [9] b_law_L1))
 (dRet (dCall d__law_roll_is (dCons (dCall d_Roll_read (dCons (dC (.cls "Roll")) (dCons (dVar 1) (dCons (dVar 6) dNil)))) (dCons (dVar 1) (dCons (dVar 4) dNil)))))))))))))))))))
def d_law : Ev → RE X := fnM 12 1 b_law
end Wk
namespace Wk
open PySem PySem.Spec PyProof.Rows L2 NdefX Dn
abbrev N__law_mix : List Str := ["_law_seed", "_law_step", "_law_one", "_law_two"]
theorem S__law_mix : FnScope N__law_mix ["_law_seed", "_law_step"] (defScope s__law_mix) := ⟨rfl, rfl, rfl, by decide +kernel, rfl, by decide +kernel, by decide +kernel⟩
abbrev N__law_draw : List Str := ["_law_pool_here", "_law_size", "_law_got"]
theorem S__law_draw : FnScope N__law_draw ["_law_pool_here", "_law_size"] (defScope s__law_draw) := ⟨rfl, rfl, rfl, by decide +kernel, rfl, by decide +kernel, by decide +kernel⟩
abbrev N__law_word : List Str := ["_law_pool_here", "_law_letters", "_law_shape", "_law_size", "_law_k"]
theorem S__law_word : FnScope N__law_word ["_law_pool_here"] (defScope s__law_word) := ⟨rfl, rfl, rfl, by decide +kernel, rfl, by decide +kernel, by decide +kernel⟩
abbrev N__law_names : List Str := ["_law_pool_here", "_law_least_of", "_law_most_of", "_law_names_here", "_law_k", "_law_word_here", "_law_spare"]
theorem S__law_names : FnScope N__law_names ["_law_pool_here", "_law_least_of", "_law_most_of"] (defScope s__law_names) := ⟨rfl, rfl, rfl, by decide +kernel, rfl, by decide +kernel, by decide +kernel⟩
abbrev N__law_cell : List Str := ["_law_script", "_law_k"]
theorem S__law_cell : FnScope N__law_cell ["_law_script", "_law_k"] (defScope s__law_cell) := ⟨rfl, rfl, rfl, by decide +kernel, rfl, by decide +kernel, by decide +kernel⟩
abbrev N__law_pool : List Str := ["_law_script", "_law_k", "_law_cell_here"]
theorem S__law_pool : FnScope N__law_pool ["_law_script", "_law_k"] (defScope s__law_pool) := ⟨rfl, rfl, rfl, by decide +kernel, rfl, by decide +kernel, by decide +kernel⟩
abbrev N__law_choice : List Str := ["_law_pool_here", "_law_names_here", "_law_size", "_law_left", "_law_chosen", "_law_k", "_law_at"]
theorem S__law_choice : FnScope N__law_choice ["_law_pool_here", "_law_names_here", "_law_size"] (defScope s__law_choice) := ⟨rfl, rfl, rfl, by decide +kernel, rfl, by decide +kernel, by decide +kernel⟩
abbrev N__law_kin : List Str := ["_law_pool_here", "_law_size", "_law_word_here", "_law_at", "_law_letters", "_law_letter"]
theorem S__law_kin : FnScope N__law_kin ["_law_pool_here", "_law_size"] (defScope s__law_kin) := ⟨rfl, rfl, rfl, by decide +kernel, rfl, by decide +kernel, by decide +kernel⟩
abbrev N__law_ballot : List Str := ["_law_pool_here", "_law_names_here"]
theorem S__law_ballot : FnScope N__law_ballot ["_law_pool_here", "_law_names_here"] (defScope s__law_ballot) := ⟨rfl, rfl, rfl, by decide +kernel, rfl, by decide +kernel, by decide +kernel⟩
abbrev N__law_line_rows : List Str := ["_law_pool_here", "_law_names_here", "_law_size", "_law_rows", "_law_k", "_law_ballot_here", "_law_shape", "_law_times"]
theorem S__law_line_rows : FnScope N__law_line_rows ["_law_pool_here", "_law_names_here"] (defScope s__law_line_rows) := ⟨rfl, rfl, rfl, by decide +kernel, rfl, by decide +kernel, by decide +kernel⟩
abbrev N__law_ballot_text : List Str := ["_law_ballot_here"]
theorem S__law_ballot_text : FnScope N__law_ballot_text ["_law_ballot_here"] (defScope s__law_ballot_text) := ⟨rfl, rfl, rfl, by decide +kernel, rfl, by decide +kernel, by decide +kernel⟩
abbrev N__law_lines : List Str := ["_law_rows", "_law_ballot_here", "_law_times"]
theorem S__law_lines : FnScope N__law_lines ["_law_rows"] (defScope s__law_lines) := ⟨rfl, rfl, rfl, by decide +kernel, rfl, by decide +kernel, by decide +kernel⟩
abbrev N__law_same : List Str := ["_law_got", "_law_wanted", "_law_k"]
theorem S__law_same : FnScope N__law_same ["_law_got", "_law_wanted"] (defScope s__law_same) := ⟨rfl, rfl, rfl, by decide +kernel, rfl, by decide +kernel, by decide +kernel⟩
abbrev N__law_sum_of : List Str := ["_law_rows", "_law_ballot_here", "_law_own", "_law_times"]
theorem S__law_sum_of : FnScope N__law_sum_of ["_law_rows", "_law_ballot_here"] (defScope s__law_sum_of) := ⟨rfl, rfl, rfl, by decide +kernel, rfl, by decide +kernel, by decide +kernel⟩
abbrev N__law_ahead : List Str := ["_law_names_here", "_law_one", "_law_two", "_law_k"]
theorem S__law_ahead : FnScope N__law_ahead ["_law_names_here", "_law_one", "_law_two"] (defScope s__law_ahead) := ⟨rfl, rfl, rfl, by decide +kernel, rfl, by decide +kernel, by decide +kernel⟩
abbrev N__law_ordered : List Str := ["_law_names_here", "_law_rows", "_law_ballots", "_law_ballot_here", "_law_times", "_law_at", "_law_own"]
theorem S__law_ordered : FnScope N__law_ordered ["_law_names_here", "_law_rows"] (defScope s__law_ordered) := ⟨rfl, rfl, rfl, by decide +kernel, rfl, by decide +kernel, by decide +kernel⟩
abbrev N__law_roll_is : List Str := ["_law_roll", "_law_names_here", "_law_rows"]
theorem S__law_roll_is : FnScope N__law_roll_is ["_law_roll", "_law_names_here", "_law_rows"] (defScope s__law_roll_is) := ⟨rfl, rfl, rfl, by decide +kernel, rfl, by decide +kernel, by decide +kernel⟩
abbrev N_is_name : List Str := ["word", "letter"]
theorem S_is_name : FnScope N_is_name ["word"] (defScope s_is_name) := ⟨rfl, rfl, rfl, by decide +kernel, rfl, by decide +kernel, by decide +kernel⟩
abbrev N_checked_names : List Str := ["names", "at", "name"]
theorem S_checked_names : FnScope N_checked_names ["names"] (defScope s_checked_names) := ⟨rfl, rfl, rfl, by decide +kernel, rfl, by decide +kernel, by decide +kernel⟩
abbrev N_checked_ballot : List Str := ["names", "ballot", "at", "name"]
theorem S_checked_ballot : FnScope N_checked_ballot ["names", "ballot"] (defScope s_checked_ballot) := ⟨rfl, rfl, rfl, by decide +kernel, rfl, by decide +kernel, by decide +kernel⟩
abbrev N_sorted_rows : List Str := ["names", "counts", "keys", "ballots", "key", "ballot", "place", "name"]
theorem S_sorted_rows : FnScope N_sorted_rows ["names", "counts"] (defScope s_sorted_rows) := ⟨rfl, rfl, rfl, by decide +kernel, rfl, by decide +kernel, by decide +kernel⟩
abbrev N_Roll___init__ : List Str := ["self", "names", "rows", "largest", "counts", "ballot", "many"]
theorem S_Roll___init__ : FnScope N_Roll___init__ ["self", "names", "rows", "largest"] (defScope s_Roll___init__) := ⟨rfl, rfl, rfl, by decide +kernel, rfl, by decide +kernel, by decide +kernel⟩
abbrev N_is_number : List Str := ["word", "digit"]
theorem S_is_number : FnScope N_is_number ["word"] (defScope s_is_number) := ⟨rfl, rfl, rfl, by decide +kernel, rfl, by decide +kernel, by decide +kernel⟩
abbrev N_is_ballot_text : List Str := ["word", "part"]
theorem S_is_ballot_text : FnScope N_is_ballot_text ["word"] (defScope s_is_ballot_text) := ⟨rfl, rfl, rfl, by decide +kernel, rfl, by decide +kernel, by decide +kernel⟩
abbrev N_ballot_of : List Str := ["word"]
theorem S_ballot_of : FnScope N_ballot_of ["word"] (defScope s_ballot_of) := ⟨rfl, rfl, rfl, by decide +kernel, rfl, by decide +kernel, by decide +kernel⟩
abbrev N_read_line : List Str := ["names", "line", "text", "head", "gap", "rest", "ballot", "at", "name"]
theorem S_read_line : FnScope N_read_line ["names", "line", "text"] (defScope s_read_line) := ⟨rfl, rfl, rfl, by decide +kernel, rfl, by decide +kernel, by decide +kernel⟩
abbrev N_read_rows : List Str := ["names", "text", "at", "line"]
theorem S_read_rows : FnScope N_read_rows ["names", "text"] (defScope s_read_rows) := ⟨rfl, rfl, rfl, by decide +kernel, rfl, by decide +kernel, by decide +kernel⟩
abbrev N_Roll_read : List Str := ["cls", "names", "text"]
theorem S_Roll_read : FnScope N_Roll_read ["cls", "names", "text"] (defScope s_Roll_read) := ⟨rfl, rfl, rfl, by decide +kernel, rfl, by decide +kernel, by decide +kernel⟩
abbrev N_law : List Str := ["_law_script", "_law_names_here", "_law_kin_here", "_law_pool_here", "_law_rows", "_law_lines_here", "_law_text", "_law_again", "_law_longer", "_law_k", "_law_ballot_here", "_law_times"]
theorem S_law : FnScope N_law ["_law_script"] (defScope s_law) := ⟨rfl, rfl, rfl, by decide +kernel, rfl, by decide +kernel, by decide +kernel⟩
section
variable {P : Program} {w : World} {K : Fg} [WD K] {mg : Str → Option Value} {base : Heap}
theorem S_Roll___iter__ : FnScope ["self"] ["self"] (defScope s_Roll___iter__) := ⟨rfl, rfl, rfl, by decide +kernel, rfl, by decide +kernel, by decide +kernel⟩
theorem S_Roll___len__ : FnScope ["self"] ["self"] (defScope s_Roll___len__) := ⟨rfl, rfl, rfl, by decide +kernel, rfl, by decide +kernel, by decide +kernel⟩
theorem oI_Roll (T : TX P w K mg) : ∀ c ∈ (["Roll"] : List Str), OwnI P w K mg base 2 c "_rows" := fun c hc => by
  have e : c = "Roll" := by simpa using hc
  subst e
  obtain ⟨fd, F⟩ := T.F_Roll___iter__
  exact ⟨⟨T.cl_Roll, _, _, s_Roll___iter__, fd, T.fi_Roll_iter, T.ff_Roll_iter, F, S_Roll___iter__, (fun _ _ _ _ _ _ us hl => match us, hl with | [_], _ => rfl), fun cdv A outer s H E hr => pss_one (ps_ret (pe_callB cr_iterT (by rfl) T.b_iter (by decide +kernel) (pa_cons (pe_fldF (K := K) ⟨rfl, rfl, rfl, rfl, rfl⟩ (pv 0)) pa_nil)))⟩, (T.fd__rows "Roll" (by simp)).2⟩
theorem oL_Roll (T : TX P w K mg) : ∀ c ∈ (["Roll"] : List Str), OwnL P w K mg base 2 c "_rows" := fun c hc => by
  have e : c = "Roll" := by simpa using hc
  subst e
  obtain ⟨fd, F⟩ := T.F_Roll___len__
  exact ⟨⟨T.cl_Roll, _, _, s_Roll___len__, fd, T.fi_Roll_len, T.ff_Roll_len, F, S_Roll___len__, (fun _ _ _ _ _ _ us hl => match us, hl with | [_], _ => rfl), fun cdv A outer s H E hr => pss_one (ps_ret (pe_callB call_lenU (by rfl) T.b_len boot_len (pa_cons (pe_fldF (K := K) ⟨rfl, rfl, rfl, rfl, rfl⟩ (pv 0)) pa_nil)))⟩, (T.fd__rows "Roll" (by simp)).2⟩
theorem ok__law_mix (T : TX P w K mg) : CallF CX0 P w K mg base 1 "_law_mix" ["_law_seed", "_law_step"] d__law_mix :=
  mk_callF (k := 0) (ds := b__law_mix) T.F__law_mix T.g__law_mix S__law_mix rfl rfl (fun _ _ _ _ _ _ us hl => match us, hl with | [_, _], _ => rfl) fun cdv A outer s H E hr => ⟨_,
 (pss_cons (ps_set (i := 2) S__law_mix.nd rfl (by first | exact Or.inl rfl | exact Or.inr rfl) (pe_op op_mod (pe_callTy call_int1 (by rfl) T.b_int boot_int (pa_cons (pe_op op_addU (pe_op op_addU (pe_op op_mulU (pv 0) pe_int) (pe_op op_mulU (pv 1) pe_int)) pe_int) pa_nil)) pe_int))
 (pss_cons (ps_set (i := 3) S__law_mix.nd rfl (by first | exact Or.inl rfl | exact Or.inr rfl) (pe_op op_mod (pe_callTy call_int1 (by rfl) T.b_int boot_int (pa_cons (pe_op op_addU (pe_op op_addU (pe_op op_mulU (pv 2) (pv 2)) (pe_op op_mulU (pv 1) pe_int)) pe_int) pa_nil)) pe_int))
 (pss_one (ps_ret (pe_op op_mod (pe_callTy call_int1 (by rfl) T.b_int boot_int (pa_cons (pe_op op_addU (pe_op op_addU (pe_op op_mulU (pv 3) (pv 3)) (pe_op op_mulU (pv 3) pe_int)) pe_int) pa_nil)) pe_int))))),
 (ds_seq (ds_asg (de_op ok_mod (de_cb ok_int (da_cons (de_op ok_add (de_op ok_add (de_op ok_mul (de_var 0) (de_int 48271)) (de_op ok_mul (de_var 1) (de_int 69621))) (de_int 11)) da_nil)) (de_int 2147483647)))
 (ds_seq (ds_asg (de_op ok_mod (de_cb ok_int (da_cons (de_op ok_add (de_op ok_add (de_op ok_mul (de_var 2) (de_var 2)) (de_op ok_mul (de_var 1) (de_int 16807))) (de_int 3)) da_nil)) (de_int 2147483629)))
 (ds_ret (de_op ok_mod (de_cb ok_int (da_cons (de_op ok_add (de_op ok_add (de_op ok_mul (de_var 3) (de_var 3)) (de_op ok_mul (de_var 3) (de_int 40692))) (de_int 7)) da_nil)) (de_int 2147483587)))))⟩
theorem ok__law_draw (T : TX P w K mg) : CallF CX0 P w K mg base 2 "_law_draw" ["_law_pool_here", "_law_size"] d__law_draw :=
  mk_callF (k := 1) (ds := b__law_draw) T.F__law_draw T.g__law_draw S__law_draw rfl rfl (fun _ _ _ _ _ _ us hl => match us, hl with | [_, _], _ => rfl) fun cdv A outer s H E hr => ⟨_,
 (pss_cons (ps_if (pt_cmpR op_gt (pe_ix ix_seq (pv 0) pe_int (fun _ _ => rfl)) pe_int (nomark _))
 (pss_cons (ps_set (i := 2) S__law_draw.nd rfl (by first | exact Or.inl rfl | exact Or.inr rfl) (pe_op op_mod (pe_callTy call_int1 (by rfl) T.b_int boot_int (pa_cons (pe_ix ix_seq (pv 0) pe_int (fun _ _ => rfl)) pa_nil)) (pv 1)))
 (pss_cons (ps_asg (pe_op op_divG (pe_ix ix_seq (pv 0) pe_int (fun _ _ => rfl)) (pv 1)) (pg_sub (pv 0) pe_int set_list))
 (pss_one (ps_ret (pv 2)))))
 pss_nil)
 (pss_cons (ps_asg (pe_op op_addU (pe_ix ix_seq (pv 0) pe_int (fun _ _ => rfl)) pe_int) (pg_sub (pv 0) pe_int set_list))
 (pss_one (ps_ret (pe_op op_mod (pe_callTy call_int1 (by rfl) T.b_int boot_int (pa_cons (pe_callF (k := 1) (E := E) (ok__law_mix (K := K) T) (hr.mono (by decide)) passN (by rfl) (pa_cons (pe_ix ix_seq (pv 0) pe_int (fun _ _ => rfl)) (pa_cons (pe_ix ix_seq (pv 0) pe_int (fun _ _ => rfl)) pa_nil))) pa_nil)) (pv 1)))))),
 (ds_seq (ds_if (dt_test (de_op (ok_cmp fun i j => decide (i > j)) (de_op ok_ix (de_var 0) (de_int 0)) (de_int 0)))
 (ds_seq (ds_asg (de_op ok_mod (de_cb ok_int (da_cons (de_op ok_ix (de_var 0) (de_int 0)) da_nil)) (de_var 1)))
 (ds_seq (ds_setI (de_op ok_div (de_op ok_ix (de_var 0) (de_int 0)) (de_var 1)) (de_int 0))
 (ds_ret (de_var 2))))
 ds_next)
 (ds_seq (ds_setI (de_op ok_add (de_op ok_ix (de_var 0) (de_int 2)) (de_int 1)) (de_int 2))
 (ds_ret (de_op ok_mod (de_cb ok_int (da_cons (de_call (E := E) n__law_mix (da_cons (de_op ok_ix (de_var 0) (de_int 1)) (da_cons (de_op ok_ix (de_var 0) (de_int 2)) da_nil))) da_nil)) (de_var 1)))))⟩
theorem ok__law_word (T : TX P w K mg) : CallF CX0 P w K mg base 3 "_law_word" ["_law_pool_here"] d__law_word :=
  mk_callF (k := 2) (ds := b__law_word) T.F__law_word T.g__law_word S__law_word rfl rfl (fun _ _ _ _ _ _ us hl => match us, hl with | [_], _ => rfl) fun cdv A outer s H E hr => ⟨_,
 (pss_cons (ps_set (i := 1) S__law_word.nd rfl (by first | exact Or.inl rfl | exact Or.inr rfl) pe_str)
 (pss_cons (ps_set (i := 2) S__law_word.nd rfl (by first | exact Or.inl rfl | exact Or.inr rfl) (pe_callF (k := 2) (E := E) (ok__law_draw (K := K) T) (hr.mono (by decide)) passN (by rfl) (pa_cons (pv 0) (pa_cons pe_int pa_nil))))
 (pss_cons (ps_if (pt_cmpR (op_eqU (room64 hr)) (pv 2) pe_int (nomark _))
 (pss_one (ps_ret (pe_ix ix_seq (pv 1) (pe_callF (k := 2) (E := E) (ok__law_draw (K := K) T) (hr.mono (by decide)) passN (by rfl) (pa_cons (pv 0) (pa_cons pe_int pa_nil))) (fun _ _ => rfl))))
 pss_nil)
 (pss_cons (ps_set (i := 3) S__law_word.nd rfl (by first | exact Or.inl rfl | exact Or.inr rfl) (pe_op op_addU pe_int (pe_callF (k := 2) (E := E) (ok__law_draw (K := K) T) (hr.mono (by decide)) passN (by rfl) (pa_cons (pv 0) (pa_cons pe_int pa_nil)))))
 (pss_cons (ps_if (pt_cmpR (op_eqU (room64 hr)) (pv 2) pe_int (nomark _))
 (pss_one (ps_ret (pe_op op_addU (pe_op op_mulU pe_str (pe_op op_sub (pv 3) pe_int)) (pe_ix ix_seq (pv 1) (pe_callF (k := 2) (E := E) (ok__law_draw (K := K) T) (hr.mono (by decide)) passN (by rfl) (pa_cons (pv 0) (pa_cons pe_int pa_nil))) (fun _ _ => rfl)))))
 pss_nil)
 (pss_cons (ps_if (pt_cmpR (op_eqU (room64 hr)) (pv 2) pe_int (nomark _))
 (pss_one (ps_ret (pe_op op_addU (pe_ix ix_seq (pv 1) (pe_callF (k := 2) (E := E) (ok__law_draw (K := K) T) (hr.mono (by decide)) passN (by rfl) (pa_cons (pv 0) (pa_cons pe_int pa_nil))) (fun _ _ => rfl)) (pe_op op_mulU pe_str (pe_op op_sub (pv 3) pe_int)))))
 pss_nil)
 (pss_one (ps_ret (pe_join pe_str (pe_lc (own := [("_law_k", 4)]) (g := _) (tt := tYes) (by rfl) S__law_word.nd (pi_range1 (by rfl) T.b_range (pa_cons (pv 3) pa_nil)) (blkOk_by (N := N__law_word) (sc := defScope s__law_word) (by decide +kernel)) (fun _ _ _ _ _ => (pg_name (i := 4) S__law_word.nd rfl (by first | exact Or.inl rfl | exact Or.inr rfl))) (fun _ _ _ _ _ => pts_nil) (fun _ _ _ _ _ => (pe_ix ix_seq (pv 1) (pe_callF (k := 2) (E := E0) (ok__law_draw (K := K) T) (hr.mono (by decide)) passN (by rfl) (pa_cons (pv 0) (pa_cons pe_int pa_nil))) (fun _ _ => rfl))))))))))))),
 (ds_seq (ds_asg (de_str "abcdefghijklmnopqrstuvwxyz"))
 (ds_seq (ds_asg (de_frz (de_call (E := E) n__law_draw (da_cons (de_var 0) (da_cons (de_int 4) da_nil)))))
 (ds_seq (ds_if (dt_test (de_op ok_eq (de_var 2) (de_int 0)))
 (ds_ret (de_op ok_ix (de_var 1) (de_call (E := E) n__law_draw (da_cons (de_var 0) (da_cons (de_int 26) da_nil)))))
 ds_next)
 (ds_seq (ds_asg (de_frz (de_op ok_add (de_int 1) (de_call (E := E) n__law_draw (da_cons (de_var 0) (da_cons (de_int 12) da_nil))))))
 (ds_seq (ds_if (dt_test (de_op ok_eq (de_var 2) (de_int 1)))
 (ds_ret (de_op ok_add (de_op ok_mul (de_str "a") (de_op ok_sub (de_var 3) (de_int 1))) (de_op ok_ix (de_var 1) (de_call (E := E) n__law_draw (da_cons (de_var 0) (da_cons (de_int 26) da_nil))))))
 ds_next)
 (ds_seq (ds_if (dt_test (de_op ok_eq (de_var 2) (de_int 2)))
 (ds_ret (de_op ok_add (de_op ok_ix (de_var 1) (de_call (E := E) n__law_draw (da_cons (de_var 0) (da_cons (de_int 26) da_nil)))) (de_op ok_mul (de_str "z") (de_op ok_sub (de_var 3) (de_int 1)))))
 ds_next)
 (ds_ret (de_m1 ok_join (de_str "") (de_lc (di_r1 (da_cons (de_var 3) da_nil)) (dgv_name (i := 4) (by simp)) dt_yes (de_op ok_ix (de_var 1) (de_call (E := E0) n__law_draw (da_cons (de_var 0) (da_cons (de_int 26) da_nil)))))))))))))⟩
theorem ok__law_names (T : TX P w K mg) : CallF CX0 P w K mg base 4 "_law_names" ["_law_pool_here", "_law_least_of", "_law_most_of"] d__law_names :=
  mk_callF (k := 3) (ds := b__law_names) T.F__law_names T.g__law_names S__law_names rfl rfl (fun _ _ _ _ _ _ us hl => match us, hl with | [_, _, _], _ => rfl) fun cdv A outer s H E hr => ⟨_,
 (pss_cons (ps_set (i := 3) S__law_names.nd rfl (by first | exact Or.inl rfl | exact Or.inr rfl) (pe_lst pa_nil))
 (pss_cons (ps_for PassesOwn.never rfl (pi_range1 (by rfl) T.b_range (pa_cons (pe_op op_addU (pv 1) (pe_callF (k := 2) (E := E) (ok__law_draw (K := K) T) (hr.mono (by decide)) passN (by rfl) (pa_cons (pv 0) (pa_cons (pe_op op_addU (pe_op op_sub (pv 2) (pv 1)) pe_int) pa_nil)))) pa_nil)) (pg_name (i := 4) S__law_names.nd rfl (by first | exact Or.inl rfl | exact Or.inr rfl))
 (pss_cons (ps_set (i := 5) S__law_names.nd rfl (by first | exact Or.inl rfl | exact Or.inr rfl) (pe_callF (k := 3) (E := E) (ok__law_word (K := K) T) (hr.mono (by decide)) passN (by rfl) (pa_cons (pv 0) pa_nil)))
 (pss_cons (ps_if (pt_cmpR (op_inU (room65 hr)) (pv 5) (pv 3) rfl)
 (pss_one (ps_set (i := 5) S__law_names.nd rfl (by first | exact Or.inl rfl | exact Or.inr rfl) (pe_ix ix_seq (pe_lc (own := [("_law_spare", 6)]) (g := _) (tt := _) (by rfl) S__law_names.nd (pi_seq (pe_lst (pa_cons pe_str (pa_cons pe_str (pa_cons pe_str (pa_cons pe_str (pa_cons pe_str pa_nil))))))) (blkOk_by (N := N__law_names) (sc := defScope s__law_names) (by decide +kernel)) (fun _ _ _ _ _ => (pg_name (i := 6) S__law_names.nd rfl (by first | exact Or.inl rfl | exact Or.inr rfl))) (fun _ _ _ _ _ => (pts_one (pt_cmpR (op_notInU (room65 hr)) (pv 6) (pv 3) rfl))) (fun _ _ _ _ _ => (pv 6))) pe_int (fun _ _ => rfl))))
 pss_nil)
 (pss_one (ps_expr (pe_bm PySem.F.plainAttrs_list PySem.F.slot_list_append PySem.F.type_list_append mt_append (pv 3) (pa_cons (pv 5) pa_nil)))))))
 (pss_one (ps_ret (pe_callTy call_tupleU (by rfl) T.b_tuple boot_tuple (pa_cons (pv 3) pa_nil)))))),
 (ds_seq (ds_asg (de_lst da_nil))
 (ds_seq (ds_for (di_r1 (da_cons (de_op ok_add (de_var 1) (de_call (E := E) n__law_draw (da_cons (de_var 0) (da_cons (de_frz (de_op ok_add (de_op ok_sub (de_var 2) (de_var 1)) (de_int 1))) da_nil)))) da_nil)) (dg_name 4)
 (ds_wp (is := [4, 5]) (ds_seq (ds_asg (de_frz (de_call (E := E) n__law_word (da_cons (de_var 0) da_nil))))
 (ds_seq (ds_if (dt_test (de_op ok_in (de_var 5) (de_var 3)))
 (ds_asg (de_op ok_ix (de_lc (di_seq (de_lst (da_cons (de_str "a") (da_cons (de_str "b") (da_cons (de_str "c") (da_cons (de_str "d") (da_cons (de_str "e") da_nil))))))) (dgv_name (i := 6) (by simp)) (dt_test (de_op ok_notIn (de_var 6) (de_var 3))) (de_var 6)) (de_int 0)))
 ds_next)
 (ds_drop (de_mut tyOk_lst ok_app (da_cons (de_var 5) da_nil)))))))
 (ds_ret (de_cb ok_tuple (da_cons (de_var 3) da_nil)))))⟩
theorem ok__law_cell (T : TX P w K mg) : CallF CX0 P w K mg base 1 "_law_cell" ["_law_script", "_law_k"] d__law_cell :=
  mk_callF (k := 0) (ds := b__law_cell) T.F__law_cell T.g__law_cell S__law_cell rfl rfl (fun _ _ _ _ _ _ us hl => match us, hl with | [_, _], _ => rfl) fun cdv A outer s H E hr => ⟨_,
 (pss_cons (ps_if (pt_cmpR op_lt (pv 1) (pe_callB call_lenU (by rfl) T.b_len boot_len (pa_cons (pv 0) pa_nil)) (nomark _))
 (pss_one (ps_ret (pe_ix ix_seq (pv 0) (pv 1) (fun _ _ => rfl))))
 pss_nil)
 (pss_one (ps_ret pe_int))),
 (ds_seq (ds_if (dt_test (de_op (ok_cmp fun i j => decide (i < j)) (de_var 1) (de_cb ok_len (da_cons (de_var 0) da_nil))))
 (ds_ret (de_op ok_ix (de_var 0) (de_var 1)))
 ds_next)
 (ds_ret (de_int 0)))⟩
theorem ok__law_pool (T : TX P w K mg) : CallF CX0 P w K mg base 2 "_law_pool" ["_law_script", "_law_k"] d__law_pool :=
  mk_callF (k := 1) (ds := b__law_pool) T.F__law_pool T.g__law_pool S__law_pool rfl rfl (fun _ _ _ _ _ _ us hl => match us, hl with | [_, _], _ => rfl) fun cdv A outer s H E hr => ⟨_,
 (pss_cons (ps_set (i := 2) S__law_pool.nd rfl (by first | exact Or.inl rfl | exact Or.inr rfl) (pe_callF (k := 1) (E := E) (ok__law_cell (K := K) T) (hr.mono (by decide)) passN (by rfl) (pa_cons (pv 0) (pa_cons (pv 1) pa_nil))))
 (pss_cons (ps_if (pt_cmpR op_ge (pv 2) (pe_op op_pow pe_int pe_int) (nomark _))
 (pss_one (ps_ret (pe_lst (pa_cons (pe_op op_sub (pv 2) (pe_op op_pow pe_int pe_int)) (pa_cons (pe_op op_addU (pe_op op_mulU (pv 2) pe_int) (pv 1)) (pa_cons pe_int pa_nil))))))
 pss_nil)
 (pss_one (ps_ret (pe_lst (pa_cons pe_int (pa_cons (pe_op op_addU (pe_op op_mulU (pv 2) pe_int) (pv 1)) (pa_cons pe_int pa_nil)))))))),
 (ds_seq (ds_asg (de_frz (de_call (E := E) n__law_cell (da_cons (de_var 0) (da_cons (de_var 1) da_nil)))))
 (ds_seq (ds_if (dt_test (de_op (ok_cmp fun i j => decide (i ≥ j)) (de_var 2) (de_op ok_pow (de_int 10) (de_int 18))))
 (ds_ret (de_lst (da_cons (de_op ok_sub (de_var 2) (de_op ok_pow (de_int 10) (de_int 18))) (da_cons (de_op ok_add (de_op ok_mul (de_var 2) (de_int 64)) (de_var 1)) (da_cons (de_int 0) da_nil)))))
 ds_next)
 (ds_ret (de_lst (da_cons (de_int 0) (da_cons (de_op ok_add (de_op ok_mul (de_var 2) (de_int 64)) (de_var 1)) (da_cons (de_int 0) da_nil)))))))⟩
theorem ok__law_choice (T : TX P w K mg) : CallF CX0 P w K mg base 3 "_law_choice" ["_law_pool_here", "_law_names_here", "_law_size"] d__law_choice :=
  mk_callF (k := 2) (ds := b__law_choice) T.F__law_choice T.g__law_choice S__law_choice rfl rfl (fun _ _ _ _ _ _ us hl => match us, hl with | [_, _, _], _ => rfl) fun cdv A outer s H E hr => ⟨_,
 (pss_cons (ps_set (i := 3) S__law_choice.nd rfl (by first | exact Or.inl rfl | exact Or.inr rfl) (pe_callTy (call_listU rfl) (by rfl) T.b_list boot_list (pa_cons (pv 1) pa_nil)))
 (pss_cons (ps_set (i := 4) S__law_choice.nd rfl (by first | exact Or.inl rfl | exact Or.inr rfl) (pe_lst pa_nil))
 (pss_cons (ps_for PassesOwn.never rfl (pi_range1 (by rfl) T.b_range (pa_cons (pv 2) pa_nil)) (pg_name (i := 5) S__law_choice.nd rfl (by first | exact Or.inl rfl | exact Or.inr rfl))
 (pss_cons (ps_set (i := 6) S__law_choice.nd rfl (by first | exact Or.inl rfl | exact Or.inr rfl) (pe_callF (k := 2) (E := E) (ok__law_draw (K := K) T) (hr.mono (by decide)) passN (by rfl) (pa_cons (pv 0) (pa_cons (pe_callB call_lenU (by rfl) T.b_len boot_len (pa_cons (pv 3) pa_nil)) pa_nil))))
 (pss_one (ps_expr (pe_bm PySem.F.plainAttrs_list PySem.F.slot_list_append PySem.F.type_list_append mt_append (pv 4) (pa_cons (pe_bm PySem.F.plainAttrs_list PySem.F.slot_list_pop PySem.F.type_list_pop mt_popAt (pv 3) (pa_cons (pv 6) pa_nil)) pa_nil))))))
 (pss_one (ps_ret (pe_callTy call_tupleU (by rfl) T.b_tuple boot_tuple (pa_cons (pv 4) pa_nil))))))),
 (ds_seq (ds_asg (de_cb ok_list (da_cons (de_var 1) da_nil)))
 (ds_seq (ds_asg (de_lst da_nil))
 (ds_seq (ds_for (di_r1 (da_cons (de_var 2) da_nil)) (dg_name 5)
 (ds_wp (is := [5, 6]) (ds_seq (ds_asg (de_frz (de_call (E := E) n__law_draw (da_cons (de_var 0) (da_cons (de_cb ok_len (da_cons (de_var 3) da_nil)) da_nil)))))
 (ds_drop (de_mut tyOk_lst ok_app (da_cons (de_mut tyOk_lst ok_popAt (da_cons (de_var 6) da_nil)) da_nil))))))
 (ds_ret (de_cb ok_tuple (da_cons (de_var 4) da_nil))))))⟩
theorem ok__law_kin (T : TX P w K mg) : CallF CX0 P w K mg base 4 "_law_kin" ["_law_pool_here", "_law_size"] d__law_kin :=
  mk_callF (k := 3) (ds := b__law_kin) T.F__law_kin T.g__law_kin S__law_kin rfl rfl (fun _ _ _ _ _ _ us hl => match us, hl with | [_, _], _ => rfl) fun cdv A outer s H E hr => ⟨_,
 (pss_cons (ps_set (i := 2) S__law_kin.nd rfl (by first | exact Or.inl rfl | exact Or.inr rfl) (pe_callF (k := 3) (E := E) (ok__law_word (K := K) T) (hr.mono (by decide)) passN (by rfl) (pa_cons (pv 0) pa_nil)))
 (pss_cons (ps_set (i := 3) S__law_kin.nd rfl (by first | exact Or.inl rfl | exact Or.inr rfl) (pe_callF (k := 2) (E := E) (ok__law_draw (K := K) T) (hr.mono (by decide)) passN (by rfl) (pa_cons (pv 0) (pa_cons (pe_callB call_lenU (by rfl) T.b_len boot_len (pa_cons (pv 2) pa_nil)) pa_nil))))
 (pss_cons (ps_set (i := 4) S__law_kin.nd rfl (by first | exact Or.inl rfl | exact Or.inr rfl) (pe_callF (k := 3) (E := E) (ok__law_choice (K := K) T) (hr.mono (by decide)) passN (by rfl) (pa_cons (pv 0) (pa_cons pe_str (pa_cons (pv 1) pa_nil)))))
 (pss_one (ps_ret (pe_callTy call_tupleU (by rfl) T.b_tuple boot_tuple (pa_cons (pe_lc (own := [("_law_letter", 5)]) (g := _) (tt := tYes) (by rfl) S__law_kin.nd (pi_seq (pv 4)) (blkOk_by (N := N__law_kin) (sc := defScope s__law_kin) (by decide +kernel)) (fun _ _ _ _ _ => (pg_name (i := 5) S__law_kin.nd rfl (by first | exact Or.inl rfl | exact Or.inr rfl))) (fun _ _ _ _ _ => pts_nil) (fun _ _ _ _ _ => (pe_op op_addU (pe_op op_addU (pe_slice sl_U (pv 2) po_none (po_some (pv 3))) (pv 5)) (pe_slice sl_U (pv 2) (po_some (pe_op op_addU (pv 3) pe_int)) po_none)))) pa_nil))))))),
 (ds_seq (ds_asg (de_frz (de_call (E := E) n__law_word (da_cons (de_var 0) da_nil))))
 (ds_seq (ds_asg (de_frz (de_call (E := E) n__law_draw (da_cons (de_var 0) (da_cons (de_cb ok_len (da_cons (de_var 2) da_nil)) da_nil)))))
 (ds_seq (ds_asg (de_frz (de_call (E := E) n__law_choice (da_cons (de_var 0) (da_cons (de_str "abcdefghijklmnopqrstuvwxyz") (da_cons (de_var 1) da_nil))))))
 (ds_ret (de_cb ok_tuple (da_cons (de_lc (di_seq (de_var 4)) (dgv_name (i := 5) (by simp)) dt_yes (de_op ok_add (de_op ok_add (de_sl (de_var 2) do_none (do_some (de_var 3))) (de_var 5)) (de_sl (de_var 2) (do_some (de_op ok_add (de_var 3) (de_int 1))) do_none))) da_nil))))))⟩
theorem ok__law_ballot (T : TX P w K mg) : CallF CX0 P w K mg base 4 "_law_ballot" ["_law_pool_here", "_law_names_here"] d__law_ballot :=
  mk_callF (k := 3) (ds := b__law_ballot) T.F__law_ballot T.g__law_ballot S__law_ballot rfl rfl (fun _ _ _ _ _ _ us hl => match us, hl with | [_, _], _ => rfl) fun cdv A outer s H E hr => ⟨_,
 (pss_one (ps_ret (pe_callF (k := 3) (E := E) (ok__law_choice (K := K) T) (hr.mono (by decide)) passN (by rfl) (pa_cons (pv 0) (pa_cons (pv 1) (pa_cons (pe_callF (k := 2) (E := E) (ok__law_draw (K := K) T) (hr.mono (by decide)) passN (by rfl) (pa_cons (pv 0) (pa_cons (pe_op op_addU (pe_callB call_lenU (by rfl) T.b_len boot_len (pa_cons (pv 1) pa_nil)) pe_int) pa_nil))) pa_nil)))))),
 (ds_ret (de_call (E := E) n__law_choice (da_cons (de_var 0) (da_cons (de_var 1) (da_cons (de_frz (de_call (E := E) n__law_draw (da_cons (de_var 0) (da_cons (de_frz (de_op ok_add (de_cb ok_len (da_cons (de_var 1) da_nil)) (de_int 1))) da_nil)))) da_nil)))))⟩
theorem ok__law_line_rows (T : TX P w K mg) : CallF CX0 P w K mg base 5 "_law_line_rows" ["_law_pool_here", "_law_names_here"] d__law_line_rows :=
  mk_callF (k := 4) (ds := b__law_line_rows) T.F__law_line_rows T.g__law_line_rows S__law_line_rows rfl rfl (fun _ _ _ _ _ _ us hl => match us, hl with | [_, _], _ => rfl) fun cdv A outer s H E hr => ⟨_,
 (pss_cons (ps_set (i := 2) S__law_line_rows.nd rfl (by first | exact Or.inl rfl | exact Or.inr rfl) pe_int)
 (pss_cons (ps_if (pt_cmpR (op_eqU (room64 hr)) (pe_callF (k := 2) (E := E) (ok__law_draw (K := K) T) (hr.mono (by decide)) passN (by rfl) (pa_cons (pv 0) (pa_cons pe_int pa_nil))) pe_int (nomark _))
 (pss_one (ps_set (i := 2) S__law_line_rows.nd rfl (by first | exact Or.inl rfl | exact Or.inr rfl) pe_int))
 pss_nil)
 (pss_cons (ps_set (i := 3) S__law_line_rows.nd rfl (by first | exact Or.inl rfl | exact Or.inr rfl) (pe_lst pa_nil))
 (pss_cons (ps_for PassesOwn.never rfl (pi_range1 (by rfl) T.b_range (pa_cons (pe_callF (k := 2) (E := E) (ok__law_draw (K := K) T) (hr.mono (by decide)) passN (by rfl) (pa_cons (pv 0) (pa_cons (pv 2) pa_nil))) pa_nil)) (pg_name (i := 4) S__law_line_rows.nd rfl (by first | exact Or.inl rfl | exact Or.inr rfl))
 (pss_cons (ps_set (i := 5) S__law_line_rows.nd rfl (by first | exact Or.inl rfl | exact Or.inr rfl) (pe_callF (k := 4) (E := E) (ok__law_ballot (K := K) T) (hr.mono (by decide)) passN (by rfl) (pa_cons (pv 0) (pa_cons (pv 1) pa_nil))))
 (pss_cons (ps_if (PW.pt (pw_and (pt_cmpR op_gt (pe_callB call_lenU (by rfl) T.b_len boot_len (pa_cons (pv 3) pa_nil)) pe_int (nomark _)) (pw_and1 (pt_cmpR (op_eqU (room64 hr)) (pe_callF (k := 2) (E := E) (ok__law_draw (K := K) T) (hr.mono (by decide)) passN (by rfl) (pa_cons (pv 0) (pa_cons pe_int pa_nil))) pe_int (nomark _)))))
 (pss_one (ps_set (i := 5) S__law_line_rows.nd rfl (by first | exact Or.inl rfl | exact Or.inr rfl) (pe_ix ix_seq (pe_ix ix_seq (pv 3) (pe_callF (k := 2) (E := E) (ok__law_draw (K := K) T) (hr.mono (by decide)) passN (by rfl) (pa_cons (pv 0) (pa_cons (pe_callB call_lenU (by rfl) T.b_len boot_len (pa_cons (pv 3) pa_nil)) pa_nil))) (fun _ _ => rfl)) pe_int (fun _ _ => rfl))))
 pss_nil)
 (pss_cons (ps_set (i := 6) S__law_line_rows.nd rfl (by first | exact Or.inl rfl | exact Or.inr rfl) (pe_callF (k := 2) (E := E) (ok__law_draw (K := K) T) (hr.mono (by decide)) passN (by rfl) (pa_cons (pv 0) (pa_cons pe_int pa_nil))))
 (pss_cons (ps_set (i := 7) S__law_line_rows.nd rfl (by first | exact Or.inl rfl | exact Or.inr rfl) (pe_op op_pow pe_int pe_int))
 (pss_cons (ps_if (pt_cmpR op_lt (pv 6) pe_int (nomark _))
 (pss_one (ps_set (i := 7) S__law_line_rows.nd rfl (by first | exact Or.inl rfl | exact Or.inr rfl) (pe_op op_addU pe_int (pe_callF (k := 2) (E := E) (ok__law_draw (K := K) T) (hr.mono (by decide)) passN (by rfl) (pa_cons (pv 0) (pa_cons (pe_ix ix_seq (pe_lst (pa_cons pe_int (pa_cons pe_int (pa_cons (pe_op op_pow pe_int pe_int) pa_nil)))) (pv 6) (fun _ _ => rfl)) pa_nil))))))
 pss_nil)
 (pss_one (ps_expr (pe_bm PySem.F.plainAttrs_list PySem.F.slot_list_append PySem.F.type_list_append mt_append (pv 3) (pa_cons (pe_tupN (pa_cons (pv 5) (pa_cons (pv 7) pa_nil))) pa_nil))))))))))
 (pss_one (ps_ret (pv 3))))))),
 (ds_seq (ds_asg (de_int 7))
 (ds_seq (ds_if (dt_test (de_op ok_eq (de_call (E := E) n__law_draw (da_cons (de_var 0) (da_cons (de_int 4) da_nil))) (de_int 0)))
 (ds_asg (de_int 25))
 ds_next)
 (ds_seq (ds_asg (de_lst da_nil))
 (ds_seq (ds_for (di_r1 (da_cons (de_call (E := E) n__law_draw (da_cons (de_var 0) (da_cons (de_var 2) da_nil))) da_nil)) (dg_name 4)
 (ds_wp (is := [4, 5, 6, 7]) (ds_seq (ds_asg (de_frz (de_call (E := E) n__law_ballot (da_cons (de_var 0) (da_cons (de_var 1) da_nil)))))
 (ds_seq (ds_if (dt_and (dt_test (de_op (ok_cmp fun i j => decide (i > j)) (de_cb ok_len (da_cons (de_var 3) da_nil)) (de_int 0))) (dt_test (de_op ok_eq (de_call (E := E) n__law_draw (da_cons (de_var 0) (da_cons (de_int 3) da_nil))) (de_int 0))))
 (ds_asg (de_op ok_ix (de_op ok_ix (de_var 3) (de_call (E := E) n__law_draw (da_cons (de_var 0) (da_cons (de_cb ok_len (da_cons (de_var 3) da_nil)) da_nil)))) (de_int 0)))
 ds_next)
 (ds_seq (ds_asg (de_frz (de_call (E := E) n__law_draw (da_cons (de_var 0) (da_cons (de_int 4) da_nil)))))
 (ds_seq (ds_asg (de_op ok_pow (de_int 10) (de_int 12)))
 (ds_seq (ds_if (dt_test (de_op (ok_cmp fun i j => decide (i < j)) (de_var 6) (de_int 3)))
 (ds_asg (de_frz (de_op ok_add (de_int 1) (de_call (E := E) n__law_draw (da_cons (de_var 0) (da_cons (de_op ok_ix (de_lst (da_cons (de_int 4) (da_cons (de_int 30) (da_cons (de_op ok_pow (de_int 10) (de_int 12)) da_nil)))) (de_var 6)) da_nil))))))
 ds_next)
 (ds_drop (de_mut tyOk_lst ok_app (da_cons (de_tup (da_cons (de_var 5) (da_cons (de_var 7) da_nil))) da_nil))))))))))
 (ds_ret (de_var 3))))))⟩
theorem ok__law_ballot_text (T : TX P w K mg) : CallF CX0 P w K mg base 1 "_law_ballot_text" ["_law_ballot_here"] d__law_ballot_text :=
  mk_callF (k := 0) (ds := b__law_ballot_text) T.F__law_ballot_text T.g__law_ballot_text S__law_ballot_text rfl rfl (fun _ _ _ _ _ _ us hl => match us, hl with | [_], _ => rfl) fun cdv A outer s H E hr => ⟨_,
 (pss_cons (ps_if (pt_cmpR (op_eqU (room64 hr)) (pe_callB call_lenU (by rfl) T.b_len boot_len (pa_cons (pv 0) pa_nil)) pe_int (nomark _))
 (pss_one (ps_ret pe_str))
 pss_nil)
 (pss_one (ps_ret (pe_join pe_str (pe_callTy (call_listU rfl) (by rfl) T.b_list boot_list (pa_cons (pv 0) pa_nil)))))),
 (ds_seq (ds_if (dt_test (de_op ok_eq (de_cb ok_len (da_cons (de_var 0) da_nil)) (de_int 0)))
 (ds_ret (de_str "-"))
 ds_next)
 (ds_ret (de_m1 ok_join (de_str ">") (de_cb ok_list (da_cons (de_var 0) da_nil)))))⟩
theorem ok__law_lines (T : TX P w K mg) : CallF CX0 P w K mg base 2 "_law_lines" ["_law_rows"] d__law_lines :=
  mk_callF (k := 1) (ds := b__law_lines) T.F__law_lines T.g__law_lines S__law_lines rfl rfl (fun _ _ _ _ _ _ us hl => match us, hl with | [_], _ => rfl) fun cdv A outer s H E hr => ⟨_,
 (pss_one (ps_ret (pe_lc (own := [("_law_ballot_here", 1), ("_law_times", 2)]) (g := _) (tt := tYes) (by rfl) S__law_lines.nd (pi_seq (pv 0)) (blkOk_by (N := N__law_lines) (sc := defScope s__law_lines) (by decide +kernel)) (fun _ _ _ _ _ => (pg_tup (n := 2) rfl (pgs_cons (pg_name (i := 1) S__law_lines.nd rfl (by first | exact Or.inl rfl | exact Or.inr rfl)) (pgs_cons (pg_name (i := 2) S__law_lines.nd rfl (by first | exact Or.inl rfl | exact Or.inr rfl)) pgs_nil)))) (fun _ _ _ _ _ => pts_nil) (fun _ _ _ _ _ => (pe_op op_addU (pe_op op_addU (pe_callTy call_str_int (by rfl) T.b_str boot_str (pa_cons (pv 2) pa_nil)) pe_str) (pe_callF (k := 1) (E := E0) (ok__law_ballot_text (K := K) T) (hr.mono (by decide)) passN (by rfl) (pa_cons (pv 1) pa_nil))))))),
 (ds_ret (de_lc (di_seq (de_var 0)) (dgv_tup (n := 2) (dgv_cons (dgv_name (i := 1) (by simp)) (dgv_cons (dgv_name (i := 2) (by simp)) dgv_nil))) dt_yes (de_op ok_add (de_op ok_add (de_cb ok_strI (da_cons (de_var 2) da_nil)) (de_str " ")) (de_call (E := E0) n__law_ballot_text (da_cons (de_var 1) da_nil)))))⟩
theorem ok__law_same (T : TX P w K mg) : ∀ n, CallF CX0 P w K mg base (1 + n) "_law_same" ["_law_got", "_law_wanted"] (d__law_same n)
  | 0 => mk_none (k := 0) T.F__law_same T.g__law_same S__law_same (fun _ _ _ _ _ _ us hl => match us, hl with | [_, _], _ => rfl)
  | n + 1 => by
    have IH := ok__law_same T n
    exact mk_callF (k := 1 + n) (ds := b__law_same (d__law_same n)) T.F__law_same T.g__law_same S__law_same rfl rfl (fun _ _ _ _ _ _ us hl => match us, hl with | [_, _], _ => rfl) fun cdv A outer s H E hr => ⟨_,
 (pss_cons (ps_if (pt_cmpR op_isN (pv 1) pe_non (nomark _))
 (pss_one (ps_ret (pe_cmpR op_isN (pv 0) pe_non (nomark _))))
 pss_nil)
 (pss_cons (ps_if (pt_val (pe_callB call_isi (by rfl) T.b_isinstance boot_isinstance (pa_cons (pv 1) (pa_cons (pe_bltn (v := .ty "bool") (by rfl) T.b_bool boot_bool rfl) pa_nil))))
 (pss_one (ps_ret (pe_and (pe_callB call_isi (by rfl) T.b_isinstance boot_isinstance (pa_cons (pv 0) (pa_cons (pe_bltn (v := .ty "bool") (by rfl) T.b_bool boot_bool rfl) pa_nil))) (pe_one (pe_cmpR (op_eqU (room64 hr)) (pv 0) (pv 1) (nomark _))))))
 pss_nil)
 (pss_cons (ps_if (pt_val (pe_callB call_isi (by rfl) T.b_isinstance boot_isinstance (pa_cons (pv 1) (pa_cons (pe_bltn (v := .ty "int") (by rfl) T.b_int boot_int rfl) pa_nil))))
 (pss_one (ps_ret (pe_and (pe_callB call_isi (by rfl) T.b_isinstance boot_isinstance (pa_cons (pv 0) (pa_cons (pe_bltn (v := .ty "int") (by rfl) T.b_int boot_int rfl) pa_nil))) (pe_and (pe_not (pe_callB call_isi (by rfl) T.b_isinstance boot_isinstance (pa_cons (pv 0) (pa_cons (pe_bltn (v := .ty "bool") (by rfl) T.b_bool boot_bool rfl) pa_nil)))) (pe_one (pe_cmpR (op_eqU (room64 hr)) (pv 0) (pv 1) (nomark _)))))))
 pss_nil)
 (pss_cons (ps_if (pt_val (pe_callB call_isi (by rfl) T.b_isinstance boot_isinstance (pa_cons (pv 1) (pa_cons (pe_bltn (v := .ty "str") (by rfl) T.b_str boot_str rfl) pa_nil))))
 (pss_one (ps_ret (pe_and (pe_callB call_isi (by rfl) T.b_isinstance boot_isinstance (pa_cons (pv 0) (pa_cons (pe_bltn (v := .ty "str") (by rfl) T.b_str boot_str rfl) pa_nil))) (pe_one (pe_cmpR (op_eqU (room64 hr)) (pv 0) (pv 1) (nomark _))))))
 pss_nil)
 (pss_cons (ps_if (PW.pt (pw_and (pt_val (pe_callB call_isi (by rfl) T.b_isinstance boot_isinstance (pa_cons (pv 1) (pa_cons (pe_bltn (v := .ty "tuple") (by rfl) T.b_tuple boot_tuple rfl) pa_nil)))) (pw_and1 (pt_not (pt_val (pe_callB call_isi (by rfl) T.b_isinstance boot_isinstance (pa_cons (pv 0) (pa_cons (pe_bltn (v := .ty "tuple") (by rfl) T.b_tuple boot_tuple rfl) pa_nil))))))))
 (pss_one (ps_ret pe_bl))
 pss_nil)
 (pss_cons (ps_if (PW.pt (pw_and (pt_val (pe_callB call_isi (by rfl) T.b_isinstance boot_isinstance (pa_cons (pv 1) (pa_cons (pe_bltn (v := .ty "list") (by rfl) T.b_list boot_list rfl) pa_nil)))) (pw_and1 (pt_not (pt_val (pe_callB call_isi (by rfl) T.b_isinstance boot_isinstance (pa_cons (pv 0) (pa_cons (pe_bltn (v := .ty "list") (by rfl) T.b_list boot_list rfl) pa_nil))))))))
 (pss_one (ps_ret pe_bl))
 pss_nil)
 (pss_cons (ps_if (pt_cmpR (op_neU (room64 hr)) (pe_callB call_lenU (by rfl) T.b_len boot_len (pa_cons (pv 0) pa_nil)) (pe_callB call_lenU (by rfl) T.b_len boot_len (pa_cons (pv 1) pa_nil)) (nomark _))
 (pss_one (ps_ret pe_bl))
 pss_nil)
 (pss_cons (ps_for PassesOwn.never rfl (pi_range1 (by rfl) T.b_range (pa_cons (pe_callB call_lenU (by rfl) T.b_len boot_len (pa_cons (pv 1) pa_nil)) pa_nil)) (pg_name (i := 2) S__law_same.nd rfl (by first | exact Or.inl rfl | exact Or.inr rfl))
 (pss_one (ps_if (pt_not (pt_val (pe_callF (k := (1 + n)) (E := E) IH (hr.mono (by omega)) passN (by rfl) (pa_cons (pe_ix ix_seq (pv 0) (pv 2) (fun _ _ => rfl)) (pa_cons (pe_ix ix_seq (pv 1) (pv 2) (fun _ _ => rfl)) pa_nil)))))
 (pss_one (ps_ret pe_bl))
 pss_nil)))
 (pss_one (ps_ret pe_bl)))))))))),
 (ds_seq (ds_if (dt_test (de_op ok_isN (de_var 1) de_non))
 (ds_ret (de_op ok_isN (de_var 0) de_non))
 ds_next)
 (ds_seq (ds_if (dt_test (de_cb ok_isi (da_cons (de_var 1) (da_cons de_ty da_nil))))
 (ds_ret (de_andV (de_cb ok_isi (da_cons (de_var 0) (da_cons de_ty da_nil))) (de_op ok_eq (de_var 0) (de_var 1))))
 ds_next)
 (ds_seq (ds_if (dt_test (de_cb ok_isi (da_cons (de_var 1) (da_cons de_ty da_nil))))
 (ds_ret (de_andV (de_cb ok_isi (da_cons (de_var 0) (da_cons de_ty da_nil))) (de_andV (de_notV (de_cb ok_isi (da_cons (de_var 0) (da_cons de_ty da_nil)))) (de_op ok_eq (de_var 0) (de_var 1)))))
 ds_next)
 (ds_seq (ds_if (dt_test (de_cb ok_isi (da_cons (de_var 1) (da_cons de_ty da_nil))))
 (ds_ret (de_andV (de_cb ok_isi (da_cons (de_var 0) (da_cons de_ty da_nil))) (de_op ok_eq (de_var 0) (de_var 1))))
 ds_next)
 (ds_seq (ds_if (dt_and (dt_test (de_cb ok_isi (da_cons (de_var 1) (da_cons de_ty da_nil)))) (dt_not (dt_test (de_cb ok_isi (da_cons (de_var 0) (da_cons de_ty da_nil))))))
 (ds_ret (de_bl false))
 ds_next)
 (ds_seq (ds_if (dt_and (dt_test (de_cb ok_isi (da_cons (de_var 1) (da_cons de_ty da_nil)))) (dt_not (dt_test (de_cb ok_isi (da_cons (de_var 0) (da_cons de_ty da_nil))))))
 (ds_ret (de_bl false))
 ds_next)
 (ds_seq (ds_if (dt_test (de_op ok_ne (de_cb ok_len (da_cons (de_var 0) da_nil)) (de_cb ok_len (da_cons (de_var 1) da_nil))))
 (ds_ret (de_bl false))
 ds_next)
 (ds_seq (ds_for (di_r1 (da_cons (de_cb ok_len (da_cons (de_var 1) da_nil)) da_nil)) (dg_name 2)
 (ds_wp (is := [2]) (ds_if (dt_not (dt_test (de_call (E := E) (n__law_same n) (da_cons (de_op ok_ix (de_var 0) (de_var 2)) (da_cons (de_op ok_ix (de_var 1) (de_var 2)) da_nil)))))
 (ds_ret (de_bl false))
 ds_next)))
 (ds_ret (de_bl true))))))))))⟩
theorem ok__law_sum_of (T : TX P w K mg) : CallF CX0 P w K mg base 1 "_law_sum_of" ["_law_rows", "_law_ballot_here"] d__law_sum_of :=
  mk_callF (k := 0) (ds := b__law_sum_of) T.F__law_sum_of T.g__law_sum_of S__law_sum_of rfl rfl (fun _ _ _ _ _ _ us hl => match us, hl with | [_, _], _ => rfl) fun cdv A outer s H E hr => ⟨_,
 (pss_one (ps_ret (pe_callB (cr_sum rfl) (by rfl) T.b_sum boot_sum (pa_cons (pe_lc (own := [("_law_own", 2), ("_law_times", 3)]) (g := _) (tt := _) (by rfl) S__law_sum_of.nd (pi_seq (pv 0)) (blkOk_by (N := N__law_sum_of) (sc := defScope s__law_sum_of) (by decide +kernel)) (fun _ _ _ _ _ => (pg_tup (n := 2) rfl (pgs_cons (pg_name (i := 2) S__law_sum_of.nd rfl (by first | exact Or.inl rfl | exact Or.inr rfl)) (pgs_cons (pg_name (i := 3) S__law_sum_of.nd rfl (by first | exact Or.inl rfl | exact Or.inr rfl)) pgs_nil)))) (fun _ _ _ _ _ => (pts_one (pt_cmpR (op_eqU (room64 hr)) (pv 2) (pv 1) (nomark _)))) (fun _ _ _ _ _ => (pv 3))) pa_nil)))),
 (ds_ret (de_cb ok_sum (da_cons (de_lc (di_seq (de_var 0)) (dgv_tup (n := 2) (dgv_cons (dgv_name (i := 2) (by simp)) (dgv_cons (dgv_name (i := 3) (by simp)) dgv_nil))) (dt_test (de_op ok_eq (de_var 2) (de_var 1))) (de_var 3)) da_nil)))⟩
theorem ok__law_ahead (T : TX P w K mg) : CallF CX0 P w K mg base 1 "_law_ahead" ["_law_names_here", "_law_one", "_law_two"] d__law_ahead :=
  mk_callF (k := 0) (ds := b__law_ahead) T.F__law_ahead T.g__law_ahead S__law_ahead rfl rfl (fun _ _ _ _ _ _ us hl => match us, hl with | [_, _, _], _ => rfl) fun cdv A outer s H E hr => ⟨_,
 (pss_cons (ps_for PassesOwn.never rfl (pi_range1 (by rfl) T.b_range (pa_cons (pe_callB (call_minU rfl) (by rfl) T.b_min boot_min (pa_cons (pe_callB call_lenU (by rfl) T.b_len boot_len (pa_cons (pv 1) pa_nil)) (pa_cons (pe_callB call_lenU (by rfl) T.b_len boot_len (pa_cons (pv 2) pa_nil)) pa_nil))) pa_nil)) (pg_name (i := 3) S__law_ahead.nd rfl (by first | exact Or.inl rfl | exact Or.inr rfl))
 (pss_one (ps_if (pt_cmpR (op_neU (room64 hr)) (pe_ix ix_seq (pv 1) (pv 3) (fun _ _ => rfl)) (pe_ix ix_seq (pv 2) (pv 3) (fun _ _ => rfl)) (nomark _))
 (pss_one (ps_ret (pe_cmpR op_lt (pe_tm PySem.F.slot_tuple_index PySem.F.type_tuple_index mt_tup_index (pv 0) (pa_cons (pe_ix ix_seq (pv 1) (pv 3) (fun _ _ => rfl)) pa_nil)) (pe_tm PySem.F.slot_tuple_index PySem.F.type_tuple_index mt_tup_index (pv 0) (pa_cons (pe_ix ix_seq (pv 2) (pv 3) (fun _ _ => rfl)) pa_nil)) (nomark _))))
 pss_nil)))
 (pss_one (ps_ret (pe_cmpR op_lt (pe_callB call_lenU (by rfl) T.b_len boot_len (pa_cons (pv 1) pa_nil)) (pe_callB call_lenU (by rfl) T.b_len boot_len (pa_cons (pv 2) pa_nil)) (nomark _))))),
 (ds_seq (ds_for (di_r1 (da_cons (de_cb ok_min (da_cons (de_cb ok_len (da_cons (de_var 1) da_nil)) (da_cons (de_cb ok_len (da_cons (de_var 2) da_nil)) da_nil))) da_nil)) (dg_name 3)
 (ds_wp (is := [3]) (ds_if (dt_test (de_op ok_ne (de_op ok_ix (de_var 1) (de_var 3)) (de_op ok_ix (de_var 2) (de_var 3))))
 (ds_ret (de_op (ok_cmp fun i j => decide (i < j)) (de_tix (de_var 0) (de_op ok_ix (de_var 1) (de_var 3))) (de_tix (de_var 0) (de_op ok_ix (de_var 2) (de_var 3)))))
 ds_next)))
 (ds_ret (de_op (ok_cmp fun i j => decide (i < j)) (de_cb ok_len (da_cons (de_var 1) da_nil)) (de_cb ok_len (da_cons (de_var 2) da_nil)))))⟩
theorem ok__law_ordered (T : TX P w K mg) : CallF CX0 P w K mg base 2 "_law_ordered" ["_law_names_here", "_law_rows"] d__law_ordered :=
  mk_callF (k := 1) (ds := b__law_ordered) T.F__law_ordered T.g__law_ordered S__law_ordered rfl rfl (fun _ _ _ _ _ _ us hl => match us, hl with | [_, _], _ => rfl) fun cdv A outer s H E hr => ⟨_,
 (pss_cons (ps_set (i := 2) S__law_ordered.nd rfl (by first | exact Or.inl rfl | exact Or.inr rfl) (pe_lst pa_nil))
 (pss_cons (ps_for PassesOwn.never rfl (pi_seq (pv 1)) (pg_tup (n := 2) rfl (pgs_cons (pg_name (i := 3) S__law_ordered.nd rfl (by first | exact Or.inl rfl | exact Or.inr rfl)) (pgs_cons (pg_name (i := 4) S__law_ordered.nd rfl (by first | exact Or.inl rfl | exact Or.inr rfl)) pgs_nil)))
 (pss_one (ps_if (PW.pt (pw_and (pt_cmpR (op_notInU (room65 hr)) (pv 3) (pv 2) rfl) (pw_and1 (pt_cmpR op_gt (pe_callF (k := 1) (E := E) (ok__law_sum_of (K := K) T) (hr.mono (by decide)) passN (by rfl) (pa_cons (pv 1) (pa_cons (pv 3) pa_nil))) pe_int (nomark _)))))
 (pss_cons (ps_set (i := 5) S__law_ordered.nd rfl (by first | exact Or.inl rfl | exact Or.inr rfl) (pe_callB call_lenU (by rfl) T.b_len boot_len (pa_cons (pe_lc (own := [("_law_own", 6)]) (g := _) (tt := _) (by rfl) S__law_ordered.nd (pi_seq (pv 2)) (blkOk_by (N := N__law_ordered) (sc := defScope s__law_ordered) (by decide +kernel)) (fun _ _ _ _ _ => (pg_name (i := 6) S__law_ordered.nd rfl (by first | exact Or.inl rfl | exact Or.inr rfl))) (fun _ _ _ _ _ => (pts_one (pt_val (pe_callF (k := 1) (E := E0) (ok__law_ahead (K := K) T) (hr.mono (by decide)) passN (by rfl) (pa_cons (pv 0) (pa_cons (pv 6) (pa_cons (pv 3) pa_nil))))))) (fun _ _ _ _ _ => (pv 6))) pa_nil)))
 (pss_one (ps_expr (pe_bm PySem.F.plainAttrs_list PySem.F.slot_list_insert PySem.F.type_list_insert mt_insert (pv 2) (pa_cons (pv 5) (pa_cons (pv 3) pa_nil))))))
 pss_nil)))
 (pss_one (ps_ret (pe_lc (own := [("_law_ballot_here", 3)]) (g := _) (tt := tYes) (by rfl) S__law_ordered.nd (pi_seq (pv 2)) (blkOk_by (N := N__law_ordered) (sc := defScope s__law_ordered) (by decide +kernel)) (fun _ _ _ _ _ => (pg_name (i := 3) S__law_ordered.nd rfl (by first | exact Or.inl rfl | exact Or.inr rfl))) (fun _ _ _ _ _ => pts_nil) (fun _ _ _ _ _ => (pe_tupN (pa_cons (pv 3) (pa_cons (pe_callF (k := 1) (E := E0) (ok__law_sum_of (K := K) T) (hr.mono (by decide)) passN (by rfl) (pa_cons (pv 1) (pa_cons (pv 3) pa_nil))) pa_nil))))))))),
 (ds_seq (ds_asg (de_lst da_nil))
 (ds_seq (ds_for (di_seq (de_var 1)) (dg_tup (n := 2) (dg_cons (dg_name 3) (dg_cons (dg_name 4) dg_nil)))
 (ds_wp (is := [3, 4, 5]) (ds_wp (is := [5]) (ds_if (dt_and (dt_test (de_op ok_notIn (de_var 3) (de_var 2))) (dt_test (de_op (ok_cmp fun i j => decide (i > j)) (de_call (E := E) n__law_sum_of (da_cons (de_var 1) (da_cons (de_var 3) da_nil))) (de_int 0))))
 (ds_seq (ds_asg (de_cb ok_len (da_cons (de_lc (di_seq (de_var 2)) (dgv_name (i := 6) (by simp)) (dt_test (de_call (E := E0) n__law_ahead (da_cons (de_var 0) (da_cons (de_var 6) (da_cons (de_var 3) da_nil))))) (de_var 6)) da_nil)))
 (ds_drop (de_mut tyOk_lst ok_ins (da_cons (de_var 5) (da_cons (de_var 3) da_nil)))))
 ds_next))))
 (ds_ret (de_lc (di_seq (de_var 2)) (dgv_name (i := 3) (by simp)) dt_yes (de_tup (da_cons (de_var 3) (da_cons (de_call (E := E0) n__law_sum_of (da_cons (de_var 1) (da_cons (de_var 3) da_nil))) da_nil)))))))⟩
theorem ok__law_roll_is (T : TX P w K mg) : CallF CX0 P w K mg base 9 "_law_roll_is" ["_law_roll", "_law_names_here", "_law_rows"] d__law_roll_is :=
  mk_callF (k := 8) (ds := b__law_roll_is) T.F__law_roll_is T.g__law_roll_is S__law_roll_is rfl rfl (fun _ _ _ _ _ _ us hl => match us, hl with | [_, _, _], _ => rfl) fun cdv A outer s H E hr => ⟨_,
 (pss_cons (ps_if (pt_not (pt_val (pe_callB (call_isiO (K := K)) (by rfl) T.b_isinstance boot_isinstance (pa_cons (pv 0) (pa_cons (pe_globE (v := .ref (He.ga K "Roll")) (by rfl) ⟨_, T.g_Roll, rfl⟩) pa_nil)))))
 (pss_one (ps_ret pe_bl))
 pss_nil)
 (pss_one (ps_ret (pe_and (pe_callF (k := 6) (E := E) (ok__law_same (K := K) T 5) (hr.mono (by decide)) passN (by rfl) (pa_cons (pe_fldF (K := K) ⟨rfl, rfl, rfl, rfl, rfl⟩ (pv 0)) (pa_cons (pv 1) pa_nil))) (pe_one (pe_callF (k := 6) (E := E) (ok__law_same (K := K) T 5) (hr.mono (by decide)) passN (by rfl) (pa_cons (pe_callTy (cr_listO (k := 2) (cs := ["Roll"]) (F := "_rows") (K := K) ⟨rfl, rfl, rfl, rfl, rfl⟩ rfl (oI_Roll T) (oL_Roll T) (hr.mono (by decide))) (by rfl) T.b_list boot_list (pa_cons (pv 0) pa_nil)) (pa_cons (pe_callF (k := 2) (E := E) (ok__law_ordered (K := K) T) (hr.mono (by decide)) passN (by rfl) (pa_cons (pv 1) (pa_cons (pv 2) pa_nil))) pa_nil)))))))),
 (ds_seq (ds_if (dt_not (dt_test (de_cb (ok_isiO T.ois.1 T.ois.2) (da_cons (de_var 0) (da_cons de_cls da_nil)))))
 (ds_ret (de_bl false))
 ds_next)
 (ds_ret (de_andV (de_call (E := E) (n__law_same 5) (da_cons (de_fldF T.fd_names (de_var 0)) (da_cons (de_var 1) da_nil))) (de_call (E := E) (n__law_same 5) (da_cons (de_frz (de_cb ok_listO (da_cons (de_var 0) da_nil))) (da_cons (de_frz (de_call (E := E) n__law_ordered (da_cons (de_var 1) (da_cons (de_var 2) da_nil)))) da_nil))))))⟩
theorem ok_is_name (T : TX P w K mg) : CallF CX0 P w K mg base 1 "is_name" ["word"] d_is_name :=
  mk_callF (k := 0) (ds := b_is_name) T.F_is_name T.g_is_name S_is_name rfl rfl (fun _ _ _ _ _ _ us hl => match us, hl with | [_], _ => rfl) fun cdv A outer s H E hr => ⟨_,
 (pss_cons (ps_if (pt_not (pt_chain op_le op_le pe_int (pe_callB call_lenU (by rfl) T.b_len boot_len (pa_cons (pv 0) pa_nil)) (pe_globE (by rfl) T.k_LONGEST_NAME)))
 (pss_one (ps_ret pe_bl))
 pss_nil)
 (pss_one (ps_ret (pe_callB (cr_all rfl) (by rfl) T.b_all boot_all (pa_cons (pe_lc (own := [("letter", 1)]) (g := _) (tt := tYes) (by rfl) S_is_name.nd (pi_seq (pv 0)) (blkOk_by (N := N_is_name) (sc := defScope s_is_name) (by decide +kernel)) (fun _ _ _ _ _ => (pg_name (i := 1) S_is_name.nd rfl (by first | exact Or.inl rfl | exact Or.inr rfl))) (fun _ _ _ _ _ => pts_nil) (fun _ _ _ _ _ => (pe_cmpR (op_inU (room65 hr)) (pv 1) (pe_globE (by rfl) T.k_LETTERS) rfl))) pa_nil))))),
 (ds_seq (ds_if (dt_not (dt_test (de_chain (p := (fun i j => decide (i ≤ j))) (q := (fun i j => decide (i ≤ j))) (de_int 1) (de_cb ok_len (da_cons (de_var 0) da_nil)) (de_int 12))))
 (ds_ret (de_bl false))
 ds_next)
 (ds_ret (de_cb ok_all (da_cons (de_lc (di_seq (de_var 0)) (dgv_name (i := 1) (by simp)) dt_yes (de_op ok_in (de_var 1) (de_str "abcdefghijklmnopqrstuvwxyz"))) da_nil))))⟩
theorem ok_checked_names (T : TX P w K mg) : CallF CX0 P w K mg base 2 "checked_names" ["names"] d_checked_names :=
  mk_callF (k := 1) (ds := b_checked_names) T.F_checked_names T.g_checked_names S_checked_names rfl rfl (fun _ _ _ _ _ _ us hl => match us, hl with | [_], _ => rfl) fun cdv A outer s H E hr => ⟨_,
 (pss_cons (ps_if (pt_not (pt_chain op_le op_le pe_int (pe_callB call_lenU (by rfl) T.b_len boot_len (pa_cons (pv 0) pa_nil)) (pe_globE (by rfl) T.k_MOST_NAMES)))
 (pss_one ps_never)
 pss_nil)
 (pss_cons (ps_for PassesOwn.never rfl (pi_enumU (by rfl) T.b_enumerate (pa_cons (pv 0) pa_nil)) (pg_tup (n := 2) rfl (pgs_cons (pg_name (i := 1) S_checked_names.nd rfl (by first | exact Or.inl rfl | exact Or.inr rfl)) (pgs_cons (pg_name (i := 2) S_checked_names.nd rfl (by first | exact Or.inl rfl | exact Or.inr rfl)) pgs_nil)))
 (pss_cons (ps_if (pt_not (pt_val (pe_callF (k := 1) (E := E) (ok_is_name (K := K) T) (hr.mono (by decide)) passN (by rfl) (pa_cons (pv 2) pa_nil))))
 (pss_one ps_never)
 pss_nil)
 (pss_one (ps_if (pt_cmpR (op_inU (room65 hr)) (pv 2) (pe_slice sl_U (pv 0) po_none (po_some (pv 1))) rfl)
 (pss_one ps_never)
 pss_nil))))
 (pss_one (ps_ret (pv 0))))),
 (ds_seq (ds_if (dt_not (dt_test (de_chain (p := (fun i j => decide (i ≤ j))) (q := (fun i j => decide (i ≤ j))) (de_int 1) (de_cb ok_len (da_cons (de_var 0) da_nil)) (de_int 5))))
 ds_never
 ds_next)
 (ds_seq (ds_for (di_enum (de_var 0)) (dg_tup (n := 2) (dg_cons (dg_name 1) (dg_cons (dg_name 2) dg_nil)))
 (ds_wp (is := [1, 2]) (ds_seq (ds_if (dt_not (dt_test (de_call (E := E) n_is_name (da_cons (de_var 2) da_nil))))
 ds_never
 ds_next)
 (ds_if (dt_test (de_op ok_in (de_var 2) (de_sl (de_var 0) do_none (do_some (de_var 1)))))
 ds_never
 ds_next))))
 (ds_ret (de_var 0))))⟩
theorem ok_checked_ballot (T : TX P w K mg) : CallF CX0 P w K mg base 1 "checked_ballot" ["names", "ballot"] d_checked_ballot :=
  mk_callF (k := 0) (ds := b_checked_ballot) T.F_checked_ballot T.g_checked_ballot S_checked_ballot rfl rfl (fun _ _ _ _ _ _ us hl => match us, hl with | [_, _], _ => rfl) fun cdv A outer s H E hr => ⟨_,
 (pss_cons (ps_for PassesOwn.never rfl (pi_enumU (by rfl) T.b_enumerate (pa_cons (pv 1) pa_nil)) (pg_tup (n := 2) rfl (pgs_cons (pg_name (i := 2) S_checked_ballot.nd rfl (by first | exact Or.inl rfl | exact Or.inr rfl)) (pgs_cons (pg_name (i := 3) S_checked_ballot.nd rfl (by first | exact Or.inl rfl | exact Or.inr rfl)) pgs_nil)))
 (pss_cons (ps_if (pt_cmpR (op_notInU (room65 hr)) (pv 3) (pv 0) rfl)
 (pss_one ps_never)
 pss_nil)
 (pss_one (ps_if (pt_cmpR (op_inU (room65 hr)) (pv 3) (pe_slice sl_U (pv 1) po_none (po_some (pv 2))) rfl)
 (pss_one ps_never)
 pss_nil))))
 (pss_one (ps_ret (pv 1)))),
 (ds_seq (ds_for (di_enum (de_var 1)) (dg_tup (n := 2) (dg_cons (dg_name 2) (dg_cons (dg_name 3) dg_nil)))
 (ds_wp (is := [2, 3]) (ds_seq (ds_if (dt_test (de_op ok_notIn (de_var 3) (de_var 0)))
 ds_never
 ds_next)
 (ds_if (dt_test (de_op ok_in (de_var 3) (de_sl (de_var 1) do_none (do_some (de_var 2)))))
 ds_never
 ds_next))))
 (ds_ret (de_var 1)))⟩
theorem ok_sorted_rows (T : TX P w K mg) : CallF CX0 P w K mg base 1 "sorted_rows" ["names", "counts"] d_sorted_rows :=
  mk_callF (k := 0) (ds := b_sorted_rows) T.F_sorted_rows T.g_sorted_rows S_sorted_rows rfl rfl (fun _ _ _ _ _ _ us hl => match us, hl with | [_, _], _ => rfl) fun cdv A outer s H E hr => ⟨_,
 (pss_cons (ps_set (i := 2) S_sorted_rows.nd rfl (by first | exact Or.inl rfl | exact Or.inr rfl) (pe_callB (cr_sorted (room64 hr)) (by rfl) T.b_sorted (by decide +kernel) (pa_cons (pe_lc (own := [("ballot", 5)]) (g := _) (tt := _) (by rfl) S_sorted_rows.nd (pi_ksD (pv 1)) (blkOk_by (N := N_sorted_rows) (sc := defScope s_sorted_rows) (by decide +kernel)) (fun _ _ _ _ _ => (pg_name (i := 5) S_sorted_rows.nd rfl (by first | exact Or.inl rfl | exact Or.inr rfl))) (fun _ _ _ _ _ => (pts_one (pt_cmpR op_gt (pe_itemD (K := K) ⟨rfl, T.wd.1, T.wd.2⟩ (room1 hr) (pv 1) (pv 5) (fun _ _ => rfl)) pe_int (nomark _)))) (fun _ _ _ _ _ => (pe_callTy call_tupleU (by rfl) T.b_tuple boot_tuple (pa_cons (pe_lc (own := [("name", 7)]) (g := _) (tt := tYes) (by rfl) S_sorted_rows.nd (pi_seq (pv 5)) (blkOk_by (by kernel_rfl)) (fun _ _ _ _ _ => (pg_name (i := 7) S_sorted_rows.nd rfl (by first | exact Or.inl rfl | exact Or.inr rfl))) (fun _ _ _ _ _ => pts_nil) (fun _ _ _ _ _ => (pe_tm PySem.F.slot_tuple_index PySem.F.type_tuple_index mt_tup_index (pv 0) (pa_cons (pv 7) pa_nil)))) pa_nil)))) pa_nil)))
 (pss_cons (ps_setLc (i := 3) (own := [("key", 4)]) (g := _) (tt := tYes) (by rfl) S_sorted_rows.nd rfl rfl (sw_true rfl rfl rfl (by decide +kernel)) (pi_seq (pv 2)) (blkOk_by (N := N_sorted_rows) (sc := defScope s_sorted_rows) (by decide +kernel)) (fun _ _ _ _ _ => (pg_name (i := 4) S_sorted_rows.nd rfl (by first | exact Or.inl rfl | exact Or.inr rfl))) (fun _ _ _ _ _ => pts_nil) (fun _ _ _ _ _ => (pe_callTy call_tupleU (by rfl) T.b_tuple boot_tuple (pa_cons (pe_lc (own := [("place", 6)]) (g := _) (tt := tYes) (by rfl) S_sorted_rows.nd (pi_seq (pv 4)) (blkOk_by (by kernel_rfl)) (fun _ _ _ _ _ => (pg_name (i := 6) S_sorted_rows.nd rfl (by first | exact Or.inl rfl | exact Or.inr rfl))) (fun _ _ _ _ _ => pts_nil) (fun _ _ _ _ _ => (pe_ix ix_seq (pv 0) (pv 6) (fun _ _ => rfl)))) pa_nil))))
 (pss_one (ps_ret (pe_callTy call_tupleU (by rfl) T.b_tuple boot_tuple (pa_cons (pe_lc (own := [("ballot", 5)]) (g := _) (tt := tYes) (by rfl) S_sorted_rows.nd (pi_seq (pv 3)) (blkOk_by (N := N_sorted_rows) (sc := defScope s_sorted_rows) (by decide +kernel)) (fun _ _ _ _ _ => (pg_name (i := 5) S_sorted_rows.nd rfl (by first | exact Or.inl rfl | exact Or.inr rfl))) (fun _ _ _ _ _ => pts_nil) (fun _ _ _ _ _ => (pe_tupN (pa_cons (pv 5) (pa_cons (pe_itemD (K := K) ⟨rfl, T.wd.1, T.wd.2⟩ (room1 hr) (pv 1) (pv 5) (fun _ _ => rfl)) pa_nil))))) pa_nil)))))),
 (ds_seq (ds_asg (de_frz (de_cb ok_sorted (da_cons (de_lc (di_ks (de_var 1)) (dgv_name (i := 5) (by simp)) (dt_test (de_op (ok_cmp fun i j => decide (i > j)) (de_op ok_itD (de_var 1) (de_var 5)) (de_int 0))) (de_cb ok_tuple (da_cons (de_lc (di_seq (de_var 5)) (dgv_name (i := 7) (by simp)) dt_yes (de_tix (de_var 0) (de_var 7))) da_nil))) da_nil))))
 (ds_seq (ds_asg (de_frz (de_lc (di_seq (de_var 2)) (dgv_name (i := 4) (by simp)) dt_yes (de_cb ok_tuple (da_cons (de_lc (di_seq (de_var 4)) (dgv_name (i := 6) (by simp)) dt_yes (de_op ok_ix (de_var 0) (de_var 6))) da_nil)))))
 (ds_ret (de_cb ok_tuple (da_cons (de_lc (di_seq (de_var 3)) (dgv_name (i := 5) (by simp)) dt_yes (de_tup (da_cons (de_var 5) (da_cons (de_op ok_itD (de_var 1) (de_var 5)) da_nil)))) da_nil)))))⟩
theorem ok_Roll___init__ (T : TX P w K mg) {f : Addr} (F : ∃ fd, FunD K "__init__" "Roll.__init__" (defArgs s_Roll___init__) (defBody s_Roll___init__) (defScope s_Roll___init__) [(.ref (He.dflAt ("Roll", some "__init__") 0 K))] [("largest", (.int 1000000000000))] f fd) : FnG CX0 P w K mg base 3 "__init__" "Roll.__init__" s_Roll___init__ [(.ref (He.dflAt ("Roll", some "__init__") 0 K))] [("largest", (.int 1000000000000))] f ["self", "names", "rows", "largest"] d_Roll___init__ :=
  mk_fnG (k := 2) (ds := b_Roll___init__) F S_Roll___init__ rfl rfl fun cdv A outer s H E hr => ⟨_,
 (pss_cons (ps_fldF (K := K) ⟨rfl, rfl, rfl, rfl, rfl⟩ (pv 0) (pe_callF (k := 2) (E := E) (ok_checked_names (K := K) T) (hr.mono (by decide)) passN (by rfl) (pa_cons (pv 1) pa_nil)))
 (pss_cons (ps_set (i := 4) S_Roll___init__.nd rfl (by first | exact Or.inl rfl | exact Or.inr rfl) pe_newD)
 (pss_cons (ps_for PassesOwn.never rfl (pi_seq (pv 2)) (pg_tup (n := 2) rfl (pgs_cons (pg_name (i := 5) S_Roll___init__.nd rfl (by first | exact Or.inl rfl | exact Or.inr rfl)) (pgs_cons (pg_name (i := 6) S_Roll___init__.nd rfl (by first | exact Or.inl rfl | exact Or.inr rfl)) pgs_nil)))
 (pss_cons (ps_expr (pe_callF (k := 1) (E := E) (ok_checked_ballot (K := K) T) (hr.mono (by decide)) passN (by rfl) (pa_cons (pe_fldF (K := K) ⟨rfl, rfl, rfl, rfl, rfl⟩ (pv 0)) (pa_cons (pv 5) pa_nil))))
 (pss_cons (ps_if (PW.pt (pw_or (pt_cmpR op_lt (pv 6) pe_int (nomark _)) (pw_or1 (PW.pt (pw_and (pt_cmpR op_notN (pv 3) pe_non (nomark _)) (pw_and1 (pt_cmpR op_gt (pv 6) (pv 3) (nomark _))))))))
 (pss_one ps_never)
 pss_nil)
 (pss_one (ps_asg (pe_op op_addU (pe_getD (K := K) ⟨rfl, T.wd.1, T.wd.2⟩ (room1 hr) (pv 4) (pv 5) pe_int ⟨by rfl, by rfl, by rfl, by rfl⟩) (pv 6)) (pg_sub (pv 4) (pv 5) (set_dict (K := K) ⟨rfl, T.wd.1, T.wd.2⟩ (room1 hr))))))))
 (pss_one (ps_fldF (K := K) ⟨rfl, rfl, rfl, rfl, rfl⟩ (pv 0) (pe_callF (k := 1) (E := E) (ok_sorted_rows (K := K) T) (hr.mono (by decide)) passN (by rfl) (pa_cons (pe_fldF (K := K) ⟨rfl, rfl, rfl, rfl, rfl⟩ (pv 0)) (pa_cons (pv 4) pa_nil)))))))),
 (ds_seq (ds_setF T.fd_names (de_call (E := E) n_checked_names (da_cons (de_var 1) da_nil)))
 (ds_seq (ds_asg de_newT)
 (ds_seq (ds_for (di_seq (de_var 2)) (dg_tup (n := 2) (dg_cons (dg_name 5) (dg_cons (dg_name 6) dg_nil)))
 (ds_wp (is := [5, 6]) (ds_seq (ds_drop (de_call (E := E) n_checked_ballot (da_cons (de_fldF T.fd_names (de_var 0)) (da_cons (de_var 5) da_nil))))
 (ds_seq (ds_if (dt_or (dt_test (de_op (ok_cmp fun i j => decide (i < j)) (de_var 6) (de_int 0))) (dt_and (dt_test (de_op ok_notN (de_var 3) de_non)) (dt_test (de_op (ok_cmp fun i j => decide (i > j)) (de_var 6) (de_var 3)))))
 ds_never
 ds_next)
 (ds_setD (de_op ok_add (de_getD (de_var 4) (de_var 5) (de_int 0)) (de_var 6)) (de_var 5))))))
 (ds_fz (is := [4]) (ds_setF T.fd__rows (de_call (E := E) n_sorted_rows (da_cons (de_fldF T.fd_names (de_var 0)) (da_cons (de_var 4) da_nil))))))))⟩
theorem kf_Roll___init___2_ (K : Fg) : KFormM K "__init__" "Roll.__init__" s_Roll___init__ [(.ref (He.dflAt ("Roll", some "__init__") 0 K))] [("largest", (.int 1000000000000))] ["self", "names", "rows", "largest"] 3 [] (fun us ws => (fun (us its mv ws : List V) => us ++ ((mv.drop 0).take 1)) us [(.ref (He.dflAt ("Roll", some "__init__") 0 K))] ([(.int 1000000000000)]) ws) := fun f fd F => ⟨_, (F.kbinds 3 [] [("largest", (.int 1000000000000))] (fun us its mv ws => us ++ ((mv.drop 0).take 1)) (by simp) (by simp) (by simp) (fun hu hi hm hz => hu.append (Vals.take 1 (Vals.drop 0 hm))) (fun T D doc pm an cdv ct us its mv ws h1 h2 h3 h4 => match us, its, mv, ws, h1, h2, h3, h4 with
  | [_, _, _], [_], [_], [], _, _, _, _ => ⟨_, rfl, ⟨_, _, _, _, _, _, rfl, rfl, (show _ = pure _ by with_unfolding_all rfl)⟩⟩)).choose_spec.choose_spec⟩
theorem ok_is_number (T : TX P w K mg) : CallF CX0 P w K mg base 1 "is_number" ["word"] d_is_number :=
  mk_callF (k := 0) (ds := b_is_number) T.F_is_number T.g_is_number S_is_number rfl rfl (fun _ _ _ _ _ _ us hl => match us, hl with | [_], _ => rfl) fun cdv A outer s H E hr => ⟨_,
 (pss_cons (ps_if (PW.pt (pw_or (pt_cmpR (op_eqU (room64 hr)) (pv 0) pe_str (nomark _)) (pw_or1 (pt_not (pt_val (pe_callB (cr_all rfl) (by rfl) T.b_all boot_all (pa_cons (pe_lc (own := [("digit", 1)]) (g := _) (tt := tYes) (by rfl) S_is_number.nd (pi_seq (pv 0)) (blkOk_by (N := N_is_number) (sc := defScope s_is_number) (by decide +kernel)) (fun _ _ _ _ _ => (pg_name (i := 1) S_is_number.nd rfl (by first | exact Or.inl rfl | exact Or.inr rfl))) (fun _ _ _ _ _ => pts_nil) (fun _ _ _ _ _ => (pe_cmpR (op_inU (room65 hr)) (pv 1) (pe_globE (by rfl) T.k_DIGITS) rfl))) pa_nil)))))))
 (pss_one (ps_ret pe_bl))
 pss_nil)
 (pss_one (ps_ret (pe_or (pe_cmpR (op_eqU (room64 hr)) (pv 0) pe_str (nomark _)) (pe_one (pe_cmpR (op_neU (room64 hr)) (pe_ix ix_seq (pv 0) pe_int (fun _ _ => rfl)) pe_str (nomark _))))))),
 (ds_seq (ds_if (dt_or (dt_test (de_op ok_eq (de_var 0) (de_str ""))) (dt_not (dt_test (de_cb ok_all (da_cons (de_lc (di_seq (de_var 0)) (dgv_name (i := 1) (by simp)) dt_yes (de_op ok_in (de_var 1) (de_str "0123456789"))) da_nil)))))
 (ds_ret (de_bl false))
 ds_next)
 (ds_ret (de_orV (de_op ok_eq (de_var 0) (de_str "0")) (de_op ok_ne (de_op ok_ix (de_var 0) (de_int 0)) (de_str "0")))))⟩
theorem ok_is_ballot_text (T : TX P w K mg) : CallF CX0 P w K mg base 2 "is_ballot_text" ["word"] d_is_ballot_text :=
  mk_callF (k := 1) (ds := b_is_ballot_text) T.F_is_ballot_text T.g_is_ballot_text S_is_ballot_text rfl rfl (fun _ _ _ _ _ _ us hl => match us, hl with | [_], _ => rfl) fun cdv A outer s H E hr => ⟨_,
 (pss_one (ps_ret (pe_or (pe_cmpR (op_eqU (room64 hr)) (pv 0) pe_str (nomark _)) (pe_one (pe_callB (cr_all rfl) (by rfl) T.b_all boot_all (pa_cons (pe_lc (own := [("part", 1)]) (g := _) (tt := tYes) (by rfl) S_is_ballot_text.nd (pi_seq (pe_split (pv 0) pe_str)) (blkOk_by (N := N_is_ballot_text) (sc := defScope s_is_ballot_text) (by decide +kernel)) (fun _ _ _ _ _ => (pg_name (i := 1) S_is_ballot_text.nd rfl (by first | exact Or.inl rfl | exact Or.inr rfl))) (fun _ _ _ _ _ => pts_nil) (fun _ _ _ _ _ => (pe_callF (k := 1) (E := E0) (ok_is_name (K := K) T) (hr.mono (by decide)) passN (by rfl) (pa_cons (pv 1) pa_nil)))) pa_nil)))))),
 (ds_ret (de_orV (de_op ok_eq (de_var 0) (de_str "-")) (de_cb ok_all (da_cons (de_lc (di_seq (de_m1 ok_split (de_var 0) (de_str ">"))) (dgv_name (i := 1) (by simp)) dt_yes (de_call (E := E0) n_is_name (da_cons (de_var 1) da_nil))) da_nil))))⟩
theorem ok_ballot_of (T : TX P w K mg) : CallF CX0 P w K mg base 1 "ballot_of" ["word"] d_ballot_of :=
  mk_callF (k := 0) (ds := b_ballot_of) T.F_ballot_of T.g_ballot_of S_ballot_of rfl rfl (fun _ _ _ _ _ _ us hl => match us, hl with | [_], _ => rfl) fun cdv A outer s H E hr => ⟨_,
 (pss_cons (ps_if (pt_cmpR (op_eqU (room64 hr)) (pv 0) pe_str (nomark _))
 (pss_one (ps_ret (pe_tupN pa_nil)))
 pss_nil)
 (pss_one (ps_ret (pe_callTy call_tupleU (by rfl) T.b_tuple boot_tuple (pa_cons (pe_split (pv 0) pe_str) pa_nil))))),
 (ds_seq (ds_if (dt_test (de_op ok_eq (de_var 0) (de_str "-")))
 (ds_ret (de_tup da_nil))
 ds_next)
 (ds_ret (de_cb ok_tuple (da_cons (de_m1 ok_split (de_var 0) (de_str ">")) da_nil))))⟩
theorem ok_read_line (T : TX P w K mg) : CallF CX0 P w K mg base 3 "read_line" ["names", "line", "text"] d_read_line :=
  mk_callF (k := 2) (ds := b_read_line) T.F_read_line T.g_read_line S_read_line rfl rfl (fun _ _ _ _ _ _ us hl => match us, hl with | [_, _, _], _ => rfl) fun cdv A outer s H E hr => ⟨_,
 (pss_cons (ps_asg (pe_partition (pv 2) pe_str) (pg_tup (n := 3) rfl (pgs_cons (pg_name (i := 3) S_read_line.nd rfl (by first | exact Or.inl rfl | exact Or.inr rfl)) (pgs_cons (pg_name (i := 4) S_read_line.nd rfl (by first | exact Or.inl rfl | exact Or.inr rfl)) (pgs_cons (pg_name (i := 5) S_read_line.nd rfl (by first | exact Or.inl rfl | exact Or.inr rfl)) pgs_nil)))))
 (pss_cons (ps_if (PW.pt (pw_or (pt_cmpR (op_eqU (room64 hr)) (pv 4) pe_str (nomark _)) (pw_or (pt_not (pt_val (pe_callF (k := 1) (E := E) (ok_is_number (K := K) T) (hr.mono (by decide)) passN (by rfl) (pa_cons (pv 3) pa_nil)))) (pw_or1 (pt_not (pt_val (pe_callF (k := 2) (E := E) (ok_is_ballot_text (K := K) T) (hr.mono (by decide)) passN (by rfl) (pa_cons (pv 5) pa_nil))))))))
 (pss_one ps_never)
 pss_nil)
 (pss_cons (ps_if (PW.pt (pw_or (pt_cmpR op_gt (pe_callB call_lenU (by rfl) T.b_len boot_len (pa_cons (pv 3) pa_nil)) (pe_globE (by rfl) T.k_MOST_DIGITS) (nomark _)) (pw_or1 (pt_not (pt_chain op_le op_le pe_int (pe_callTy call_int_str (by rfl) T.b_int boot_int (pa_cons (pv 3) pa_nil)) (pe_globE (by rfl) T.k_LARGEST_COUNT))))))
 (pss_one ps_never)
 pss_nil)
 (pss_cons (ps_set (i := 6) S_read_line.nd rfl (by first | exact Or.inl rfl | exact Or.inr rfl) (pe_callF (k := 1) (E := E) (ok_ballot_of (K := K) T) (hr.mono (by decide)) passN (by rfl) (pa_cons (pv 5) pa_nil)))
 (pss_cons (ps_for PassesOwn.never rfl (pi_enumU (by rfl) T.b_enumerate (pa_cons (pv 6) pa_nil)) (pg_tup (n := 2) rfl (pgs_cons (pg_name (i := 7) S_read_line.nd rfl (by first | exact Or.inl rfl | exact Or.inr rfl)) (pgs_cons (pg_name (i := 8) S_read_line.nd rfl (by first | exact Or.inl rfl | exact Or.inr rfl)) pgs_nil)))
 (pss_cons (ps_if (pt_cmpR (op_notInU (room65 hr)) (pv 8) (pv 0) rfl)
 (pss_one ps_never)
 pss_nil)
 (pss_one (ps_if (pt_cmpR (op_inU (room65 hr)) (pv 8) (pe_slice sl_U (pv 6) po_none (po_some (pv 7))) rfl)
 (pss_one ps_never)
 pss_nil))))
 (pss_one (ps_ret (pe_tupN (pa_cons (pv 6) (pa_cons (pe_callTy call_int_str (by rfl) T.b_int boot_int (pa_cons (pv 3) pa_nil)) pa_nil)))))))))),
 (ds_seq (ds_asgG (dg_tup (n := 3) (dg_cons (dg_name 3) (dg_cons (dg_name 4) (dg_cons (dg_name 5) dg_nil)))) (de_m1 ok_part (de_var 2) (de_str " ")))
 (ds_seq (ds_if (dt_or (dt_test (de_op ok_eq (de_var 4) (de_str ""))) (dt_or (dt_not (dt_test (de_call (E := E) n_is_number (da_cons (de_var 3) da_nil)))) (dt_not (dt_test (de_call (E := E) n_is_ballot_text (da_cons (de_var 5) da_nil))))))
 ds_never
 ds_next)
 (ds_seq (ds_if (dt_or (dt_test (de_op (ok_cmp fun i j => decide (i > j)) (de_cb ok_len (da_cons (de_var 3) da_nil)) (de_int 13))) (dt_not (dt_test (de_chain (p := (fun i j => decide (i ≤ j))) (q := (fun i j => decide (i ≤ j))) (de_int 1) (de_cb ok_intT (da_cons (de_var 3) da_nil)) (de_int 1000000000000)))))
 ds_never
 ds_next)
 (ds_seq (ds_asg (de_frz (de_call (E := E) n_ballot_of (da_cons (de_var 5) da_nil))))
 (ds_seq (ds_for (di_enum (de_var 6)) (dg_tup (n := 2) (dg_cons (dg_name 7) (dg_cons (dg_name 8) dg_nil)))
 (ds_wp (is := [7, 8]) (ds_seq (ds_if (dt_test (de_op ok_notIn (de_var 8) (de_var 0)))
 ds_never
 ds_next)
 (ds_if (dt_test (de_op ok_in (de_var 8) (de_sl (de_var 6) do_none (do_some (de_var 7)))))
 ds_never
 ds_next))))
 (ds_ret (de_tup (da_cons (de_var 6) (da_cons (de_cb ok_intT (da_cons (de_var 3) da_nil)) da_nil)))))))))⟩
theorem ok_read_rows (T : TX P w K mg) : CallF CX0 P w K mg base 4 "read_rows" ["names", "text"] d_read_rows :=
  mk_callF (k := 3) (ds := b_read_rows) T.F_read_rows T.g_read_rows S_read_rows rfl rfl (fun _ _ _ _ _ _ us hl => match us, hl with | [_, _], _ => rfl) fun cdv A outer s H E hr => ⟨_,
 (pss_cons (ps_if (pt_cmpR (op_eqU (room64 hr)) (pv 1) pe_str (nomark _))
 (pss_one (ps_ret (pe_lst pa_nil)))
 pss_nil)
 (pss_one (ps_ret (pe_lc (own := [("at", 2), ("line", 3)]) (g := _) (tt := tYes) (by rfl) S_read_rows.nd (pi_enumU (by rfl) T.b_enumerate (pa_cons (pe_split (pv 1) pe_str) pa_nil)) (blkOk_by (N := N_read_rows) (sc := defScope s_read_rows) (by decide +kernel)) (fun _ _ _ _ _ => (pg_tup (n := 2) rfl (pgs_cons (pg_name (i := 2) S_read_rows.nd rfl (by first | exact Or.inl rfl | exact Or.inr rfl)) (pgs_cons (pg_name (i := 3) S_read_rows.nd rfl (by first | exact Or.inl rfl | exact Or.inr rfl)) pgs_nil)))) (fun _ _ _ _ _ => pts_nil) (fun _ _ _ _ _ => (pe_callF (k := 3) (E := E0) (ok_read_line (K := K) T) (hr.mono (by decide)) passN (by rfl) (pa_cons (pv 0) (pa_cons (pe_op op_addU (pv 2) pe_int) (pa_cons (pv 3) pa_nil))))))))),
 (ds_seq (ds_if (dt_test (de_op ok_eq (de_var 1) (de_str "")))
 (ds_ret (de_lst da_nil))
 ds_next)
 (ds_ret (de_lc (di_enum (de_m1 ok_split (de_var 1) (de_str "\n"))) (dgv_tup (n := 2) (dgv_cons (dgv_name (i := 2) (by simp)) (dgv_cons (dgv_name (i := 3) (by simp)) dgv_nil))) dt_yes (de_call (E := E0) n_read_line (da_cons (de_var 0) (da_cons (de_frz (de_op ok_add (de_var 2) (de_int 1))) (da_cons (de_var 3) da_nil)))))))⟩
theorem ok_Roll_read (T : TX P w K mg) {f : Addr} (F : ∃ fd, FunD K "read" "Roll.read" (defArgs s_Roll_read) (defBody s_Roll_read) (defScope s_Roll_read) [] [] f fd) : FnR P w K mg base CX0 5 f (spD K d_Roll_read) :=
  mk_fnR (k := 4) (ds := b_Roll_read) F S_Roll_read rfl rfl (fun _ _ _ _ _ _ us hl => match us, hl with | [_, _, _], _ => rfl) fun cdv A outer s H E hr => ⟨_,
 (pss_one (ps_ret (pe_makeL (E := (fun _ => E)) (K := K) ⟨rfl, rfl, rfl, rfl, rfl⟩ (mkG_of (den := d_Roll___init__) T.mk_Roll T.g_Roll (ok_Roll___init__ (K := K) T T.F_Roll___init__)) (kf_Roll___init___2_ K) (hr.mono (by decide)) (pv 0) passN0 (pa_cons (pv 1) (pa_cons (pe_callF (k := 4) (E := E) (ok_read_rows (K := K) T) (hr.mono (by decide)) passN (by rfl) (pa_cons (pe_callF (k := 2) (E := E) (ok_checked_names (K := K) T) (hr.mono (by decide)) passN (by rfl) (pa_cons (pv 1) pa_nil)) (pa_cons (pv 2) pa_nil))) pa_nil)) pk_nil))),
 (ds_ret (de_frz (de_makeL (de_makeG (srv := [.a 0, .a 1, .d (.int 1000000000000)]) n_Roll___init__ (fun _ _ _ => rfl) (.cons (.a 0) (.cons (.a 1) (.cons (.d (dv_int 1000000000000)) .nil))) (fun us ws h1 h2 => match us, ws, h1, h2 with
  | [_, _], [], _, _ => rfl) (da_cons (de_var 1) (da_cons (de_frz (de_call (E := E) n_read_rows (da_cons (de_frz (de_call (E := E) n_checked_names (da_cons (de_var 1) da_nil))) (da_cons (de_var 2) da_nil)))) da_nil)) da_nil))))⟩
theorem ok_law (T : TX P w K mg) {fd : FuncData} (F : FunD K "law" "law" (defArgs s_law) (defBody s_law) (defScope s_law) [] [] (He.ga K "law") fd) : FnOk P w K mg base CX0 10 (He.ga K "law") fd ["_law_script"] (spD K d_law) :=
  mk_fnOk (k := 9) (ds := b_law) F S_law rfl rfl fun cdv A outer s H E hr => ⟨_,
 (pss_cons (ps_set (i := 1) S_law.nd rfl (by first | exact Or.inl rfl | exact Or.inr rfl) (pe_callF (k := 4) (E := E) (ok__law_names (K := K) T) (hr.mono (by decide)) passN (by rfl) (pa_cons (pe_callF (k := 2) (E := E) (ok__law_pool (K := K) T) (hr.mono (by decide)) passN (by rfl) (pa_cons (pv 0) (pa_cons pe_int pa_nil))) (pa_cons pe_int (pa_cons pe_int pa_nil)))))
 (pss_cons (ps_set (i := 2) S_law.nd rfl (by first | exact Or.inl rfl | exact Or.inr rfl) (pe_callF (k := 2) (E := E) (ok__law_pool (K := K) T) (hr.mono (by decide)) passN (by rfl) (pa_cons (pv 0) (pa_cons pe_int pa_nil))))
 (pss_cons (ps_if (pt_cmpR (op_eqU (room64 hr)) (pe_callF (k := 2) (E := E) (ok__law_draw (K := K) T) (hr.mono (by decide)) passN (by rfl) (pa_cons (pv 2) (pa_cons pe_int pa_nil))) pe_int (nomark _))
 (pss_one (ps_set (i := 1) S_law.nd rfl (by first | exact Or.inl rfl | exact Or.inr rfl) (pe_callF (k := 4) (E := E) (ok__law_kin (K := K) T) (hr.mono (by decide)) passN (by rfl) (pa_cons (pv 2) (pa_cons (pe_callB call_lenU (by rfl) T.b_len boot_len (pa_cons (pv 1) pa_nil)) pa_nil)))))
 pss_nil)
 (pss_cons (ps_set (i := 3) S_law.nd rfl (by first | exact Or.inl rfl | exact Or.inr rfl) (pe_callF (k := 2) (E := E) (ok__law_pool (K := K) T) (hr.mono (by decide)) passN (by rfl) (pa_cons (pv 0) (pa_cons pe_int pa_nil))))
 (pss_cons (ps_set (i := 4) S_law.nd rfl (by first | exact Or.inl rfl | exact Or.inr rfl) (pe_callF (k := 5) (E := E) (ok__law_line_rows (K := K) T) (hr.mono (by decide)) passN (by rfl) (pa_cons (pv 3) (pa_cons (pv 1) pa_nil))))
 (pss_cons (ps_set (i := 5) S_law.nd rfl (by first | exact Or.inl rfl | exact Or.inr rfl) (pe_callF (k := 2) (E := E) (ok__law_lines (K := K) T) (hr.mono (by decide)) passN (by rfl) (pa_cons (pv 4) pa_nil)))
 (pss_cons (ps_set (i := 6) S_law.nd rfl (by first | exact Or.inl rfl | exact Or.inr rfl) (pe_join pe_str (pv 5)))
 (pss_cons (ps_set (i := 7) S_law.nd rfl (by first | exact Or.inl rfl | exact Or.inr rfl) pe_int)
 (pss_cons (ps_if (pt_cmpR (op_eqU (room64 hr)) (pe_callF (k := 2) (E := E) (ok__law_draw (K := K) T) (hr.mono (by decide)) passN (by rfl) (pa_cons (pv 3) (pa_cons pe_int pa_nil))) pe_int (nomark _))
 (pss_one (ps_set (i := 7) S_law.nd rfl (by first | exact Or.inl rfl | exact Or.inr rfl) (pe_op op_addU pe_int (pe_callF (k := 2) (E := E) (ok__law_draw (K := K) T) (hr.mono (by decide)) passN (by rfl) (pa_cons (pv 3) (pa_cons pe_int pa_nil))))))
 pss_nil)
 (pss_cons (ps_if (PW.pt (pw_or (pt_not (pt_val (pe_callF (k := 9) (E := E) (ok__law_roll_is (K := K) T) (hr.mono (by decide)) passN (by rfl) (pa_cons (pe_cmF (E := (fun _ => E)) (K := K) ⟨rfl, rfl, rfl, rfl, rfl⟩ (cmetF_of (den := d_Roll_read) T.cm_Roll_read (ok_Roll_read (K := K) T T.F_Roll_read)) (hr.mono (by decide)) passN0 (pe_globE (v := .ref (He.ga K "Roll")) (by rfl) ⟨_, T.g_Roll, rfl⟩) (pa_cons (pv 1) (pa_cons (pv 6) pa_nil))) (pa_cons (pv 1) (pa_cons (pv 4) pa_nil)))))) (pw_or1 (pt_not (pt_val (pe_callF (k := 9) (E := E) (ok__law_roll_is (K := K) T) (hr.mono (by decide)) passN (by rfl) (pa_cons (pe_cmF (E := (fun _ => E)) (K := K) ⟨rfl, rfl, rfl, rfl, rfl⟩ (cmetF_of (den := d_Roll_read) T.cm_Roll_read (ok_Roll_read (K := K) T T.F_Roll_read)) (hr.mono (by decide)) passN0 (pe_globE (v := .ref (He.ga K "Roll")) (by rfl) ⟨_, T.g_Roll, rfl⟩) (pa_cons (pv 1) (pa_cons pe_str pa_nil))) (pa_cons (pv 1) (pa_cons (pe_lst pa_nil) pa_nil)))))))))
 (pss_one (ps_ret pe_bl))
 pss_nil)
 (pss_cons (ps_if (pt_not (pt_val (pe_callF (k := 9) (E := E) (ok__law_roll_is (K := K) T) (hr.mono (by decide)) passN (by rfl) (pa_cons (pe_cmF (E := (fun _ => E)) (K := K) ⟨rfl, rfl, rfl, rfl, rfl⟩ (cmetF_of (den := d_Roll_read) T.cm_Roll_read (ok_Roll_read (K := K) T T.F_Roll_read)) (hr.mono (by decide)) passN0 (pe_globE (v := .ref (He.ga K "Roll")) (by rfl) ⟨_, T.g_Roll, rfl⟩) (pa_cons (pv 1) (pa_cons (pe_join pe_str (pe_revL (pv 5))) pa_nil))) (pa_cons (pv 1) (pa_cons (pv 4) pa_nil))))))
 (pss_one (ps_ret pe_bl))
 pss_nil)
 (pss_cons (ps_setLc (i := 8) (own := [("_law_ballot_here", 10), ("_law_times", 11)]) (g := _) (tt := tYes) (by rfl) S_law.nd rfl rfl (sw_true rfl rfl rfl (by decide +kernel)) (pi_seq (pv 4)) (blkOk_by (N := N_law) (sc := defScope s_law) (by decide +kernel)) (fun _ _ _ _ _ => (pg_tup (n := 2) rfl (pgs_cons (pg_name (i := 10) S_law.nd rfl (by first | exact Or.inl rfl | exact Or.inr rfl)) (pgs_cons (pg_name (i := 11) S_law.nd rfl (by first | exact Or.inl rfl | exact Or.inr rfl)) pgs_nil)))) (fun _ _ _ _ _ => pts_nil) (fun _ _ _ _ _ => (pe_tupN (pa_cons (pv 10) (pa_cons (pe_op op_mulU (pv 11) (pv 7)) pa_nil)))))
 (pss_cons (ps_if (pt_not (pt_val (pe_callF (k := 9) (E := E) (ok__law_roll_is (K := K) T) (hr.mono (by decide)) passN (by rfl) (pa_cons (pe_cmF (E := (fun _ => E)) (K := K) ⟨rfl, rfl, rfl, rfl, rfl⟩ (cmetF_of (den := d_Roll_read) T.cm_Roll_read (ok_Roll_read (K := K) T T.F_Roll_read)) (hr.mono (by decide)) passN0 (pe_globE (v := .ref (He.ga K "Roll")) (by rfl) ⟨_, T.g_Roll, rfl⟩) (pa_cons (pv 1) (pa_cons (pe_join pe_str (pe_op op_mulU (pv 5) (pv 7))) pa_nil))) (pa_cons (pv 1) (pa_cons (pv 8) pa_nil))))))
 (pss_one (ps_ret pe_bl))
 pss_nil)
 (pss_cons (ps_for PassesOwn.never rfl (pi_range1 (by rfl) T.b_range (pa_cons (pe_callB call_lenU (by rfl) T.b_len boot_len (pa_cons (pv 4) pa_nil)) pa_nil)) (pg_name (i := 9) S_law.nd rfl (by first | exact Or.inl rfl | exact Or.inr rfl))
 (pss_one (ps_if (pt_not (pt_val (pe_callF (k := 9) (E := E) (ok__law_roll_is (K := K) T) (hr.mono (by decide)) passN (by rfl) (pa_cons (pe_cmF (E := (fun _ => E)) (K := K) ⟨rfl, rfl, rfl, rfl, rfl⟩ (cmetF_of (den := d_Roll_read) T.cm_Roll_read (ok_Roll_read (K := K) T T.F_Roll_read)) (hr.mono (by decide)) passN0 (pe_globE (v := .ref (He.ga K "Roll")) (by rfl) ⟨_, T.g_Roll, rfl⟩) (pa_cons (pv 1) (pa_cons (pe_ix ix_seq (pv 5) (pv 9) (fun _ _ => rfl)) pa_nil))) (pa_cons (pv 1) (pa_cons (pe_lst (pa_cons (pe_ix ix_seq (pv 4) (pv 9) (fun _ _ => rfl)) pa_nil)) pa_nil))))))
 (pss_one (ps_ret pe_bl))
 pss_nil)))
 (pss_one (ps_ret (pe_callF (k := 9) (E := E) (ok__law_roll_is (K := K) T) (hr.mono (by decide)) passN (by rfl) (pa_cons (pe_cmF (E := (fun _ => E)) (K := K) ⟨rfl, rfl, rfl, rfl, rfl⟩ (cmetF_of (den := d_Roll_read) T.cm_Roll_read (ok_Roll_read (K := K) T T.F_Roll_read)) (hr.mono (by decide)) passN0 (pe_globE (v := .ref (He.ga K "Roll")) (by rfl) ⟨_, T.g_Roll, rfl⟩) (pa_cons (pv 1) (pa_cons (pv 6) pa_nil))) (pa_cons (pv 1) (pa_cons (pv 4) pa_nil)))))))))))))))))))),
 (ds_seq (ds_asg (de_frz (de_call (E := E) n__law_names (da_cons (de_call (E := E) n__law_pool (da_cons (de_var 0) (da_cons (de_int 0) da_nil))) (da_cons (de_int 1) (da_cons (de_int 5) da_nil))))))
 (ds_seq (ds_asg (de_call (E := E) n__law_pool (da_cons (de_var 0) (da_cons (de_int 2) da_nil))))
 (ds_seq (ds_if (dt_test (de_op ok_eq (de_call (E := E) n__law_draw (da_cons (de_var 2) (da_cons (de_int 3) da_nil))) (de_int 1)))
 (ds_asg (de_frz (de_call (E := E) n__law_kin (da_cons (de_var 2) (da_cons (de_cb ok_len (da_cons (de_var 1) da_nil)) da_nil)))))
 ds_next)
 (ds_seq (ds_asg (de_call (E := E) n__law_pool (da_cons (de_var 0) (da_cons (de_int 1) da_nil))))
 (ds_seq (ds_asg (de_frz (de_call (E := E) n__law_line_rows (da_cons (de_var 3) (da_cons (de_var 1) da_nil)))))
 (ds_seq (ds_asg (de_frz (de_call (E := E) n__law_lines (da_cons (de_var 4) da_nil))))
 (ds_seq (ds_asg (de_m1 ok_join (de_str "\n") (de_var 5)))
 (ds_seq (ds_asg (de_int 1))
 (ds_seq (ds_if (dt_test (de_op ok_eq (de_call (E := E) n__law_draw (da_cons (de_var 3) (da_cons (de_int 4) da_nil))) (de_int 3)))
 (ds_asg (de_frz (de_op ok_add (de_int 1) (de_call (E := E) n__law_draw (da_cons (de_var 3) (da_cons (de_int 16) da_nil))))))
 ds_next)
 (ds_seq (ds_if (dt_or (dt_not (dt_test (de_call (E := E) n__law_roll_is (da_cons (de_cmF n_Roll_read (da_cons (de_var 1) (da_cons (de_var 6) da_nil))) (da_cons (de_var 1) (da_cons (de_var 4) da_nil)))))) (dt_not (dt_test (de_call (E := E) n__law_roll_is (da_cons (de_cmF n_Roll_read (da_cons (de_var 1) (da_cons (de_str "") da_nil))) (da_cons (de_var 1) (da_cons (de_frz (de_lst da_nil)) da_nil)))))))
 (ds_ret (de_bl false))
 ds_next)
 (ds_seq (ds_if (dt_not (dt_test (de_call (E := E) n__law_roll_is (da_cons (de_cmF n_Roll_read (da_cons (de_var 1) (da_cons (de_m1 ok_join (de_str "\n") (de_revL (de_var 5))) da_nil))) (da_cons (de_var 1) (da_cons (de_var 4) da_nil))))))
 (ds_ret (de_bl false))
 ds_next)
 (ds_seq (ds_asg (de_frz (de_lc (di_seq (de_var 4)) (dgv_tup (n := 2) (dgv_cons (dgv_name (i := 10) (by simp)) (dgv_cons (dgv_name (i := 11) (by simp)) dgv_nil))) dt_yes (de_tup (da_cons (de_var 10) (da_cons (de_op ok_mul (de_var 11) (de_var 7)) da_nil))))))
 (ds_seq (ds_if (dt_not (dt_test (de_call (E := E) n__law_roll_is (da_cons (de_cmF n_Roll_read (da_cons (de_var 1) (da_cons (de_m1 ok_join (de_str "\n") (de_op ok_mul (de_var 5) (de_var 7))) da_nil))) (da_cons (de_var 1) (da_cons (de_var 8) da_nil))))))
 (ds_ret (de_bl false))
 ds_next)
 (ds_seq (ds_for (di_r1 (da_cons (de_cb ok_len (da_cons (de_var 4) da_nil)) da_nil)) (dg_name 9)
 (ds_wp (is := [9]) (ds_if (dt_not (dt_test (de_call (E := E) n__law_roll_is (da_cons (de_cmF n_Roll_read (da_cons (de_var 1) (da_cons (de_op ok_ix (de_var 5) (de_var 9)) da_nil))) (da_cons (de_var 1) (da_cons (de_frz (de_lst (da_cons (de_op ok_ix (de_var 4) (de_var 9)) da_nil))) da_nil))))))
 (ds_ret (de_bl false))
 ds_next)))
 (ds_ret (de_call (E := E) n__law_roll_is (da_cons (de_cmF n_Roll_read (da_cons (de_var 1) (da_cons (de_var 6) da_nil))) (da_cons (de_var 1) (da_cons (de_var 4) da_nil)))))))))))))))))))⟩
end
end Wk
noncomputable section
namespace Wk
open PySem PySem.Spec PyProof.Rows L2 Dn Tn
def t__law_mix (a0 : Int) (a1 : Int) : Option (Int) := PR.o ((((((PR.opt (mulP a0 48271)).bind fun v1 => ((PR.opt (mulP a1 69621)).bind fun v2 => (PR.ok (v1 + v2)))).bind fun v3 => (PR.ok (v3 + 11))).bind fun v5 => (PR.ok v5)).bind fun v6 => (PR.opt (modP v6 2147483647))).bind fun v7 => 
 ((((((PR.opt (mulP v7 v7)).bind fun v8 => ((PR.opt (mulP a1 16807)).bind fun v9 => (PR.ok (v8 + v9)))).bind fun v10 => (PR.ok (v10 + 3))).bind fun v12 => (PR.ok v12)).bind fun v13 => (PR.opt (modP v13 2147483629))).bind fun v14 => 
 (((((PR.opt (mulP v14 v14)).bind fun v15 => ((PR.opt (mulP v14 40692)).bind fun v16 => (PR.ok (v15 + v16)))).bind fun v17 => (PR.ok (v17 + 7))).bind fun v19 => (PR.ok v19)).bind fun v20 => (PR.opt (modP v20 2147483587)))))
theorem s__law_mix_ii {XF : XIf} (a0 : Int) (a1 : Int) : RV (d__law_mix [.im (D.int a0), .im (D.int a1)]) (fun v : Int => (X.im (D.int v))) (fun v : Int => [.im (D.int a0), .im (D.int a1)]) XF (PR.opt (t__law_mix a0 a1)) := by
  unfold t__law_mix
  refine f_mkN (N := 4) (n := 2) (ds := b__law_mix) (ps := [.im (D.int a0), .im (D.int a1)]) (ex := (fun v : Int => (X.im (D.int v)))) (pe := (fun v : Int => [.im (D.int a0), .im (D.int a1)])) ⟨rfl, Nat.le_of_ble_eq_true rfl, rfl⟩ rfl ?_
  exact (s_asg (E1 := fun (v7 : Int) => [.im (D.int a0), .im (D.int a1), .im (D.int v7), .no]) (r_op_MP (r_cb_M (ra_MP (xf := fun (v4 : Int) => []) (r_op_MP (r_op_MM (r_op_PP (p_var rfl) rfl (oc rfl rfl (o_mul a0 48271))) (fun v1 => (r_op_PP (p_var rfl) rfl (oc rfl rfl (o_mul a1 69621)))) fun v1 v2 => (ocV (ex := (fun z : Int => (X.im (D.int z)))) (v := (v1 + v2)) rfl rfl rfl)) (fun v3 => rfl) fun v3 => (ocV (ex := (fun z : Int => (X.im (D.int z)))) (v := (v3 + 11)) rfl rfl rfl)) (fun v4 => pa_nil)) fun v5 => (ccV (ex := (fun z : Int => (X.im (D.int z)))) (v := v5) rfl rfl)) (fun v6 => rfl) fun v6 => (oc rfl rfl (o_mod v6 2147483647))) (fun _ => rfl) fun v7 => (s_asg (E1 := fun (v14 : Int) => [.im (D.int a0), .im (D.int a1), .im (D.int v7), .im (D.int v14)]) (r_op_MP (r_cb_M (ra_MP (xf := fun (v11 : Int) => []) (r_op_MP (r_op_MM (r_op_PP (p_var rfl) (p_var rfl) (oc rfl rfl (o_mul v7 v7))) (fun v8 => (r_op_PP (p_var rfl) rfl (oc rfl rfl (o_mul a1 16807)))) fun v8 v9 => (ocV (ex := (fun z : Int => (X.im (D.int z)))) (v := (v8 + v9)) rfl rfl rfl)) (fun v10 => rfl) fun v10 => (ocV (ex := (fun z : Int => (X.im (D.int z)))) (v := (v10 + 3)) rfl rfl rfl)) (fun v11 => pa_nil)) fun v12 => (ccV (ex := (fun z : Int => (X.im (D.int z)))) (v := v12) rfl rfl)) (fun v13 => rfl) fun v13 => (oc rfl rfl (o_mod v13 2147483629))) (fun _ => rfl) fun v14 => (s_ret1 (r_op_MP (r_cb_M (ra_MP (xf := fun (v18 : Int) => []) (r_op_MP (r_op_MM (r_op_PP (p_var rfl) (p_var rfl) (oc rfl rfl (o_mul v14 v14))) (fun v15 => (r_op_PP (p_var rfl) rfl (oc rfl rfl (o_mul v14 40692)))) fun v15 v16 => (ocV (ex := (fun z : Int => (X.im (D.int z)))) (v := (v15 + v16)) rfl rfl rfl)) (fun v17 => rfl) fun v17 => (ocV (ex := (fun z : Int => (X.im (D.int z)))) (v := (v17 + 7)) rfl rfl rfl)) (fun v18 => pa_nil)) fun v19 => (ccV (ex := (fun z : Int => (X.im (D.int z)))) (v := v19) rfl rfl)) (fun v20 => rfl) fun v20 => (oc rfl rfl (o_mod v20 2147483587))) (fun _ => rfl))))
def t__law_draw (a0 : (List Int)) (a1 : Int) : Option (Int × (List Int)) := PR.o (((PR.opt (atI a0 0)).bind fun v1 => (PR.ok (decide (v1 > 0)))).bind fun v2 => if v2 = true then ((((PR.opt (atI a0 0)).bind fun v4 => (PR.ok v4)).bind fun v5 => (PR.opt (modP v5 a1))).bind fun v6 => 
 (((PR.opt (atI a0 0)).bind fun v7 => (PR.opt (divP v7 a1))).bind fun v8 => ((PR.opt (setP a0 0 v8)).bind fun l9 => (PR.ok (v6, l9))))) else
 (((PR.opt (atI a0 2)).bind fun v10 => (PR.ok (v10 + 1))).bind fun v11 => ((PR.opt (setP a0 2 v11)).bind fun l12 => ((((((PR.opt (atI l12 1)).bind fun v13 => ((PR.opt (atI l12 2)).bind fun v15 => PR.ok (v13, v15))).bind fun v16 => (PR.opt (t__law_mix v16.1 v16.2))).bind fun v18 => (PR.ok v18)).bind fun v19 => (PR.opt (modP v19 a1))).bind fun v20 => PR.ok (v20, l12)))))
theorem s__law_draw_oi {XF : XIf} (a0 : (List Int)) (a1 : Int) : RV (d__law_draw [.ow true (oLst D.int a0), .im (D.int a1)]) (fun v : Int × (List Int) => (X.im (D.int v.1))) (fun v : Int × (List Int) => [.ow true (oLst D.int v.2), .im (D.int a1)]) XF (PR.opt (t__law_draw a0 a1)) := by
  unfold t__law_draw
  refine f_mkN (N := 3) (n := 2) (ds := b__law_draw) (ps := [.ow true (oLst D.int a0), .im (D.int a1)]) (ex := (fun v : Int × (List Int) => (X.im (D.int v.1)))) (pe := (fun v : Int × (List Int) => [.ow true (oLst D.int v.2), .im (D.int a1)])) ⟨rfl, Nat.le_of_ble_eq_true rfl, rfl⟩ rfl ?_
  exact (s_cutIf (s_ifM (r_test (g := fun (v : Bool) => v) (r_op_MP (r_op_PP (p_sl rfl) rfl (oc rfl rfl (o_ixL D.int a0 0))) (fun v1 => rfl) fun v1 => (ocV (ex := (fun z : Bool => (X.im (D.bl z)))) (v := (decide (v1 > 0))) rfl rfl rfl)) (fun _ => rfl)) (fun v2 => (s_assoc (s_asg (E1 := fun (v6 : Int) => [.ow true (oLst D.int a0), .im (D.int a1), .im (D.int v6)]) (r_op_MP (r_cb_M (ra_MP (xf := fun (v3 : Int) => []) (r_op_PP (p_sl rfl) rfl (oc rfl rfl (o_ixL D.int a0 0))) (fun v3 => pa_nil)) fun v4 => (ccV (ex := (fun z : Int => (X.im (D.int z)))) (v := v4) rfl rfl)) (fun v5 => (p_var rfl)) fun v5 => (oc rfl rfl (o_mod v5 a1))) (fun _ => rfl) fun v6 => (s_assoc (s_setIM (e := D.int) (xs := fun (v8 : Int) => a0) (v := fun (v8 : Int) => v8) (k := fun (v8 : Int) => 0) (zf := fun (v8 : Int) => (X.im (D.int 0))) (E1 := fun (v8 : Int) l9 => [.ow true (oLst D.int l9), .im (D.int a1), .im (D.int v6)]) rfl (r_op_MP (r_op_PP (p_sl rfl) rfl (oc rfl rfl (o_ixL D.int a0 0))) (fun v7 => (p_var rfl)) fun v7 => (oc rfl rfl (o_div v7 a1))) (fun (v8 : Int) => rfl) (fun _ => rfl) (fun _ => rfl) (fun _ _ => rfl) fun (v8 : Int) l9 => (s_cutRet (s_retP (p_var rfl) rfl)))))))
 (fun v2 => (s_skip (s_setIM (e := D.int) (xs := fun (v11 : Int) => a0) (v := fun (v11 : Int) => v11) (k := fun (v11 : Int) => 2) (zf := fun (v11 : Int) => (X.im (D.int 2))) (E1 := fun (v11 : Int) l12 => [.ow true (oLst D.int l12), .im (D.int a1), .no]) rfl (r_op_MP (r_op_PP (p_sl rfl) rfl (oc rfl rfl (o_ixL D.int a0 2))) (fun v10 => rfl) fun v10 => (ocV (ex := (fun z : Int => (X.im (D.int z)))) (v := (v10 + 1)) rfl rfl rfl)) (fun (v11 : Int) => rfl) (fun _ => rfl) (fun _ => rfl) (fun _ _ => rfl) fun (v11 : Int) l12 => (s_ret (r_op_MP (r_cb_M (ra_MP (xf := fun (v17 : Int) => []) (r_call_M (ra_MM (exs := fun (p : (Int) × (Int)) => [(X.im (D.int p.1)), (X.im (D.int p.2))]) (ees := fun (p : (Int) × (Int)) => [.ow true (oLst D.int l12), .im (D.int a1), .no]) (pk := fun v w => (v, w)) (r_op_PP (p_sl rfl) rfl (oc rfl rfl (o_ixL D.int l12 1))) (fun v13 => (ra_MP (xf := fun (v14 : Int) => []) (r_op_PP (p_sl rfl) rfl (oc rfl rfl (o_ixL D.int l12 2))) (fun v14 => pa_nil))) (fun _ _ => rfl) (fun _ _ => rfl)) fun v16 => (rv_callN (ps := [.im (D.int v16.1), .im (D.int v16.2)]) (E1 := fun u => [.ow true (oLst D.int l12), .im (D.int a1), .no]) rfl (of_decide_eq_true rfl) (s__law_mix_ii (XF := XFT) v16.1 v16.2) (fun _ => rfl))) (fun v17 => pa_nil)) fun v18 => (ccV (ex := (fun z : Int => (X.im (D.int z)))) (v := v18) rfl rfl)) (fun v19 => (p_var rfl)) fun v19 => (oc rfl rfl (o_mod v19 a1))) (fun _ => rfl)))))))
def t__law_word (a0 : (List Int)) : Option (Str × (List Int)) := PR.o ((PR.opt (t__law_draw a0 4)).bind fun v1 => 
 (if (decide (v1.1 = 0)) = true then (((PR.opt (t__law_draw v1.2 26)).bind fun v2 => ((PR.opt (ixS ("abcdefghijklmnopqrstuvwxyz" : Str) v2.1)).bind fun z3 => PR.ok (z3, v2.2))).bind fun v4 => PR.ok (v4.1, v4.2)) else
 (((PR.opt (t__law_draw v1.2 12)).bind fun v5 => (PR.ok ((1 + v5.1), v5.2))).bind fun v6 => 
 (if (decide (v1.1 = 1)) = true then (((PR.opt (repSP ("a" : Str) (v6.1 - 1))).bind fun v7 => (((PR.opt (t__law_draw v6.2 26)).bind fun v8 => ((PR.opt (ixS ("abcdefghijklmnopqrstuvwxyz" : Str) v8.1)).bind fun z9 => PR.ok (z9, v8.2))).bind fun v10 => ((PR.opt (catS v7 v10.1)).bind fun z11 => PR.ok (z11, v10.2)))).bind fun v12 => PR.ok (v12.1, v12.2)) else
 (if (decide (v1.1 = 2)) = true then ((((PR.opt (t__law_draw v6.2 26)).bind fun v13 => ((PR.opt (ixS ("abcdefghijklmnopqrstuvwxyz" : Str) v13.1)).bind fun z14 => PR.ok (z14, v13.2))).bind fun v15 => ((PR.opt (repSP ("z" : Str) (v6.1 - 1))).bind fun v16 => ((PR.opt (catS v15.1 v16)).bind fun z17 => PR.ok (z17, v15.2)))).bind fun v18 => PR.ok (v18.1, v18.2)) else
 ((((PR.opt (rg1 v6.1)).bind fun v19 => (PR.opt (lcS (fun (x20 : Int) (s23 : (List Int)) => (some true)) (fun x20 s23 => (((PR.opt (t__law_draw s23 26)).bind fun v24 => ((PR.opt (ixS ("abcdefghijklmnopqrstuvwxyz" : Str) v24.1)).bind fun z25 => PR.ok (z25, v24.2))).bind fun v26 => PR.ok (v26.1, v26.2)).o) v19 v6.2 0))).bind fun v27 => ((PR.opt (joinP ("" : Str) v27.1)).bind fun z28 => PR.ok (z28, v27.2))).bind fun v29 => PR.ok (v29.1, v29.2)))))))
theorem s__law_word_o {XF : XIf} (a0 : (List Int)) : RV (d__law_word [.ow true (oLst D.int a0)]) (fun v : Str × (List Int) => (X.im (D.str v.1))) (fun v : Str × (List Int) => [.ow true (oLst D.int v.2)]) XF (PR.opt (t__law_word a0)) := by
  unfold t__law_word
  refine f_mkN (N := 5) (n := 1) (ds := b__law_word) (ps := [.ow true (oLst D.int a0)]) (ex := (fun v : Str × (List Int) => (X.im (D.str v.1)))) (pe := (fun v : Str × (List Int) => [.ow true (oLst D.int v.2)])) ⟨rfl, Nat.le_of_ble_eq_true rfl, rfl⟩ rfl ?_
  exact (s_asgP (E1 := [.ow true (oLst D.int a0), .im (D.str ("abcdefghijklmnopqrstuvwxyz" : Str)), .no, .no, .no]) rfl rfl (s_asg (E1 := fun (v1 : Int × (List Int)) => [.ow true (oLst D.int v1.2), .im (D.str ("abcdefghijklmnopqrstuvwxyz" : Str)), .im (D.int v1.1), .no, .no]) (r_frz (df := fun (v : Int × (List Int)) => (D.int v.1)) (r_call_P (pa_cons (p_sl rfl) (pa_cons rfl pa_nil)) (rv_callN (ps := [.ow true (oLst D.int a0), .im (D.int 4)]) (E1 := fun u => [.ow true (oLst D.int u.2), .im (D.str ("abcdefghijklmnopqrstuvwxyz" : Str)), .no, .no, .no]) rfl (of_decide_eq_true rfl) (s__law_draw_oi (XF := XFT) a0 4) (fun _ => rfl))) (fun _ => rfl)) (fun _ => rfl) fun v1 => (s_cutIf (s_ifP (p_test (p_op (p_var rfl) rfl rfl rfl (o_eqI v1.1 0)) rfl) (s_cutRet (s_ret (r_op_PM (p_var rfl) (r_call_P (pa_cons (p_sl rfl) (pa_cons rfl pa_nil)) (rv_callN (ps := [.ow true (oLst D.int v1.2), .im (D.int 26)]) (E1 := fun u => [.ow true (oLst D.int u.2), .im (D.str ("abcdefghijklmnopqrstuvwxyz" : Str)), .im (D.int v1.1), .no, .no]) rfl (of_decide_eq_true rfl) (s__law_draw_oi (XF := XFT) v1.2 26) (fun _ => rfl))) fun v2 => (wE (E := fun p : (List Int) => [.ow true (oLst D.int p), .im (D.str ("abcdefghijklmnopqrstuvwxyz" : Str)), .im (D.int v1.1), .no, .no]) (s := v2.2) (oc rfl rfl (o_ixS ("abcdefghijklmnopqrstuvwxyz" : Str) v2.1)))) (fun _ => rfl)))
 (s_skip (s_asg (E1 := fun (v6 : Int × (List Int)) => [.ow true (oLst D.int v6.2), .im (D.str ("abcdefghijklmnopqrstuvwxyz" : Str)), .im (D.int v1.1), .im (D.int v6.1), .no]) (r_frz (df := fun (v : Int × (List Int)) => (D.int v.1)) (r_op_PM rfl (r_call_P (pa_cons (p_sl rfl) (pa_cons rfl pa_nil)) (rv_callN (ps := [.ow true (oLst D.int v1.2), .im (D.int 12)]) (E1 := fun u => [.ow true (oLst D.int u.2), .im (D.str ("abcdefghijklmnopqrstuvwxyz" : Str)), .im (D.int v1.1), .no, .no]) rfl (of_decide_eq_true rfl) (s__law_draw_oi (XF := XFT) v1.2 12) (fun _ => rfl))) fun v5 => (ocVE (ex := fun z : Int × (List Int) => (X.im (D.int z.1))) (ee := fun z : Int × (List Int) => [.ow true (oLst D.int z.2), .im (D.str ("abcdefghijklmnopqrstuvwxyz" : Str)), .im (D.int v1.1), .no, .no]) (v := ((1 + v5.1), v5.2)) rfl rfl rfl rfl)) (fun _ => rfl)) (fun _ => rfl) fun v6 => (s_cutIf (s_ifP (p_test (p_op (p_var rfl) rfl rfl rfl (o_eqI v1.1 1)) rfl) (s_cutRet (s_ret (r_op_MM (r_op_PP rfl (p_op (p_var rfl) rfl rfl rfl rfl) (oc rfl rfl (o_repS ("a" : Str) (v6.1 - 1)))) (fun v7 => (r_op_PM (p_var rfl) (r_call_P (pa_cons (p_sl rfl) (pa_cons rfl pa_nil)) (rv_callN (ps := [.ow true (oLst D.int v6.2), .im (D.int 26)]) (E1 := fun u => [.ow true (oLst D.int u.2), .im (D.str ("abcdefghijklmnopqrstuvwxyz" : Str)), .im (D.int v1.1), .im (D.int v6.1), .no]) rfl (of_decide_eq_true rfl) (s__law_draw_oi (XF := XFT) v6.2 26) (fun _ => rfl))) fun v8 => (wE (E := fun p : (List Int) => [.ow true (oLst D.int p), .im (D.str ("abcdefghijklmnopqrstuvwxyz" : Str)), .im (D.int v1.1), .im (D.int v6.1), .no]) (s := v8.2) (oc rfl rfl (o_ixS ("abcdefghijklmnopqrstuvwxyz" : Str) v8.1))))) fun v7 v10 => (wE (E := fun p : (List Int) => [.ow true (oLst D.int p), .im (D.str ("abcdefghijklmnopqrstuvwxyz" : Str)), .im (D.int v1.1), .im (D.int v6.1), .no]) (s := v10.2) (oc rfl rfl (o_catS v7 v10.1)))) (fun _ => rfl)))
 (s_skip (s_cutIf (s_ifP (p_test (p_op (p_var rfl) rfl rfl rfl (o_eqI v1.1 2)) rfl) (s_cutRet (s_ret (r_op_MM (r_op_PM (p_var rfl) (r_call_P (pa_cons (p_sl rfl) (pa_cons rfl pa_nil)) (rv_callN (ps := [.ow true (oLst D.int v6.2), .im (D.int 26)]) (E1 := fun u => [.ow true (oLst D.int u.2), .im (D.str ("abcdefghijklmnopqrstuvwxyz" : Str)), .im (D.int v1.1), .im (D.int v6.1), .no]) rfl (of_decide_eq_true rfl) (s__law_draw_oi (XF := XFT) v6.2 26) (fun _ => rfl))) fun v13 => (wE (E := fun p : (List Int) => [.ow true (oLst D.int p), .im (D.str ("abcdefghijklmnopqrstuvwxyz" : Str)), .im (D.int v1.1), .im (D.int v6.1), .no]) (s := v13.2) (oc rfl rfl (o_ixS ("abcdefghijklmnopqrstuvwxyz" : Str) v13.1)))) (fun v15 => (r_op_PP rfl (p_op (p_var rfl) rfl rfl rfl rfl) (oc rfl rfl (o_repS ("z" : Str) (v6.1 - 1))))) fun v15 v16 => (wE (E := fun p : (List Int) => [.ow true (oLst D.int p), .im (D.str ("abcdefghijklmnopqrstuvwxyz" : Str)), .im (D.int v1.1), .im (D.int v6.1), .no]) (s := v15.2) (oc rfl rfl (o_catS v15.1 v16)))) (fun _ => rfl)))
 (s_skip (s_ret (r_m1_PM rfl rfl (r_lc_M (l := fun (v19 : List Int) => v19.map D.int) (r_r1_P (pa_cons (p_var rfl) pa_nil) rfl) fun v19 => (lceS (e := D.int) (e' := D.str) (ex := fun y : Str => (X.im (D.str y))) (B := fun (s23 : (List Int)) => [.ow true (oLst D.int s23), .im (D.str ("abcdefghijklmnopqrstuvwxyz" : Str)), .im (D.int v1.1), .im (D.int v6.1), .no]) (E1 := fun (s23 : (List Int)) => [.ow true (oLst D.int s23), .im (D.str ("abcdefghijklmnopqrstuvwxyz" : Str)), .im (D.int v1.1), .im (D.int v6.1), .no]) (Bx := fun (x20 : Int) (s23 : (List Int)) => [.ow true (oLst D.int s23), .im (D.str ("abcdefghijklmnopqrstuvwxyz" : Str)), .im (D.int v1.1), .im (D.int v6.1), .im (D.int x20)]) (s0 := v6.2) (XF := fun _ _ => True) rfl rfl (fun _ _ => rfl) (fun x20 s23 => (rv_of (ex := fun b : Bool => b) (v := true) p_yes rfl)) (fun x20 s23 => (rv_o (XI' := fun _ _ => True) (rv_map (f := fun (v26 : Str × (List Int)) => (v26.1, v26.2)) (ex := fun v : Str × (List Int) => (X.im (D.str v.1))) (ee := fun v : Str × (List Int) => [.ow true (oLst D.int v.2), .im (D.str ("abcdefghijklmnopqrstuvwxyz" : Str)), .im (D.int v1.1), .im (D.int v6.1), .im (D.int x20)]) (r_op_PM (p_var rfl) (r_call_P (pa_cons (p_sl rfl) (pa_cons rfl pa_nil)) (rv_callN (ps := [.ow true (oLst D.int s23), .im (D.int 26)]) (E1 := fun u => [.ow true (oLst D.int u.2), .im (D.str ("abcdefghijklmnopqrstuvwxyz" : Str)), .im (D.int v1.1), .im (D.int v6.1), .im (D.int x20)]) rfl (of_decide_eq_true rfl) (s__law_draw_oi (XF := XFT) s23 26) (fun _ => rfl))) fun v24 => (wE (E := fun p : (List Int) => [.ow true (oLst D.int p), .im (D.str ("abcdefghijklmnopqrstuvwxyz" : Str)), .im (D.int v1.1), .im (D.int v6.1), .im (D.int x20)]) (s := v24.2) (oc rfl rfl (o_ixS ("abcdefghijklmnopqrstuvwxyz" : Str) v24.1)))) (fun _ => rfl) (fun _ => rfl)))) (fun _ => rfl) (fun _ _ => rfl) (fun _ => rfl))) fun v27 => (wE (E := fun p : (List Int) => [.ow true (oLst D.int p), .im (D.str ("abcdefghijklmnopqrstuvwxyz" : Str)), .im (D.int v1.1), .im (D.int v6.1), .no]) (s := v27.2) (oc rfl rfl (o_joinL ("" : Str) v27.1)))) (fun _ => rfl))))))))))))))
def t__law_names (a0 : (List Int)) (a1 : Int) (a2 : Int) : Option ((List Str) × (List Int)) := PR.o (((((PR.opt (t__law_draw a0 ((a2 - a1) + 1))).bind fun v1 => (PR.ok ((a1 + v1.1), v1.2))).bind fun v3 => ((PR.opt (rg1 v3.1)).bind fun l4 => PR.ok (l4, v3.2))).bind fun v5 => (foldP (fun (x7 : Int) (s6 : (List Int) × (List Str)) => ((PR.opt (t__law_word s6.1)).bind fun v8 => 
 ((if (decide (v8.1 ∈ s6.2)) = true then (((PR.opt (lcP (fun (x11 : Str) => (some (!decide (x11 ∈ s6.2)))) (fun x11 => (some x11)) [("a" : Str), ("b" : Str), ("c" : Str), ("d" : Str), ("e" : Str)] 0)).bind fun v12 => (PR.opt (atI v12 0))).bind fun v13 => 
 (PR.ok v13)) else
 (PR.ok v8.1)).bind fun s9 : Str =>
 ((PR.opt (appP s6.2 s9)).bind fun v14 => (PR.ok (v8.2, v14)))))) v5.1 (v5.2, []))).bind fun s15 : (List Int) × (List Str) =>
 (PR.ok (s15.2, s15.1)))
theorem s__law_names_oii {XF : XIf} (a0 : (List Int)) (a1 : Int) (a2 : Int) : RV (d__law_names [.ow true (oLst D.int a0), .im (D.int a1), .im (D.int a2)]) (fun v : (List Str) × (List Int) => (X.im (eTup D.str v.1))) (fun v : (List Str) × (List Int) => [.ow true (oLst D.int v.2), .im (D.int a1), .im (D.int a2)]) XF (PR.opt (t__law_names a0 a1 a2)) := by
  unfold t__law_names
  refine f_mkN (N := 7) (n := 3) (ds := b__law_names) (ps := [.ow true (oLst D.int a0), .im (D.int a1), .im (D.int a2)]) (ex := (fun v : (List Str) × (List Int) => (X.im (eTup D.str v.1)))) (pe := (fun v : (List Str) × (List Int) => [.ow true (oLst D.int v.2), .im (D.int a1), .im (D.int a2)])) ⟨rfl, Nat.le_of_ble_eq_true rfl, rfl⟩ rfl ?_
  exact (s_asgP (E1 := [.ow true (oLst D.int a0), .im (D.int a1), .im (D.int a2), .ow false (oLst D.str []), .no, .no, .no]) (p_lst (ds := []) pa_nil rfl fit_0) rfl (s_join (J := fun (s15 : (List Int) × (List Str)) => [.ow true (oLst D.int s15.1), .im (D.int a1), .im (D.int a2), .ow false (oLst D.str s15.2), .no, .no, .no]) (s_for_M (ld := fun (v5 : (List Int) × (List Int)) => v5.1.map D.int) (r_r1_M (j := fun (v3 : Int × (List Int)) => v3.1) (s := fun (v3 : Int × (List Int)) => v3.2) (E := fun p : (List Int) => [.ow true (oLst D.int p), .im (D.int a1), .im (D.int a2), .ow false (oLst D.str []), .no, .no, .no]) (ra_MP (xf := fun (v2 : Int × (List Int)) => []) (r_op_PM (p_var rfl) (r_call_P (pa_cons (p_sl rfl) (pa_cons (p_frz (p_op (p_op (p_var rfl) (p_var rfl) rfl rfl rfl) rfl rfl rfl rfl) rfl) pa_nil)) (rv_callN (ps := [.ow true (oLst D.int a0), .im (D.int ((a2 - a1) + 1))]) (E1 := fun u => [.ow true (oLst D.int u.2), .im (D.int a1), .im (D.int a2), .ow false (oLst D.str []), .no, .no, .no]) rfl (of_decide_eq_true rfl) (s__law_draw_oi (XF := XFT) a0 ((a2 - a1) + 1)) (fun _ => rfl))) fun v1 => (ocVE (ex := fun z : Int × (List Int) => (X.im (D.int z.1))) (ee := fun z : Int × (List Int) => [.ow true (oLst D.int z.2), .im (D.int a1), .im (D.int a2), .ow false (oLst D.str []), .no, .no, .no]) (v := ((a1 + v1.1), v1.2)) rfl rfl rfl rfl)) (fun v2 => pa_nil)) (fun _ => rfl) (fun _ => rfl)) fun v5 => (fore (e := D.int) (L := fun (s6 : (List Int) × (List Str)) => [.ow true (oLst D.int s6.1), .im (D.int a1), .im (D.int a2), .ow false (oLst D.str s6.2), .no, .no, .no]) (G := fun (x7 : Int) (s6 : (List Int) × (List Str)) => [.ow true (oLst D.int s6.1), .im (D.int a1), .im (D.int a2), .ow false (oLst D.str s6.2), .im (D.int x7), .no, .no]) (J := fun (s15 : (List Int) × (List Str)) => [.ow true (oLst D.int s15.1), .im (D.int a1), .im (D.int a2), .ow false (oLst D.str s15.2), .no, .no, .no]) (s0 := (v5.2, [])) rfl (fun _ _ => rfl) (fun x7 s6 => (s_wp (s_asg (E1 := fun (v8 : Str × (List Int)) => [.ow true (oLst D.int v8.2), .im (D.int a1), .im (D.int a2), .ow false (oLst D.str s6.2), .im (D.int x7), .im (D.str v8.1), .no]) (r_frz (df := fun (v : Str × (List Int)) => (D.str v.1)) (r_call_P (pa_cons (p_sl rfl) pa_nil) (rv_callN (ps := [.ow true (oLst D.int s6.1)]) (E1 := fun u => [.ow true (oLst D.int u.2), .im (D.int a1), .im (D.int a2), .ow false (oLst D.str s6.2), .im (D.int x7), .no, .no]) rfl (of_decide_eq_true rfl) (s__law_word_o (XF := XFT) s6.1) (fun _ => rfl))) (fun _ => rfl)) (fun _ => rfl) fun v8 => (s_join (J := fun (s9 : Str) => [.ow true (oLst D.int v8.2), .im (D.int a1), .im (D.int a2), .ow false (oLst D.str s6.2), .im (D.int x7), .im (D.str s9), .no]) (s_ifP (p_test (p_op (p_var rfl) (p_sl rfl) rfl rfl (o_inSL v8.1 s6.2)) rfl) (s_last (s_asg (E1 := fun (v13 : Str) => [.ow true (oLst D.int v8.2), .im (D.int a1), .im (D.int a2), .ow false (oLst D.str s6.2), .im (D.int x7), .im (D.str v13), .no]) (r_op_MP (r_lc_P (p_iseq (l := [("a" : Str), ("b" : Str), ("c" : Str), ("d" : Str), ("e" : Str)].map D.str) (p_lst (ds := [(D.str ("a" : Str)), (D.str ("b" : Str)), (D.str ("c" : Str)), (D.str ("d" : Str)), (D.str ("e" : Str))]) (pa_cons rfl (pa_cons rfl (pa_cons rfl (pa_cons rfl (pa_cons rfl pa_nil))))) rfl fit_5) rfl) (lce (e := D.str) (e' := D.str) (B := [.ow true (oLst D.int v8.2), .im (D.int a1), .im (D.int a2), .ow false (oLst D.str s6.2), .im (D.int x7), .im (D.str v8.1), .no]) (Bx := fun (x11 : Str) => [.ow true (oLst D.int v8.2), .im (D.int a1), .im (D.int a2), .ow false (oLst D.str s6.2), .im (D.int x7), .im (D.str v8.1), .im (D.str x11)]) (XF := fun _ _ => True) rfl rfl (fun _ => rfl) (fun x11 => (rv_of (ex := fun b : Bool => b) (v := (!decide (x11 ∈ s6.2))) (p_test (p_op (p_var rfl) (p_sl rfl) rfl rfl (o_ninSL x11 s6.2)) rfl) rfl)) (fun x11 => (rv_of (ex := fun y : Str => (X.im (D.str y))) (v := x11) (p_var rfl) rfl)) (fun _ => rfl) (fun _ => rfl) rfl)) (fun v12 => rfl) fun v12 => (oc rfl rfl (o_ixL D.str v12 0))) (fun _ => rfl) fun v13 => (s_end rfl)))
 (s_end rfl)) fun s9 => (s_last (s_drop (r_mut_P (exd := (fun z => .non)) (oo := (fun z => (oLst D.str z))) (E1 := fun z => [.ow true (oLst D.int v8.2), .im (D.int a1), .im (D.int a2), .ow false (oLst D.str z), .im (D.int x7), .im (D.str s9), .no]) rfl rfl (pa_cons (p_var rfl) pa_nil) rfl (m_app D.str s6.2 s9) (fun _ => rfl)) fun v14 => (s_end rfl))))))) (fun _ => rfl))) fun s15 => (s_retP (p_cb (pa_cons (p_sl rfl) pa_nil) rfl (c_tupL D.str s15.2)) rfl)))
def t__law_cell (a0 : List Int) (a1 : Int) : Option (Int) := PR.o (if (decide (a1 < (a0.length : Int))) = true then (PR.opt (atI a0 a1)) else
 (PR.ok 0))
theorem s__law_cell_ii {XF : XIf} (a0 : List Int) (a1 : Int) : RV (d__law_cell [.im (eScr a0), .im (D.int a1)]) (fun v : Int => (X.im (D.int v))) (fun v : Int => [.im (eScr a0), .im (D.int a1)]) XF (PR.opt (t__law_cell a0 a1)) := by
  unfold t__law_cell
  refine f_mkN (N := 2) (n := 2) (ds := b__law_cell) (ps := [.im (eScr a0), .im (D.int a1)]) (ex := (fun v : Int => (X.im (D.int v)))) (pe := (fun v : Int => [.im (eScr a0), .im (D.int a1)])) ⟨rfl, Nat.le_of_ble_eq_true rfl, rfl⟩ rfl ?_
  exact (s_cutIf (s_ifP (p_test (p_op (p_var rfl) (p_cb (pa_cons (p_var rfl) pa_nil) rfl (c_lenScr a0)) rfl rfl rfl) rfl) (s_cutRet (s_ret1 (r_op_PP (p_var rfl) (p_var rfl) (oc rfl rfl (o_ixScr a0 a1))) (fun _ => rfl)))
 (s_skip (s_retP rfl rfl))))
def t__law_pool (a0 : List Int) (a1 : Int) : Option ((List Int)) := PR.o ((PR.opt (t__law_cell a0 a1)).bind fun v1 => 
 (if (decide (v1 ≥ 1000000000000000000)) = true then (((PR.opt (mulP v1 64)).bind fun v2 => (PR.ok (v2 + a1))).bind fun v4 => PR.ok [(v1 - 1000000000000000000), v4, 0]) else
 (((PR.opt (mulP v1 64)).bind fun v5 => (PR.ok (v5 + a1))).bind fun v7 => PR.ok [0, v7, 0])))
theorem s__law_pool_ii {XF : XIf} (a0 : List Int) (a1 : Int) : RV (d__law_pool [.im (eScr a0), .im (D.int a1)]) (fun v : (List Int) => (X.ow (oLst D.int v))) (fun v : (List Int) => [.im (eScr a0), .im (D.int a1)]) XF (PR.opt (t__law_pool a0 a1)) := by
  unfold t__law_pool
  refine f_mkN (N := 3) (n := 2) (ds := b__law_pool) (ps := [.im (eScr a0), .im (D.int a1)]) (ex := (fun v : (List Int) => (X.ow (oLst D.int v)))) (pe := (fun v : (List Int) => [.im (eScr a0), .im (D.int a1)])) ⟨rfl, Nat.le_of_ble_eq_true rfl, rfl⟩ rfl ?_
  exact (s_asg (E1 := fun (v1 : Int) => [.im (eScr a0), .im (D.int a1), .im (D.int v1)]) (r_frz (df := fun (v : Int) => (D.int v)) (r_call_P (pa_cons (p_var rfl) (pa_cons (p_var rfl) pa_nil)) (rv_callN (ps := [.im (eScr a0), .im (D.int a1)]) (E1 := fun u => [.im (eScr a0), .im (D.int a1), .no]) rfl (of_decide_eq_true rfl) (s__law_cell_ii (XF := XFT) a0 a1) (fun _ => rfl))) (fun _ => rfl)) (fun _ => rfl) fun v1 => (s_cutIf (s_ifP (p_test (p_op (p_var rfl) (p_op rfl rfl rfl rfl (show pPow (.int 10) (.int 18) = some (X.im (D.int 1000000000000000000)) by simp [pPow])) rfl rfl rfl) rfl) (s_cutRet (s_ret (r_lst (df := fun (v : Int) => [(D.int (v1 - 1000000000000000000)), (D.int v), (D.int 0)]) (ra_PM (p_op (p_var rfl) (p_op rfl rfl rfl rfl (show pPow (.int 10) (.int 18) = some (X.im (D.int 1000000000000000000)) by simp [pPow])) rfl rfl rfl) (ra_MP (xf := fun (v3 : Int) => [(X.im (D.int 0))]) (r_op_MP (r_op_PP (p_var rfl) rfl (oc rfl rfl (o_mul v1 64))) (fun v2 => (p_var rfl)) fun v2 => (ocV (ex := (fun z : Int => (X.im (D.int z)))) (v := (v2 + a1)) rfl rfl rfl)) (fun v3 => (pa_cons rfl pa_nil)))) (fun _ => rfl) (fun _ => fit_3)) (fun _ => rfl)))
 (s_skip (s_ret (r_lst (df := fun (v : Int) => [(D.int 0), (D.int v), (D.int 0)]) (ra_PM rfl (ra_MP (xf := fun (v6 : Int) => [(X.im (D.int 0))]) (r_op_MP (r_op_PP (p_var rfl) rfl (oc rfl rfl (o_mul v1 64))) (fun v5 => (p_var rfl)) fun v5 => (ocV (ex := (fun z : Int => (X.im (D.int z)))) (v := (v5 + a1)) rfl rfl rfl)) (fun v6 => (pa_cons rfl pa_nil)))) (fun _ => rfl) (fun _ => fit_3)) (fun _ => rfl))))))
def t__law_choice (a0 : (List Int)) (a1 : (List Str)) (a2 : Int) : Option ((List Str) × (List Int)) := PR.o (((PR.opt (rg1 a2)).bind fun v1 => (foldP (fun (x3 : Int) (s2 : (List Int) × (List Str) × (List Str)) => ((PR.opt (t__law_draw s2.1 (s2.2.1.length : Int))).bind fun v4 => 
 (((PR.opt (popAtP s2.2.1 v4.1)).bind fun v6 => ((PR.opt (appP s2.2.2 v6.1)).bind fun v7 => PR.ok ((), (v6.2, v7)))).bind fun v8 => (PR.ok (v4.2, v8.2.1, v8.2.2))))) v1 (a0, a1, []))).bind fun s9 : (List Int) × (List Str) × (List Str) =>
 (PR.ok (s9.2.2, s9.1)))
theorem s__law_choice_oii {XF : XIf} (a0 : (List Int)) (a1 : (List Str)) (a2 : Int) : RV (d__law_choice [.ow true (oLst D.int a0), .im (eTup D.str a1), .im (D.int a2)]) (fun v : (List Str) × (List Int) => (X.im (eTup D.str v.1))) (fun v : (List Str) × (List Int) => [.ow true (oLst D.int v.2), .im (eTup D.str a1), .im (D.int a2)]) XF (PR.opt (t__law_choice a0 a1 a2)) := by
  unfold t__law_choice
  refine f_mkN (N := 7) (n := 3) (ds := b__law_choice) (ps := [.ow true (oLst D.int a0), .im (eTup D.str a1), .im (D.int a2)]) (ex := (fun v : (List Str) × (List Int) => (X.im (eTup D.str v.1)))) (pe := (fun v : (List Str) × (List Int) => [.ow true (oLst D.int v.2), .im (eTup D.str a1), .im (D.int a2)])) ⟨rfl, Nat.le_of_ble_eq_true rfl, rfl⟩ rfl ?_
  exact (s_asgP (E1 := [.ow true (oLst D.int a0), .im (eTup D.str a1), .im (D.int a2), .ow false (oLst D.str a1), .no, .no, .no]) (p_cb (pa_cons (p_var rfl) pa_nil) rfl (c_lstT D.str a1)) rfl (s_asgP (E1 := [.ow true (oLst D.int a0), .im (eTup D.str a1), .im (D.int a2), .ow false (oLst D.str a1), .ow false (oLst D.str []), .no, .no]) (p_lst (ds := []) pa_nil rfl fit_0) rfl (s_join (J := fun (s9 : (List Int) × (List Str) × (List Str)) => [.ow true (oLst D.int s9.1), .im (eTup D.str a1), .im (D.int a2), .ow false (oLst D.str s9.2.1), .ow false (oLst D.str s9.2.2), .no, .no]) (s_for_M (ld := fun (v1 : List Int) => v1.map D.int) (r_r1_P (pa_cons (p_var rfl) pa_nil) rfl) fun v1 => (fore (e := D.int) (L := fun (s2 : (List Int) × (List Str) × (List Str)) => [.ow true (oLst D.int s2.1), .im (eTup D.str a1), .im (D.int a2), .ow false (oLst D.str s2.2.1), .ow false (oLst D.str s2.2.2), .no, .no]) (G := fun (x3 : Int) (s2 : (List Int) × (List Str) × (List Str)) => [.ow true (oLst D.int s2.1), .im (eTup D.str a1), .im (D.int a2), .ow false (oLst D.str s2.2.1), .ow false (oLst D.str s2.2.2), .im (D.int x3), .no]) (J := fun (s9 : (List Int) × (List Str) × (List Str)) => [.ow true (oLst D.int s9.1), .im (eTup D.str a1), .im (D.int a2), .ow false (oLst D.str s9.2.1), .ow false (oLst D.str s9.2.2), .no, .no]) (s0 := (a0, a1, [])) rfl (fun _ _ => rfl) (fun x3 s2 => (s_wp (s_asg (E1 := fun (v4 : Int × (List Int)) => [.ow true (oLst D.int v4.2), .im (eTup D.str a1), .im (D.int a2), .ow false (oLst D.str s2.2.1), .ow false (oLst D.str s2.2.2), .im (D.int x3), .im (D.int v4.1)]) (r_frz (df := fun (v : Int × (List Int)) => (D.int v.1)) (r_call_P (pa_cons (p_sl rfl) (pa_cons (p_cb (pa_cons (p_sl rfl) pa_nil) rfl (c_lenL D.str s2.2.1)) pa_nil)) (rv_callN (ps := [.ow true (oLst D.int s2.1), .im (D.int (s2.2.1.length : Int))]) (E1 := fun u => [.ow true (oLst D.int u.2), .im (eTup D.str a1), .im (D.int a2), .ow false (oLst D.str s2.2.1), .ow false (oLst D.str s2.2.2), .im (D.int x3), .no]) rfl (of_decide_eq_true rfl) (s__law_draw_oi (XF := XFT) s2.1 (s2.2.1.length : Int)) (fun _ => rfl))) (fun _ => rfl)) (fun _ => rfl) fun v4 => (s_last (s_drop (r_mut_M (dsf := fun (v6 : Str × (List Str)) => [(D.str v6.1)]) (pf := fun _ => false) (of := fun (v6 : Str × (List Str)) => (oLst D.str s2.2.2)) rfl rfl (ra_MP (xf := fun (v5 : Str × (List Str)) => []) (r_mut_P (exd := (fun z => (D.str z.1))) (oo := (fun z => (oLst D.str z.2))) (E1 := fun z => [.ow true (oLst D.int v4.2), .im (eTup D.str a1), .im (D.int a2), .ow false (oLst D.str z.2), .ow false (oLst D.str s2.2.2), .im (D.int x3), .im (D.int v4.1)]) rfl rfl (pa_cons (p_var rfl) pa_nil) rfl (m_popAt D.str s2.2.1 v4.1) (fun _ => rfl)) (fun v5 => pa_nil)) (fun _ => rfl) (fun _ => rfl) fun v6 => (rv_map (f := fun v7 => ((), (v6.2, v7))) (ex := fun z : Unit × (List Str) × (List Str) => (X.im (eU z.1))) (ee := fun z : Unit × (List Str) × (List Str) => [.ow true (oLst D.int v4.2), .im (eTup D.str a1), .im (D.int a2), .ow false (oLst D.str z.2.1), .ow false (oLst D.str z.2.2), .im (D.int x3), .im (D.int v4.1)]) (mc (exd := (fun z => .non)) (oo := (fun z => (oLst D.str z))) (E1 := fun z => [.ow true (oLst D.int v4.2), .im (eTup D.str a1), .im (D.int a2), .ow false (oLst D.str v6.2), .ow false (oLst D.str z), .im (D.int x3), .im (D.int v4.1)]) (m_app D.str s2.2.2 v6.1) (fun _ => rfl)) (fun _ => rfl) (fun _ => rfl))) fun v8 => (s_end rfl)))))) (fun _ => rfl))) fun s9 => (s_retP (p_cb (pa_cons (p_sl rfl) pa_nil) rfl (c_tupL D.str s9.2.2)) rfl))))
def t__law_choice_s (a0 : (List Int)) (a1 : Str) (a2 : Int) : Option ((List Str) × (List Int)) := PR.o ((PR.opt (lstS a1)).bind fun v1 => 
 (((PR.opt (rg1 a2)).bind fun v2 => (foldP (fun (x4 : Int) (s3 : (List Int) × (List Str) × (List Str)) => ((PR.opt (t__law_draw s3.1 (s3.2.1.length : Int))).bind fun v5 => 
 (((PR.opt (popAtP s3.2.1 v5.1)).bind fun v7 => ((PR.opt (appP s3.2.2 v7.1)).bind fun v8 => PR.ok ((), (v7.2, v8)))).bind fun v9 => (PR.ok (v5.2, v9.2.1, v9.2.2))))) v2 (a0, v1, []))).bind fun s10 : (List Int) × (List Str) × (List Str) =>
 (PR.ok (s10.2.2, s10.1))))
theorem s__law_choice_s_oii {XF : XIf} (a0 : (List Int)) (a1 : Str) (a2 : Int) : RV (d__law_choice [.ow true (oLst D.int a0), .im (D.str a1), .im (D.int a2)]) (fun v : (List Str) × (List Int) => (X.im (eTup D.str v.1))) (fun v : (List Str) × (List Int) => [.ow true (oLst D.int v.2), .im (D.str a1), .im (D.int a2)]) XF (PR.opt (t__law_choice_s a0 a1 a2)) := by
  unfold t__law_choice_s
  refine f_mkN (N := 7) (n := 3) (ds := b__law_choice) (ps := [.ow true (oLst D.int a0), .im (D.str a1), .im (D.int a2)]) (ex := (fun v : (List Str) × (List Int) => (X.im (eTup D.str v.1)))) (pe := (fun v : (List Str) × (List Int) => [.ow true (oLst D.int v.2), .im (D.str a1), .im (D.int a2)])) ⟨rfl, Nat.le_of_ble_eq_true rfl, rfl⟩ rfl ?_
  exact (s_asg (E1 := fun (v1 : (List Str)) => [.ow true (oLst D.int a0), .im (D.str a1), .im (D.int a2), .ow false (oLst D.str v1), .no, .no, .no]) (r_cb_P (pa_cons (p_var rfl) pa_nil) (cc rfl (c_lstS a1))) (fun _ => rfl) fun v1 => (s_asgP (E1 := [.ow true (oLst D.int a0), .im (D.str a1), .im (D.int a2), .ow false (oLst D.str v1), .ow false (oLst D.str []), .no, .no]) (p_lst (ds := []) pa_nil rfl fit_0) rfl (s_join (J := fun (s10 : (List Int) × (List Str) × (List Str)) => [.ow true (oLst D.int s10.1), .im (D.str a1), .im (D.int a2), .ow false (oLst D.str s10.2.1), .ow false (oLst D.str s10.2.2), .no, .no]) (s_for_M (ld := fun (v2 : List Int) => v2.map D.int) (r_r1_P (pa_cons (p_var rfl) pa_nil) rfl) fun v2 => (fore (e := D.int) (L := fun (s3 : (List Int) × (List Str) × (List Str)) => [.ow true (oLst D.int s3.1), .im (D.str a1), .im (D.int a2), .ow false (oLst D.str s3.2.1), .ow false (oLst D.str s3.2.2), .no, .no]) (G := fun (x4 : Int) (s3 : (List Int) × (List Str) × (List Str)) => [.ow true (oLst D.int s3.1), .im (D.str a1), .im (D.int a2), .ow false (oLst D.str s3.2.1), .ow false (oLst D.str s3.2.2), .im (D.int x4), .no]) (J := fun (s10 : (List Int) × (List Str) × (List Str)) => [.ow true (oLst D.int s10.1), .im (D.str a1), .im (D.int a2), .ow false (oLst D.str s10.2.1), .ow false (oLst D.str s10.2.2), .no, .no]) (s0 := (a0, v1, [])) rfl (fun _ _ => rfl) (fun x4 s3 => (s_wp (s_asg (E1 := fun (v5 : Int × (List Int)) => [.ow true (oLst D.int v5.2), .im (D.str a1), .im (D.int a2), .ow false (oLst D.str s3.2.1), .ow false (oLst D.str s3.2.2), .im (D.int x4), .im (D.int v5.1)]) (r_frz (df := fun (v : Int × (List Int)) => (D.int v.1)) (r_call_P (pa_cons (p_sl rfl) (pa_cons (p_cb (pa_cons (p_sl rfl) pa_nil) rfl (c_lenL D.str s3.2.1)) pa_nil)) (rv_callN (ps := [.ow true (oLst D.int s3.1), .im (D.int (s3.2.1.length : Int))]) (E1 := fun u => [.ow true (oLst D.int u.2), .im (D.str a1), .im (D.int a2), .ow false (oLst D.str s3.2.1), .ow false (oLst D.str s3.2.2), .im (D.int x4), .no]) rfl (of_decide_eq_true rfl) (s__law_draw_oi (XF := XFT) s3.1 (s3.2.1.length : Int)) (fun _ => rfl))) (fun _ => rfl)) (fun _ => rfl) fun v5 => (s_last (s_drop (r_mut_M (dsf := fun (v7 : Str × (List Str)) => [(D.str v7.1)]) (pf := fun _ => false) (of := fun (v7 : Str × (List Str)) => (oLst D.str s3.2.2)) rfl rfl (ra_MP (xf := fun (v6 : Str × (List Str)) => []) (r_mut_P (exd := (fun z => (D.str z.1))) (oo := (fun z => (oLst D.str z.2))) (E1 := fun z => [.ow true (oLst D.int v5.2), .im (D.str a1), .im (D.int a2), .ow false (oLst D.str z.2), .ow false (oLst D.str s3.2.2), .im (D.int x4), .im (D.int v5.1)]) rfl rfl (pa_cons (p_var rfl) pa_nil) rfl (m_popAt D.str s3.2.1 v5.1) (fun _ => rfl)) (fun v6 => pa_nil)) (fun _ => rfl) (fun _ => rfl) fun v7 => (rv_map (f := fun v8 => ((), (v7.2, v8))) (ex := fun z : Unit × (List Str) × (List Str) => (X.im (eU z.1))) (ee := fun z : Unit × (List Str) × (List Str) => [.ow true (oLst D.int v5.2), .im (D.str a1), .im (D.int a2), .ow false (oLst D.str z.2.1), .ow false (oLst D.str z.2.2), .im (D.int x4), .im (D.int v5.1)]) (mc (exd := (fun z => .non)) (oo := (fun z => (oLst D.str z))) (E1 := fun z => [.ow true (oLst D.int v5.2), .im (D.str a1), .im (D.int a2), .ow false (oLst D.str v7.2), .ow false (oLst D.str z), .im (D.int x4), .im (D.int v5.1)]) (m_app D.str s3.2.2 v7.1) (fun _ => rfl)) (fun _ => rfl) (fun _ => rfl))) fun v9 => (s_end rfl)))))) (fun _ => rfl))) fun s10 => (s_retP (p_cb (pa_cons (p_sl rfl) pa_nil) rfl (c_tupL D.str s10.2.2)) rfl))))
def t__law_kin (a0 : (List Int)) (a1 : Int) : Option ((List Str) × (List Int)) := PR.o ((PR.opt (t__law_word a0)).bind fun v1 => 
 (((PR.opt (lenS v1.1)).bind fun v3 => (PR.opt (t__law_draw v1.2 v3))).bind fun v4 => 
 ((PR.opt (t__law_choice_s v4.2 ("abcdefghijklmnopqrstuvwxyz" : Str) a1)).bind fun v5 => 
 (((PR.opt (lcP (fun (x7 : Str) => (some true)) (fun x7 => (((PR.opt (slS v1.1 none (some v4.1))).bind fun v8 => (PR.opt (catS v8 x7))).bind fun v9 => ((PR.opt (slS v1.1 (some (v4.1 + 1)) none)).bind fun v10 => (PR.opt (catS v9 v10)))).o) v5.1 0)).bind fun v13 => (PR.ok v13)).bind fun v14 => PR.ok (v14, v5.2)))))
theorem s__law_kin_oi {XF : XIf} (a0 : (List Int)) (a1 : Int) : RV (d__law_kin [.ow true (oLst D.int a0), .im (D.int a1)]) (fun v : (List Str) × (List Int) => (X.im (eTup D.str v.1))) (fun v : (List Str) × (List Int) => [.ow true (oLst D.int v.2), .im (D.int a1)]) XF (PR.opt (t__law_kin a0 a1)) := by
  unfold t__law_kin
  refine f_mkN (N := 6) (n := 2) (ds := b__law_kin) (ps := [.ow true (oLst D.int a0), .im (D.int a1)]) (ex := (fun v : (List Str) × (List Int) => (X.im (eTup D.str v.1)))) (pe := (fun v : (List Str) × (List Int) => [.ow true (oLst D.int v.2), .im (D.int a1)])) ⟨rfl, Nat.le_of_ble_eq_true rfl, rfl⟩ rfl ?_
  exact (s_asg (E1 := fun (v1 : Str × (List Int)) => [.ow true (oLst D.int v1.2), .im (D.int a1), .im (D.str v1.1), .no, .no, .no]) (r_frz (df := fun (v : Str × (List Int)) => (D.str v.1)) (r_call_P (pa_cons (p_sl rfl) pa_nil) (rv_callN (ps := [.ow true (oLst D.int a0)]) (E1 := fun u => [.ow true (oLst D.int u.2), .im (D.int a1), .no, .no, .no, .no]) rfl (of_decide_eq_true rfl) (s__law_word_o (XF := XFT) a0) (fun _ => rfl))) (fun _ => rfl)) (fun _ => rfl) fun v1 => (s_asg (E1 := fun (v4 : Int × (List Int)) => [.ow true (oLst D.int v4.2), .im (D.int a1), .im (D.str v1.1), .im (D.int v4.1), .no, .no]) (r_frz (df := fun (v : Int × (List Int)) => (D.int v.1)) (r_call_M (ra_PM (p_sl rfl) (ra_MP (xf := fun (v2 : Int) => []) (r_cb_P (pa_cons (p_var rfl) pa_nil) (cc rfl (c_lenS v1.1))) (fun v2 => pa_nil))) fun v3 => (rv_callN (ps := [.ow true (oLst D.int v1.2), .im (D.int v3)]) (E1 := fun u => [.ow true (oLst D.int u.2), .im (D.int a1), .im (D.str v1.1), .no, .no, .no]) rfl (of_decide_eq_true rfl) (s__law_draw_oi (XF := XFT) v1.2 v3) (fun _ => rfl))) (fun _ => rfl)) (fun _ => rfl) fun v4 => (s_asg (E1 := fun (v5 : (List Str) × (List Int)) => [.ow true (oLst D.int v5.2), .im (D.int a1), .im (D.str v1.1), .im (D.int v4.1), .im (eTup D.str v5.1), .no]) (r_frz (df := fun (v : (List Str) × (List Int)) => (eTup D.str v.1)) (r_call_P (pa_cons (p_sl rfl) (pa_cons rfl (pa_cons (p_var rfl) pa_nil))) (rv_callN (ps := [.ow true (oLst D.int v4.2), .im (D.str ("abcdefghijklmnopqrstuvwxyz" : Str)), .im (D.int a1)]) (E1 := fun u => [.ow true (oLst D.int u.2), .im (D.int a1), .im (D.str v1.1), .im (D.int v4.1), .no, .no]) rfl (of_decide_eq_true rfl) (s__law_choice_s_oii (XF := XFT) v4.2 ("abcdefghijklmnopqrstuvwxyz" : Str) a1) (fun _ => rfl))) (fun _ => rfl)) (fun _ => rfl) fun v5 => (s_ret (r_cb_M (ra_MP (xf := fun (v12 : (List Str)) => []) (r_lc_P (p_iseq (l := v5.1.map D.str) (p_var rfl) rfl) (lce (e := D.str) (e' := D.str) (B := [.ow true (oLst D.int v5.2), .im (D.int a1), .im (D.str v1.1), .im (D.int v4.1), .im (eTup D.str v5.1), .no]) (Bx := fun (x7 : Str) => [.ow true (oLst D.int v5.2), .im (D.int a1), .im (D.str v1.1), .im (D.int v4.1), .im (eTup D.str v5.1), .im (D.str x7)]) (XF := fun _ _ => True) rfl rfl (fun _ => rfl) (fun x7 => (rv_of (ex := fun b : Bool => b) (v := true) p_yes rfl)) (fun x7 => (rv_o (XI' := fun _ _ => True) (r_op_MM (r_op_MP (r_sl_PPP (p_var rfl) p_none (p_some (p_var rfl) rfl) (sc rfl (o_slS v1.1 none (some v4.1)))) (fun v8 => (p_var rfl)) fun v8 => (oc rfl rfl (o_catS v8 x7))) (fun v9 => (r_sl_PPP (p_var rfl) (p_some (p_op (p_var rfl) rfl rfl rfl rfl) rfl) p_none (sc rfl (o_slS v1.1 (some (v4.1 + 1)) none)))) fun v9 v10 => (oc rfl rfl (o_catS v9 v10))))) (fun _ => rfl) (fun _ => rfl) rfl)) (fun v12 => pa_nil)) fun v13 => (ccV (ex := (fun z : (List Str) => (X.im (eTup D.str z)))) (v := v13) rfl (c_tupL D.str v13))) (fun _ => rfl)))))
def t__law_ballot (a0 : (List Int)) (a1 : (List Str)) : Option ((List Str) × (List Int)) := PR.o (((PR.opt (t__law_draw a0 ((a1.length : Int) + 1))).bind fun v2 => (PR.opt (t__law_choice v2.2 a1 v2.1))).bind fun v3 => PR.ok (v3.1, v3.2))
theorem s__law_ballot_oi {XF : XIf} (a0 : (List Int)) (a1 : (List Str)) : RV (d__law_ballot [.ow true (oLst D.int a0), .im (eTup D.str a1)]) (fun v : (List Str) × (List Int) => (X.im (eTup D.str v.1))) (fun v : (List Str) × (List Int) => [.ow true (oLst D.int v.2), .im (eTup D.str a1)]) XF (PR.opt (t__law_ballot a0 a1)) := by
  unfold t__law_ballot
  refine f_mkN (N := 2) (n := 2) (ds := b__law_ballot) (ps := [.ow true (oLst D.int a0), .im (eTup D.str a1)]) (ex := (fun v : (List Str) × (List Int) => (X.im (eTup D.str v.1)))) (pe := (fun v : (List Str) × (List Int) => [.ow true (oLst D.int v.2), .im (eTup D.str a1)])) ⟨rfl, Nat.le_of_ble_eq_true rfl, rfl⟩ rfl ?_
  exact (s_ret (r_call_M (ra_PM (p_sl rfl) (ra_PM (p_var rfl) (ra_MP (xf := fun (v1 : Int × (List Int)) => []) (r_frz (df := fun (v : Int × (List Int)) => (D.int v.1)) (r_call_P (pa_cons (p_sl rfl) (pa_cons (p_frz (p_op (p_cb (pa_cons (p_var rfl) pa_nil) rfl (c_lenT D.str a1)) rfl rfl rfl rfl) rfl) pa_nil)) (rv_callN (ps := [.ow true (oLst D.int a0), .im (D.int ((a1.length : Int) + 1))]) (E1 := fun u => [.ow true (oLst D.int u.2), .im (eTup D.str a1)]) rfl (of_decide_eq_true rfl) (s__law_draw_oi (XF := XFT) a0 ((a1.length : Int) + 1)) (fun _ => rfl))) (fun _ => rfl)) (fun v1 => pa_nil)))) fun v2 => (rv_callN (ps := [.ow true (oLst D.int v2.2), .im (eTup D.str a1), .im (D.int v2.1)]) (E1 := fun u => [.ow true (oLst D.int u.2), .im (eTup D.str a1)]) rfl (of_decide_eq_true rfl) (s__law_choice_oii (XF := XFT) v2.2 a1 v2.1) (fun _ => rfl))) (fun _ => rfl))
def t__law_line_rows (a0 : (List Int)) (a1 : (List Str)) : Option ((List ((List Str) × Int)) × (List Int)) := PR.o ((((PR.opt (t__law_draw a0 4)).bind fun v2 => (PR.ok ((decide (v2.1 = 0)), v2.2))).bind fun v3 => if v3.1 = true then (PR.ok (v3.2, 25)) else
 (PR.ok (v3.2, 7))).bind fun s1 : (List Int) × Int =>
 ((((PR.opt (t__law_draw s1.1 s1.2)).bind fun v5 => ((PR.opt (rg1 v5.1)).bind fun l6 => PR.ok (l6, v5.2))).bind fun v7 => (foldP (fun (x9 : Int) (s8 : (List Int) × (List ((List Str) × Int))) => ((PR.opt (t__law_ballot s8.1 a1)).bind fun v10 => 
 (((if (decide ((s8.2.length : Int) > 0)) = true then (((PR.opt (t__law_draw v10.2 3)).bind fun v12 => (PR.ok ((decide (v12.1 = 0)), v12.2))).bind fun v13 => PR.ok (v13.1, v13.2)) else (PR.ok (false, v10.2))).bind fun v14 => if v14.1 = true then ((((PR.opt (t__law_draw v14.2 (s8.2.length : Int))).bind fun v15 => ((PR.opt (atI s8.2 v15.1)).bind fun z16 => PR.ok (z16, v15.2))).bind fun v17 => (PR.ok (v17.1.1, v17.2))).bind fun v18 => 
 (PR.ok (v18.2, v18.1))) else
 (PR.ok (v14.2, v10.1))).bind fun s11 : (List Int) × (List Str) =>
 ((PR.opt (t__law_draw s11.1 4)).bind fun v19 => 
 ((if (decide (v19.1 < 3)) = true then ((((PR.opt (atI [4, 30, 1000000000000] v19.1)).bind fun v22 => (PR.opt (t__law_draw v19.2 v22))).bind fun v23 => (PR.ok ((1 + v23.1), v23.2))).bind fun v24 => 
 (PR.ok (v24.2, v24.1))) else
 (PR.ok (v19.2, 1000000000000))).bind fun s20 : (List Int) × Int =>
 ((PR.opt (appP s8.2 (s11.2, s20.2))).bind fun v25 => (PR.ok (s20.1, v25)))))))) v7.1 (v7.2, []))).bind fun s26 : (List Int) × (List ((List Str) × Int)) =>
 (PR.ok (s26.2, s26.1))))
theorem s__law_line_rows_oi {XF : XIf} (a0 : (List Int)) (a1 : (List Str)) : RV (d__law_line_rows [.ow true (oLst D.int a0), .im (eTup D.str a1)]) (fun v : (List ((List Str) × Int)) × (List Int) => (X.ow (oLst (ePr (eTup D.str) D.int) v.1))) (fun v : (List ((List Str) × Int)) × (List Int) => [.ow true (oLst D.int v.2), .im (eTup D.str a1)]) XF (PR.opt (t__law_line_rows a0 a1)) := by
  unfold t__law_line_rows
  refine f_mkN (N := 8) (n := 2) (ds := b__law_line_rows) (ps := [.ow true (oLst D.int a0), .im (eTup D.str a1)]) (ex := (fun v : (List ((List Str) × Int)) × (List Int) => (X.ow (oLst (ePr (eTup D.str) D.int) v.1)))) (pe := (fun v : (List ((List Str) × Int)) × (List Int) => [.ow true (oLst D.int v.2), .im (eTup D.str a1)])) ⟨rfl, Nat.le_of_ble_eq_true rfl, rfl⟩ rfl ?_
  exact (s_asgP (E1 := [.ow true (oLst D.int a0), .im (eTup D.str a1), .im (D.int 7), .no, .no, .no, .no, .no]) rfl rfl (s_join (J := fun (s1 : (List Int) × Int) => [.ow true (oLst D.int s1.1), .im (eTup D.str a1), .im (D.int s1.2), .no, .no, .no, .no, .no]) (s_ifM (r_test (g := fun (v : Bool × (List Int)) => v.1) (r_op_MP (r_call_P (pa_cons (p_sl rfl) (pa_cons rfl pa_nil)) (rv_callN (ps := [.ow true (oLst D.int a0), .im (D.int 4)]) (E1 := fun u => [.ow true (oLst D.int u.2), .im (eTup D.str a1), .im (D.int 7), .no, .no, .no, .no, .no]) rfl (of_decide_eq_true rfl) (s__law_draw_oi (XF := XFT) a0 4) (fun _ => rfl))) (fun v2 => rfl) fun v2 => (ocVE (ex := fun z : Bool × (List Int) => (X.im (D.bl z.1))) (ee := fun z : Bool × (List Int) => [.ow true (oLst D.int z.2), .im (eTup D.str a1), .im (D.int 7), .no, .no, .no, .no, .no]) (v := ((decide (v2.1 = 0)), v2.2)) rfl rfl (o_eqI v2.1 0) rfl)) (fun _ => rfl)) (fun v3 => (s_last (s_asgP (E1 := [.ow true (oLst D.int v3.2), .im (eTup D.str a1), .im (D.int 25), .no, .no, .no, .no, .no]) rfl rfl (s_end rfl))))
 (fun v3 => (s_end rfl))) fun s1 => (s_asgP (E1 := [.ow true (oLst D.int s1.1), .im (eTup D.str a1), .im (D.int s1.2), .ow false (oLst (ePr (eTup D.str) D.int) []), .no, .no, .no, .no]) (p_lst (ds := []) pa_nil rfl fit_0) rfl (s_join (J := fun (s26 : (List Int) × (List ((List Str) × Int))) => [.ow true (oLst D.int s26.1), .im (eTup D.str a1), .im (D.int s1.2), .ow false (oLst (ePr (eTup D.str) D.int) s26.2), .no, .no, .no, .no]) (s_for_M (ld := fun (v7 : (List Int) × (List Int)) => v7.1.map D.int) (r_r1_M (j := fun (v5 : Int × (List Int)) => v5.1) (s := fun (v5 : Int × (List Int)) => v5.2) (E := fun p : (List Int) => [.ow true (oLst D.int p), .im (eTup D.str a1), .im (D.int s1.2), .ow false (oLst (ePr (eTup D.str) D.int) []), .no, .no, .no, .no]) (ra_MP (xf := fun (v4 : Int × (List Int)) => []) (r_call_P (pa_cons (p_sl rfl) (pa_cons (p_var rfl) pa_nil)) (rv_callN (ps := [.ow true (oLst D.int s1.1), .im (D.int s1.2)]) (E1 := fun u => [.ow true (oLst D.int u.2), .im (eTup D.str a1), .im (D.int s1.2), .ow false (oLst (ePr (eTup D.str) D.int) []), .no, .no, .no, .no]) rfl (of_decide_eq_true rfl) (s__law_draw_oi (XF := XFT) s1.1 s1.2) (fun _ => rfl))) (fun v4 => pa_nil)) (fun _ => rfl) (fun _ => rfl)) fun v7 => (fore (e := D.int) (L := fun (s8 : (List Int) × (List ((List Str) × Int))) => [.ow true (oLst D.int s8.1), .im (eTup D.str a1), .im (D.int s1.2), .ow false (oLst (ePr (eTup D.str) D.int) s8.2), .no, .no, .no, .no]) (G := fun (x9 : Int) (s8 : (List Int) × (List ((List Str) × Int))) => [.ow true (oLst D.int s8.1), .im (eTup D.str a1), .im (D.int s1.2), .ow false (oLst (ePr (eTup D.str) D.int) s8.2), .im (D.int x9), .no, .no, .no]) (J := fun (s26 : (List Int) × (List ((List Str) × Int))) => [.ow true (oLst D.int s26.1), .im (eTup D.str a1), .im (D.int s1.2), .ow false (oLst (ePr (eTup D.str) D.int) s26.2), .no, .no, .no, .no]) (s0 := (v7.2, [])) rfl (fun _ _ => rfl) (fun x9 s8 => (s_wp (s_asg (E1 := fun (v10 : (List Str) × (List Int)) => [.ow true (oLst D.int v10.2), .im (eTup D.str a1), .im (D.int s1.2), .ow false (oLst (ePr (eTup D.str) D.int) s8.2), .im (D.int x9), .im (eTup D.str v10.1), .no, .no]) (r_frz (df := fun (v : (List Str) × (List Int)) => (eTup D.str v.1)) (r_call_P (pa_cons (p_sl rfl) (pa_cons (p_var rfl) pa_nil)) (rv_callN (ps := [.ow true (oLst D.int s8.1), .im (eTup D.str a1)]) (E1 := fun u => [.ow true (oLst D.int u.2), .im (eTup D.str a1), .im (D.int s1.2), .ow false (oLst (ePr (eTup D.str) D.int) s8.2), .im (D.int x9), .no, .no, .no]) rfl (of_decide_eq_true rfl) (s__law_ballot_oi (XF := XFT) s8.1 a1) (fun _ => rfl))) (fun _ => rfl)) (fun _ => rfl) fun v10 => (s_join (J := fun (s11 : (List Int) × (List Str)) => [.ow true (oLst D.int s11.1), .im (eTup D.str a1), .im (D.int s1.2), .ow false (oLst (ePr (eTup D.str) D.int) s8.2), .im (D.int x9), .im (eTup D.str s11.2), .no, .no]) (s_ifM (r_tand_P (p_test (p_op (p_cb (pa_cons (p_sl rfl) pa_nil) rfl (c_lenL (ePr (eTup D.str) D.int) s8.2)) rfl rfl rfl rfl) rfl) (rv_map (f := fun (v13 : Bool × (List Int)) => (v13.1, v13.2)) (ex := fun v : Bool × (List Int) => v.1) (ee := fun v : Bool × (List Int) => [.ow true (oLst D.int v.2), .im (eTup D.str a1), .im (D.int s1.2), .ow false (oLst (ePr (eTup D.str) D.int) s8.2), .im (D.int x9), .im (eTup D.str v10.1), .no, .no]) (r_test (g := fun (v : Bool × (List Int)) => v.1) (r_op_MP (r_call_P (pa_cons (p_sl rfl) (pa_cons rfl pa_nil)) (rv_callN (ps := [.ow true (oLst D.int v10.2), .im (D.int 3)]) (E1 := fun u => [.ow true (oLst D.int u.2), .im (eTup D.str a1), .im (D.int s1.2), .ow false (oLst (ePr (eTup D.str) D.int) s8.2), .im (D.int x9), .im (eTup D.str v10.1), .no, .no]) rfl (of_decide_eq_true rfl) (s__law_draw_oi (XF := XFT) v10.2 3) (fun _ => rfl))) (fun v12 => rfl) fun v12 => (ocVE (ex := fun z : Bool × (List Int) => (X.im (D.bl z.1))) (ee := fun z : Bool × (List Int) => [.ow true (oLst D.int z.2), .im (eTup D.str a1), .im (D.int s1.2), .ow false (oLst (ePr (eTup D.str) D.int) s8.2), .im (D.int x9), .im (eTup D.str v10.1), .no, .no]) (v := ((decide (v12.1 = 0)), v12.2)) rfl rfl (o_eqI v12.1 0) rfl)) (fun _ => rfl)) (fun _ => rfl) (fun _ => rfl)) rfl) (fun v14 => (s_last (s_asg (E1 := fun (v18 : (List Str) × (List Int)) => [.ow true (oLst D.int v18.2), .im (eTup D.str a1), .im (D.int s1.2), .ow false (oLst (ePr (eTup D.str) D.int) s8.2), .im (D.int x9), .im (eTup D.str v18.1), .no, .no]) (r_op_MP (r_op_PM (p_sl rfl) (r_call_P (pa_cons (p_sl rfl) (pa_cons (p_cb (pa_cons (p_sl rfl) pa_nil) rfl (c_lenL (ePr (eTup D.str) D.int) s8.2)) pa_nil)) (rv_callN (ps := [.ow true (oLst D.int v14.2), .im (D.int (s8.2.length : Int))]) (E1 := fun u => [.ow true (oLst D.int u.2), .im (eTup D.str a1), .im (D.int s1.2), .ow false (oLst (ePr (eTup D.str) D.int) s8.2), .im (D.int x9), .im (eTup D.str v10.1), .no, .no]) rfl (of_decide_eq_true rfl) (s__law_draw_oi (XF := XFT) v14.2 (s8.2.length : Int)) (fun _ => rfl))) fun v15 => (wE (E := fun p : (List Int) => [.ow true (oLst D.int p), .im (eTup D.str a1), .im (D.int s1.2), .ow false (oLst (ePr (eTup D.str) D.int) s8.2), .im (D.int x9), .im (eTup D.str v10.1), .no, .no]) (s := v15.2) (oc rfl rfl (o_ixL (ePr (eTup D.str) D.int) s8.2 v15.1)))) (fun v17 => rfl) fun v17 => (ocVE (ex := fun z : (List Str) × (List Int) => (X.im (eTup D.str z.1))) (ee := fun z : (List Str) × (List Int) => [.ow true (oLst D.int z.2), .im (eTup D.str a1), .im (D.int s1.2), .ow false (oLst (ePr (eTup D.str) D.int) s8.2), .im (D.int x9), .im (eTup D.str v10.1), .no, .no]) (v := (v17.1.1, v17.2)) rfl rfl rfl rfl)) (fun _ => rfl) fun v18 => (s_end rfl))))
 (fun v14 => (s_end rfl))) fun s11 => (s_asg (E1 := fun (v19 : Int × (List Int)) => [.ow true (oLst D.int v19.2), .im (eTup D.str a1), .im (D.int s1.2), .ow false (oLst (ePr (eTup D.str) D.int) s8.2), .im (D.int x9), .im (eTup D.str s11.2), .im (D.int v19.1), .no]) (r_frz (df := fun (v : Int × (List Int)) => (D.int v.1)) (r_call_P (pa_cons (p_sl rfl) (pa_cons rfl pa_nil)) (rv_callN (ps := [.ow true (oLst D.int s11.1), .im (D.int 4)]) (E1 := fun u => [.ow true (oLst D.int u.2), .im (eTup D.str a1), .im (D.int s1.2), .ow false (oLst (ePr (eTup D.str) D.int) s8.2), .im (D.int x9), .im (eTup D.str s11.2), .no, .no]) rfl (of_decide_eq_true rfl) (s__law_draw_oi (XF := XFT) s11.1 4) (fun _ => rfl))) (fun _ => rfl)) (fun _ => rfl) fun v19 => (s_asgP (E1 := [.ow true (oLst D.int v19.2), .im (eTup D.str a1), .im (D.int s1.2), .ow false (oLst (ePr (eTup D.str) D.int) s8.2), .im (D.int x9), .im (eTup D.str s11.2), .im (D.int v19.1), .im (D.int 1000000000000)]) (p_op rfl rfl rfl rfl (show pPow (.int 10) (.int 12) = some (X.im (D.int 1000000000000)) by simp [pPow])) rfl (s_join (J := fun (s20 : (List Int) × Int) => [.ow true (oLst D.int s20.1), .im (eTup D.str a1), .im (D.int s1.2), .ow false (oLst (ePr (eTup D.str) D.int) s8.2), .im (D.int x9), .im (eTup D.str s11.2), .im (D.int v19.1), .im (D.int s20.2)]) (s_ifP (p_test (p_op (p_var rfl) rfl rfl rfl rfl) rfl) (s_last (s_asg (E1 := fun (v24 : Int × (List Int)) => [.ow true (oLst D.int v24.2), .im (eTup D.str a1), .im (D.int s1.2), .ow false (oLst (ePr (eTup D.str) D.int) s8.2), .im (D.int x9), .im (eTup D.str s11.2), .im (D.int v19.1), .im (D.int v24.1)]) (r_frz (df := fun (v : Int × (List Int)) => (D.int v.1)) (r_op_PM rfl (r_call_M (ra_PM (p_sl rfl) (ra_MP (xf := fun (v21 : Int) => []) (r_op_PP (p_lst (ds := [(D.int 4), (D.int 30), (D.int 1000000000000)]) (pa_cons rfl (pa_cons rfl (pa_cons (p_op rfl rfl rfl rfl (show pPow (.int 10) (.int 12) = some (X.im (D.int 1000000000000)) by simp [pPow])) pa_nil))) rfl fit_3) (p_var rfl) (oc rfl rfl (o_ixL D.int [4, 30, 1000000000000] v19.1))) (fun v21 => pa_nil))) fun v22 => (rv_callN (ps := [.ow true (oLst D.int v19.2), .im (D.int v22)]) (E1 := fun u => [.ow true (oLst D.int u.2), .im (eTup D.str a1), .im (D.int s1.2), .ow false (oLst (ePr (eTup D.str) D.int) s8.2), .im (D.int x9), .im (eTup D.str s11.2), .im (D.int v19.1), .im (D.int 1000000000000)]) rfl (of_decide_eq_true rfl) (s__law_draw_oi (XF := XFT) v19.2 v22) (fun _ => rfl))) fun v23 => (ocVE (ex := fun z : Int × (List Int) => (X.im (D.int z.1))) (ee := fun z : Int × (List Int) => [.ow true (oLst D.int z.2), .im (eTup D.str a1), .im (D.int s1.2), .ow false (oLst (ePr (eTup D.str) D.int) s8.2), .im (D.int x9), .im (eTup D.str s11.2), .im (D.int v19.1), .im (D.int 1000000000000)]) (v := ((1 + v23.1), v23.2)) rfl rfl rfl rfl)) (fun _ => rfl)) (fun _ => rfl) fun v24 => (s_end rfl)))
 (s_end rfl)) fun s20 => (s_last (s_drop (r_mut_P (exd := (fun z => .non)) (oo := (fun z => (oLst (ePr (eTup D.str) D.int) z))) (E1 := fun z => [.ow true (oLst D.int s20.1), .im (eTup D.str a1), .im (D.int s1.2), .ow false (oLst (ePr (eTup D.str) D.int) z), .im (D.int x9), .im (eTup D.str s11.2), .im (D.int v19.1), .im (D.int s20.2)]) rfl rfl (pa_cons (p_tup (ds := [(eTup D.str s11.2), (D.int s20.2)]) (pa_cons (p_var rfl) (pa_cons (p_var rfl) pa_nil)) rfl fit_2) pa_nil) rfl (m_app (ePr (eTup D.str) D.int) s8.2 (s11.2, s20.2)) (fun _ => rfl)) fun v25 => (s_end rfl)))))))))) (fun _ => rfl))) fun s26 => (s_retP (p_sl rfl) rfl)))))
def t__law_ballot_text (a0 : (List Str)) : Option (Str) := PR.o (if (decide ((a0.length : Int) = 0)) = true then (PR.ok ("-" : Str)) else
 (PR.opt (joinP (">" : Str) a0)))
theorem s__law_ballot_text_i {XF : XIf} (a0 : (List Str)) : RV (d__law_ballot_text [.im (eTup D.str a0)]) (fun v : Str => (X.im (D.str v))) (fun v : Str => [.im (eTup D.str a0)]) XF (PR.opt (t__law_ballot_text a0)) := by
  unfold t__law_ballot_text
  refine f_mkN (N := 1) (n := 1) (ds := b__law_ballot_text) (ps := [.im (eTup D.str a0)]) (ex := (fun v : Str => (X.im (D.str v)))) (pe := (fun v : Str => [.im (eTup D.str a0)])) ⟨rfl, Nat.le_of_ble_eq_true rfl, rfl⟩ rfl ?_
  exact (s_cutIf (s_ifP (p_test (p_op (p_cb (pa_cons (p_var rfl) pa_nil) rfl (c_lenT D.str a0)) rfl rfl rfl (o_eqI (a0.length : Int) 0)) rfl) (s_cutRet (s_retP rfl rfl))
 (s_skip (s_ret1 (r_m1_PP rfl rfl (p_cb (pa_cons (p_var rfl) pa_nil) rfl (c_lstT D.str a0)) (oc rfl rfl (o_joinL (">" : Str) a0))) (fun _ => rfl)))))
def t__law_lines (a0 : (List ((List Str) × Int))) : Option ((List Str)) := PR.o (PR.opt (lcP (fun (x2 : ((List Str) × Int)) => (some true)) (fun x2 => (((PR.opt (fmtP x2.2)).bind fun v3 => (PR.opt (catS v3 (" " : Str)))).bind fun v4 => ((PR.opt (t__law_ballot_text x2.1)).bind fun v5 => (PR.opt (catS v4 v5)))).o) a0 0))
theorem s__law_lines_i {XF : XIf} (a0 : (List ((List Str) × Int))) : RV (d__law_lines [.im (eLst (ePr (eTup D.str) D.int) a0)]) (fun v : (List Str) => (X.ow (oLst D.str v))) (fun v : (List Str) => [.im (eLst (ePr (eTup D.str) D.int) a0)]) XF (PR.opt (t__law_lines a0)) := by
  unfold t__law_lines
  refine f_mkN (N := 3) (n := 1) (ds := b__law_lines) (ps := [.im (eLst (ePr (eTup D.str) D.int) a0)]) (ex := (fun v : (List Str) => (X.ow (oLst D.str v)))) (pe := (fun v : (List Str) => [.im (eLst (ePr (eTup D.str) D.int) a0)])) ⟨rfl, Nat.le_of_ble_eq_true rfl, rfl⟩ rfl ?_
  exact (s_ret1 (r_lc_P (p_iseq (l := a0.map (ePr (eTup D.str) D.int)) (p_var rfl) rfl) (lce (e := (ePr (eTup D.str) D.int)) (e' := D.str) (B := [.im (eLst (ePr (eTup D.str) D.int) a0), .no, .no]) (Bx := fun (x2 : ((List Str) × Int)) => [.im (eLst (ePr (eTup D.str) D.int) a0), .im (eTup D.str x2.1), .im (D.int x2.2)]) (XF := fun _ _ => True) rfl rfl (fun _ => rfl) (fun x2 => (rv_of (ex := fun b : Bool => b) (v := true) p_yes rfl)) (fun x2 => (rv_o (XI' := fun _ _ => True) (r_op_MM (r_op_MP (r_cb_P (pa_cons (p_var rfl) pa_nil) (cc rfl (c_strI x2.2))) (fun v3 => rfl) fun v3 => (oc rfl rfl (o_catS v3 (" " : Str)))) (fun v4 => (r_call_P (pa_cons (p_var rfl) pa_nil) (rv_callN (ps := [.im (eTup D.str x2.1)]) (E1 := fun u => [.im (eLst (ePr (eTup D.str) D.int) a0), .im (eTup D.str x2.1), .im (D.int x2.2)]) rfl (of_decide_eq_true rfl) (s__law_ballot_text_i (XF := XFT) x2.1) (fun _ => rfl)))) fun v4 v5 => (oc rfl rfl (o_catS v4 v5))))) (fun _ => rfl) (fun _ => rfl) rfl)) (fun _ => rfl))
abbrev T_Roll : Type := (List Str) × (List ((List Str) × Int))
def fs_Roll (o : T_Roll) : List (Str × D) := [("names", (eTup D.str o.1)), ("_rows", (eTup (ePr (eTup D.str) D.int) o.2))]
def e_Roll (o : T_Roll) : D := .obj "Roll" (fs_Roll o)
def o_Roll (o : T_Roll) : OD := .ob "Roll" (fs_Roll o)
instance : NoN e_Roll := ⟨fun _ => rfl⟩
def t__law_same : Nat → D → D → Option (Bool)
  | 0, _, _ => none
  | n + 1, a0, a1 => PR.o (if (D.isNon a1) = true then (PR.ok (D.isNon a0)) else
 ((PR.opt ((D.tyN a1).bind fun t => L2.kitB t "bool")).bind fun v1 => if v1 = true then ((PR.opt ((D.tyN a0).bind fun t => L2.kitB t "bool")).bind fun v2 => (if v2 = true then (PR.opt (pEqB a0 a1)) else (PR.ok false))) else
 ((PR.opt ((D.tyN a1).bind fun t => L2.kitB t "int")).bind fun v5 => if v5 = true then ((PR.opt ((D.tyN a0).bind fun t => L2.kitB t "int")).bind fun v6 => (if v6 = true then ((PR.opt ((D.tyN a0).bind fun t => L2.kitB t "bool")).bind fun v7 => (if (!v7) = true then (PR.opt (pEqB a0 a1)) else (PR.ok false))) else (PR.ok false))) else
 ((PR.opt ((D.tyN a1).bind fun t => L2.kitB t "str")).bind fun v11 => if v11 = true then ((PR.opt ((D.tyN a0).bind fun t => L2.kitB t "str")).bind fun v12 => (if v12 = true then (PR.opt (pEqB a0 a1)) else (PR.ok false))) else
 (((PR.opt ((D.tyN a1).bind fun t => L2.kitB t "tuple")).bind fun v15 => (if v15 = true then ((PR.opt ((D.tyN a0).bind fun t => L2.kitB t "tuple")).bind fun v16 => PR.ok (!v16)) else (PR.ok false))).bind fun v17 => if v17 = true then (PR.ok false) else
 (((PR.opt ((D.tyN a1).bind fun t => L2.kitB t "list")).bind fun v18 => (if v18 = true then ((PR.opt ((D.tyN a0).bind fun t => L2.kitB t "list")).bind fun v19 => PR.ok (!v19)) else (PR.ok false))).bind fun v20 => if v20 = true then (PR.ok false) else
 (((PR.opt (lenD a0)).bind fun v21 => ((PR.opt (lenD a1)).bind fun v22 => (PR.ok (!decide (v21 = v22))))).bind fun v23 => if v23 = true then (PR.ok false) else
 (thenO (ρ := (Bool)) (((PR.opt (lenD a1)).bind fun v25 => (PR.opt (rg1 v25))).bind fun v26 => (forO (ρ := (Bool)) (fun (x28 : Int) (s27 : Unit) => ((((PR.opt (ixD a0 x28)).bind fun v29 => ((PR.opt (ixD a1 x28)).bind fun v31 => PR.ok (v29, v31))).bind fun v32 => (PR.opt (t__law_same n v32.1 v32.2))).bind fun v33 => if (!v33) = true then (PR.ok (.rt false)) else
 (PR.ok (.nx ())))) v26 ())) (fun s34 : Unit =>
 (PR.ok true)) (fun r => r)))))))))
theorem s__law_same_ii {XF : XIf} : ∀ (n : Nat) (a0 : D) (a1 : D), RV (d__law_same n [.im a0, .im a1]) (fun v : Bool => (X.im (D.bl v))) (fun v : Bool => [.im a0, .im a1]) XF (PR.opt (t__law_same n a0 a1))
  | 0, _, _ => trivial
  | n + 1, a0, a1 => by
    have IH := fun {XF : XIf} => s__law_same_ii (XF := XF) n
    refine f_mkN (N := 3) (n := 2) (ds := b__law_same (d__law_same n)) (ps := [.im a0, .im a1]) (ex := (fun v : Bool => (X.im (D.bl v)))) (pe := (fun v : Bool => [.im a0, .im a1])) ⟨rfl, Nat.le_of_ble_eq_true rfl, rfl⟩ rfl ?_
    exact (s_cutIf (s_ifP (p_test (p_op (p_var rfl) rfl rfl rfl (o_isND a1)) rfl) (s_cutRet (s_retP (p_op (p_var rfl) rfl rfl rfl (o_isND a0)) rfl))
 (s_skip (s_cutIf (s_ifM (r_test (g := fun (v : Bool) => v) (r_cb_P (pa_cons (p_var rfl) (pa_cons rfl pa_nil)) (cc rfl (c_isiD a1 "bool"))) (fun _ => rfl)) (fun v1 => (s_cutRet (s_ret1 (r_andV_M (g := fun (v : Bool) => v) (r_cb_P (pa_cons (p_var rfl) (pa_cons rfl pa_nil)) (cc rfl (c_isiD a0 "bool"))) (fun _ => rfl) (fun v2 => (r_op_PP (p_var rfl) (p_var rfl) (oc rfl rfl (o_eq a0 a1)))) (fun _ => rfl)) (fun _ => rfl))))
 (fun v1 => (s_skip (s_cutIf (s_ifM (r_test (g := fun (v : Bool) => v) (r_cb_P (pa_cons (p_var rfl) (pa_cons rfl pa_nil)) (cc rfl (c_isiD a1 "int"))) (fun _ => rfl)) (fun v5 => (s_cutRet (s_ret1 (r_andV_M (g := fun (v : Bool) => v) (r_cb_P (pa_cons (p_var rfl) (pa_cons rfl pa_nil)) (cc rfl (c_isiD a0 "int"))) (fun _ => rfl) (fun v6 => (r_andV_M (g := fun (v : Bool) => (!v)) (r_notV (g := fun (v : Bool) => v) (r_cb_P (pa_cons (p_var rfl) (pa_cons rfl pa_nil)) (cc rfl (c_isiD a0 "bool"))) (fun _ => rfl)) (fun _ => rfl) (fun v7 => (r_op_PP (p_var rfl) (p_var rfl) (oc rfl rfl (o_eq a0 a1)))) (fun _ => rfl))) (fun _ => rfl)) (fun _ => rfl))))
 (fun v5 => (s_skip (s_cutIf (s_ifM (r_test (g := fun (v : Bool) => v) (r_cb_P (pa_cons (p_var rfl) (pa_cons rfl pa_nil)) (cc rfl (c_isiD a1 "str"))) (fun _ => rfl)) (fun v11 => (s_cutRet (s_ret1 (r_andV_M (g := fun (v : Bool) => v) (r_cb_P (pa_cons (p_var rfl) (pa_cons rfl pa_nil)) (cc rfl (c_isiD a0 "str"))) (fun _ => rfl) (fun v12 => (r_op_PP (p_var rfl) (p_var rfl) (oc rfl rfl (o_eq a0 a1)))) (fun _ => rfl)) (fun _ => rfl))))
 (fun v11 => (s_skip (s_cutIf (s_ifM (r_tand_M (r_test (g := fun (v : Bool) => v) (r_cb_P (pa_cons (p_var rfl) (pa_cons rfl pa_nil)) (cc rfl (c_isiD a1 "tuple"))) (fun _ => rfl)) (fun v15 => (rv_map (f := fun (v16 : Bool) => (!v16)) (ex := fun v : Bool => v) (ee := fun _ => [.im a0, .im a1, .no]) (r_tnot (r_test (g := fun (v : Bool) => v) (r_cb_P (pa_cons (p_var rfl) (pa_cons rfl pa_nil)) (cc rfl (c_isiD a0 "tuple"))) (fun _ => rfl))) (fun _ => rfl) (fun _ => rfl))) (fun _ => rfl)) (fun v17 => (s_cutRet (s_retP rfl rfl)))
 (fun v17 => (s_skip (s_cutIf (s_ifM (r_tand_M (r_test (g := fun (v : Bool) => v) (r_cb_P (pa_cons (p_var rfl) (pa_cons rfl pa_nil)) (cc rfl (c_isiD a1 "list"))) (fun _ => rfl)) (fun v18 => (rv_map (f := fun (v19 : Bool) => (!v19)) (ex := fun v : Bool => v) (ee := fun _ => [.im a0, .im a1, .no]) (r_tnot (r_test (g := fun (v : Bool) => v) (r_cb_P (pa_cons (p_var rfl) (pa_cons rfl pa_nil)) (cc rfl (c_isiD a0 "list"))) (fun _ => rfl))) (fun _ => rfl) (fun _ => rfl))) (fun _ => rfl)) (fun v20 => (s_cutRet (s_retP rfl rfl)))
 (fun v20 => (s_skip (s_cutIf (s_ifM (r_test (g := fun (v : Bool) => v) (r_op_MM (r_cb_P (pa_cons (p_var rfl) pa_nil) (cc rfl (c_lenD a0))) (fun v21 => (r_cb_P (pa_cons (p_var rfl) pa_nil) (cc rfl (c_lenD a1)))) fun v21 v22 => (ocV (ex := (fun z : Bool => (X.im (D.bl z)))) (v := (!decide (v21 = v22))) rfl rfl (o_neI v21 v22))) (fun _ => rfl)) (fun v23 => (s_cutRet (s_retP rfl rfl)))
 (fun v23 => (s_skip (s_joinO (J := fun (s34 : Unit) => [.im a0, .im a1, .no]) (RT := (fun v x e => finR 2 [.im a0, .im a1] (.rt x e) = RE.ok ((fun v : Bool => (X.im (D.bl v))) v) ((fun v : Bool => [.im a0, .im a1]) v))) (s_for_M (ld := fun (v26 : List Int) => v26.map D.int) (r_r1_M0 (j := fun (v : Int) => v) (ra_MP (xf := fun (v24 : Int) => []) (r_cb_P (pa_cons (p_var rfl) pa_nil) (cc rfl (c_lenD a1))) (fun v24 => pa_nil)) (fun _ => rfl)) fun v26 => (foreO (e := D.int) (L := fun (s27 : Unit) => [.im a0, .im a1, .no]) (G := fun (x28 : Int) (s27 : Unit) => [.im a0, .im a1, .im (D.int x28)]) (J := fun (s34 : Unit) => [.im a0, .im a1, .no]) (RT := (fun v x e => finR 2 [.im a0, .im a1] (.rt x e) = RE.ok ((fun v : Bool => (X.im (D.bl v))) v) ((fun v : Bool => [.im a0, .im a1]) v))) (s0 := ()) rfl (fun _ _ => rfl) (fun x28 s27 => (s_wp (s_ifM (r_tnot (r_test (g := fun v => v) (r_call_M (ra_MM (exs := fun (p : (D) × (D)) => [(X.im p.1), (X.im p.2)]) (ees := fun (p : (D) × (D)) => [.im a0, .im a1, .im (D.int x28)]) (pk := fun v w => (v, w)) (r_op_PP (p_var rfl) (p_var rfl) (oc rfl rfl (o_ixD a0 x28))) (fun v29 => (ra_MP (xf := fun (v30 : D) => []) (r_op_PP (p_var rfl) (p_var rfl) (oc rfl rfl (o_ixD a1 x28))) (fun v30 => pa_nil))) (fun _ _ => rfl) (fun _ _ => rfl)) fun v32 => (rv_callN (ps := [.im v32.1, .im v32.2]) (E1 := fun u => [.im a0, .im a1, .im (D.int x28)]) rfl (of_decide_eq_true rfl) (IH (XF := XFT) v32.1 v32.2) (fun _ => rfl))) (fun _ => rfl))) (fun v33 => (s_retP rfl (po_rt rfl rfl)))
 (fun v33 => (s_end (po_nx rfl)))))) (fun _ => rfl))) (fun s34 => (s_retP rfl rfl)) (fun _ _ _ h => h)))))))))))))))))))))))))))))
theorem lk_Roll_names (o : T_Roll) : (fs_Roll o).lookup ("names" : Str) = some (eTup D.str o.1) := by kernel_rfl
theorem rw_Roll__rows (o : T_Roll) : rowsO ["Roll"] "_rows" "Roll" (fs_Roll o) = some (o.2.map (ePr (eTup D.str) D.int)) := by kernel_rfl
def t__law_sum_of (a0 : (List ((List Str) × Int))) (a1 : (List Str)) : Option (Int) := PR.o ((PR.opt (lcP (fun (x2 : ((List Str) × Int)) => (PR.opt (pEqB (eTup D.str x2.1) (eTup D.str a1))).o) (fun x2 => (some x2.2)) a0 0)).bind fun v4 => (PR.ok v4.sum))
theorem s__law_sum_of_ii {XF : XIf} (a0 : (List ((List Str) × Int))) (a1 : (List Str)) : RV (d__law_sum_of [.im (eLst (ePr (eTup D.str) D.int) a0), .im (eTup D.str a1)]) (fun v : Int => (X.im (D.int v))) (fun v : Int => [.im (eLst (ePr (eTup D.str) D.int) a0), .im (eTup D.str a1)]) XF (PR.opt (t__law_sum_of a0 a1)) := by
  unfold t__law_sum_of
  refine f_mkN (N := 4) (n := 2) (ds := b__law_sum_of) (ps := [.im (eLst (ePr (eTup D.str) D.int) a0), .im (eTup D.str a1)]) (ex := (fun v : Int => (X.im (D.int v)))) (pe := (fun v : Int => [.im (eLst (ePr (eTup D.str) D.int) a0), .im (eTup D.str a1)])) ⟨rfl, Nat.le_of_ble_eq_true rfl, rfl⟩ rfl ?_
  exact (s_ret1 (r_cb_M (ra_MP (xf := fun (v3 : (List Int)) => []) (r_lc_P (p_iseq (l := a0.map (ePr (eTup D.str) D.int)) (p_var rfl) rfl) (lce (e := (ePr (eTup D.str) D.int)) (e' := D.int) (B := [.im (eLst (ePr (eTup D.str) D.int) a0), .im (eTup D.str a1), .no, .no]) (Bx := fun (x2 : ((List Str) × Int)) => [.im (eLst (ePr (eTup D.str) D.int) a0), .im (eTup D.str a1), .im (eTup D.str x2.1), .im (D.int x2.2)]) (XF := fun _ _ => True) rfl rfl (fun _ => rfl) (fun x2 => (rv_o (XI' := fun _ _ => True) (r_test (g := fun (v : Bool) => v) (r_op_PP (p_var rfl) (p_var rfl) (oc rfl rfl (o_eq (eTup D.str x2.1) (eTup D.str a1)))) (fun _ => rfl)))) (fun x2 => (rv_of (ex := fun y : Int => (X.im (D.int y))) (v := x2.2) (p_var rfl) rfl)) (fun _ => rfl) (fun _ => rfl) rfl)) (fun v3 => pa_nil)) fun v4 => (ccV (ex := (fun z : Int => (X.im (D.int z)))) (v := v4.sum) rfl (c_sum v4))) (fun _ => rfl))
def t__law_ahead (a0 : (List Str)) (a1 : (List Str)) (a2 : (List Str)) : Option (Bool) := PR.o (thenO (ρ := (Bool)) ((PR.opt (rg1 (if (a2.length : Int) < (a1.length : Int) then (a2.length : Int) else (a1.length : Int)))).bind fun v1 => (forO (ρ := (Bool)) (fun (x3 : Int) (s2 : Unit) => (((PR.opt (atI a1 x3)).bind fun v4 => ((PR.opt (atI a2 x3)).bind fun v5 => (PR.ok (!decide (v4 = v5))))).bind fun v6 => if v6 = true then ((((PR.opt (atI a1 x3)).bind fun v7 => (PR.opt (tixP a0 v7))).bind fun v8 => (((PR.opt (atI a2 x3)).bind fun v9 => (PR.opt (tixP a0 v9))).bind fun v10 => (PR.ok (decide (v8 < v10))))).bind fun v11 => PR.ok (.rt v11)) else
 (PR.ok (.nx ())))) v1 ())) (fun s12 : Unit =>
 (PR.ok (decide ((a1.length : Int) < (a2.length : Int))))) (fun r => r))
theorem s__law_ahead_iii {XF : XIf} (a0 : (List Str)) (a1 : (List Str)) (a2 : (List Str)) : RV (d__law_ahead [.im (eTup D.str a0), .im (eTup D.str a1), .im (eTup D.str a2)]) (fun v : Bool => (X.im (D.bl v))) (fun v : Bool => [.im (eTup D.str a0), .im (eTup D.str a1), .im (eTup D.str a2)]) XF (PR.opt (t__law_ahead a0 a1 a2)) := by
  unfold t__law_ahead
  refine f_mkN (N := 4) (n := 3) (ds := b__law_ahead) (ps := [.im (eTup D.str a0), .im (eTup D.str a1), .im (eTup D.str a2)]) (ex := (fun v : Bool => (X.im (D.bl v)))) (pe := (fun v : Bool => [.im (eTup D.str a0), .im (eTup D.str a1), .im (eTup D.str a2)])) ⟨rfl, Nat.le_of_ble_eq_true rfl, rfl⟩ rfl ?_
  exact (s_joinO (J := fun (s12 : Unit) => [.im (eTup D.str a0), .im (eTup D.str a1), .im (eTup D.str a2), .no]) (RT := (fun v x e => finR 3 [.im (eTup D.str a0), .im (eTup D.str a1), .im (eTup D.str a2)] (.rt x e) = RE.ok ((fun v : Bool => (X.im (D.bl v))) v) ((fun v : Bool => [.im (eTup D.str a0), .im (eTup D.str a1), .im (eTup D.str a2)]) v))) (s_for_M (ld := fun (v1 : List Int) => v1.map D.int) (r_r1_P (pa_cons (p_cb (pa_cons (p_cb (pa_cons (p_var rfl) pa_nil) rfl (c_lenT D.str a1)) (pa_cons (p_cb (pa_cons (p_var rfl) pa_nil) rfl (c_lenT D.str a2)) pa_nil)) rfl rfl) pa_nil) rfl) fun v1 => (foreO (e := D.int) (L := fun (s2 : Unit) => [.im (eTup D.str a0), .im (eTup D.str a1), .im (eTup D.str a2), .no]) (G := fun (x3 : Int) (s2 : Unit) => [.im (eTup D.str a0), .im (eTup D.str a1), .im (eTup D.str a2), .im (D.int x3)]) (J := fun (s12 : Unit) => [.im (eTup D.str a0), .im (eTup D.str a1), .im (eTup D.str a2), .no]) (RT := (fun v x e => finR 3 [.im (eTup D.str a0), .im (eTup D.str a1), .im (eTup D.str a2)] (.rt x e) = RE.ok ((fun v : Bool => (X.im (D.bl v))) v) ((fun v : Bool => [.im (eTup D.str a0), .im (eTup D.str a1), .im (eTup D.str a2)]) v))) (s0 := ()) rfl (fun _ _ => rfl) (fun x3 s2 => (s_wp (s_ifM (r_test (g := fun (v : Bool) => v) (r_op_MM (r_op_PP (p_var rfl) (p_var rfl) (oc rfl rfl (o_ixT D.str a1 x3))) (fun v4 => (r_op_PP (p_var rfl) (p_var rfl) (oc rfl rfl (o_ixT D.str a2 x3)))) fun v4 v5 => (ocV (ex := (fun z : Bool => (X.im (D.bl z)))) (v := (!decide (v4 = v5))) rfl rfl (o_neS v4 v5))) (fun _ => rfl)) (fun v6 => (s_ret (r_op_MM (r_tix_PM (w := fun (v7 : Str) => v7) (p_var rfl) (r_op_PP (p_var rfl) (p_var rfl) (oc rfl rfl (o_ixT D.str a1 x3))) (fun _ => rfl)) (fun v8 => (r_tix_PM (w := fun (v9 : Str) => v9) (p_var rfl) (r_op_PP (p_var rfl) (p_var rfl) (oc rfl rfl (o_ixT D.str a2 x3))) (fun _ => rfl))) fun v8 v10 => (ocV (ex := (fun z : Bool => (X.im (D.bl z)))) (v := (decide (v8 < v10))) rfl rfl rfl)) (fun _ => po_rt rfl rfl)))
 (fun v6 => (s_end (po_nx rfl)))))) (fun _ => rfl))) (fun s12 => (s_retP (p_op (p_cb (pa_cons (p_var rfl) pa_nil) rfl (c_lenT D.str a1)) (p_cb (pa_cons (p_var rfl) pa_nil) rfl (c_lenT D.str a2)) rfl rfl rfl) rfl)) (fun _ _ _ h => h))
def t__law_ordered (a0 : (List Str)) (a1 : (List ((List Str) × Int))) : Option ((List ((List Str) × Int))) := PR.o ((foldP (fun (x3 : ((List Str) × Int)) (s2 : (List (List Str))) => ((((PR.opt (pInB (eTup D.str x3.1) (eLst (eTup D.str) s2))).bind fun v5 => (if (!v5) = true then ((PR.opt (t__law_sum_of a1 x3.1)).bind fun v6 => (PR.ok (decide (v6 > 0)))) else (PR.ok false))).bind fun v8 => if v8 = true then (((PR.opt (lcP (fun (x10 : (List Str)) => (PR.opt (t__law_ahead a0 x10 x3.1)).o) (fun x10 => (some x10)) s2 0)).bind fun v12 => (PR.ok (v12.length : Int))).bind fun v13 => 
 ((PR.opt (insP s2 v13 x3.1)).bind fun v14 => (PR.ok v14))) else
 (PR.ok s2)).bind fun s4 : (List (List Str)) =>
 (PR.ok s4))) a1 []).bind fun s15 : (List (List Str)) =>
 (PR.opt (lcP (fun (x17 : (List Str)) => (some true)) (fun x17 => ((PR.opt (t__law_sum_of a1 x17)).bind fun v19 => PR.ok (x17, v19)).o) s15 0)))
theorem s__law_ordered_ii {XF : XIf} (a0 : (List Str)) (a1 : (List ((List Str) × Int))) : RV (d__law_ordered [.im (eTup D.str a0), .im (eLst (ePr (eTup D.str) D.int) a1)]) (fun v : (List ((List Str) × Int)) => (X.ow (oLst (ePr (eTup D.str) D.int) v))) (fun v : (List ((List Str) × Int)) => [.im (eTup D.str a0), .im (eLst (ePr (eTup D.str) D.int) a1)]) XF (PR.opt (t__law_ordered a0 a1)) := by
  unfold t__law_ordered
  refine f_mkN (N := 7) (n := 2) (ds := b__law_ordered) (ps := [.im (eTup D.str a0), .im (eLst (ePr (eTup D.str) D.int) a1)]) (ex := (fun v : (List ((List Str) × Int)) => (X.ow (oLst (ePr (eTup D.str) D.int) v)))) (pe := (fun v : (List ((List Str) × Int)) => [.im (eTup D.str a0), .im (eLst (ePr (eTup D.str) D.int) a1)])) ⟨rfl, Nat.le_of_ble_eq_true rfl, rfl⟩ rfl ?_
  exact (s_asgP (E1 := [.im (eTup D.str a0), .im (eLst (ePr (eTup D.str) D.int) a1), .ow false (oLst (eTup D.str) []), .no, .no, .no, .no]) (p_lst (ds := []) pa_nil rfl fit_0) rfl (s_join (J := fun (s15 : (List (List Str))) => [.im (eTup D.str a0), .im (eLst (ePr (eTup D.str) D.int) a1), .ow false (oLst (eTup D.str) s15), .no, .no, .no, .no]) (s_for_P (p_iseq (l := a1.map (ePr (eTup D.str) D.int)) (p_var rfl) rfl) (fore (e := (ePr (eTup D.str) D.int)) (L := fun (s2 : (List (List Str))) => [.im (eTup D.str a0), .im (eLst (ePr (eTup D.str) D.int) a1), .ow false (oLst (eTup D.str) s2), .no, .no, .no, .no]) (G := fun (x3 : ((List Str) × Int)) (s2 : (List (List Str))) => [.im (eTup D.str a0), .im (eLst (ePr (eTup D.str) D.int) a1), .ow false (oLst (eTup D.str) s2), .im (eTup D.str x3.1), .im (D.int x3.2), .no, .no]) (J := fun (s15 : (List (List Str))) => [.im (eTup D.str a0), .im (eLst (ePr (eTup D.str) D.int) a1), .ow false (oLst (eTup D.str) s15), .no, .no, .no, .no]) (s0 := []) rfl (fun _ _ => rfl) (fun x3 s2 => (s_wp (s_last (s_join (J := fun (s4 : (List (List Str))) => [.im (eTup D.str a0), .im (eLst (ePr (eTup D.str) D.int) a1), .ow false (oLst (eTup D.str) s4), .im (eTup D.str x3.1), .im (D.int x3.2), .no, .no]) (s_wp (s_ifM (r_tand_M (r_test (g := fun (v : Bool) => (!v)) (r_op_PP (p_var rfl) (p_sl rfl) (oc rfl rfl (o_notin (eTup D.str x3.1) (eLst (eTup D.str) s2)))) (fun _ => rfl)) (fun v5 => (r_test (g := fun (v : Bool) => v) (r_op_MP (r_call_P (pa_cons (p_var rfl) (pa_cons (p_var rfl) pa_nil)) (rv_callN (ps := [.im (eLst (ePr (eTup D.str) D.int) a1), .im (eTup D.str x3.1)]) (E1 := fun u => [.im (eTup D.str a0), .im (eLst (ePr (eTup D.str) D.int) a1), .ow false (oLst (eTup D.str) s2), .im (eTup D.str x3.1), .im (D.int x3.2), .no, .no]) rfl (of_decide_eq_true rfl) (s__law_sum_of_ii (XF := XFT) a1 x3.1) (fun _ => rfl))) (fun v6 => rfl) fun v6 => (ocV (ex := (fun z : Bool => (X.im (D.bl z)))) (v := (decide (v6 > 0))) rfl rfl rfl)) (fun _ => rfl))) (fun _ => rfl)) (fun v8 => (s_asg (E1 := fun (v13 : Int) => [.im (eTup D.str a0), .im (eLst (ePr (eTup D.str) D.int) a1), .ow false (oLst (eTup D.str) s2), .im (eTup D.str x3.1), .im (D.int x3.2), .im (D.int v13), .no]) (r_cb_M (ra_MP (xf := fun (v11 : (List (List Str))) => []) (r_lc_P (p_iseq (l := s2.map (eTup D.str)) (p_sl rfl) rfl) (lce (e := (eTup D.str)) (e' := (eTup D.str)) (B := [.im (eTup D.str a0), .im (eLst (ePr (eTup D.str) D.int) a1), .hid, .im (eTup D.str x3.1), .im (D.int x3.2), .no, .no]) (Bx := fun (x10 : (List Str)) => [.im (eTup D.str a0), .im (eLst (ePr (eTup D.str) D.int) a1), .hid, .im (eTup D.str x3.1), .im (D.int x3.2), .no, .im (eTup D.str x10)]) (XF := fun _ _ => True) rfl rfl (fun _ => rfl) (fun x10 => (rv_o (XI' := fun _ _ => True) (r_test (g := fun (v : Bool) => v) (r_call_P (pa_cons (p_var rfl) (pa_cons (p_var rfl) (pa_cons (p_var rfl) pa_nil))) (rv_callN (ps := [.im (eTup D.str a0), .im (eTup D.str x10), .im (eTup D.str x3.1)]) (E1 := fun u => [.im (eTup D.str a0), .im (eLst (ePr (eTup D.str) D.int) a1), .hid, .im (eTup D.str x3.1), .im (D.int x3.2), .no, .im (eTup D.str x10)]) rfl (of_decide_eq_true rfl) (s__law_ahead_iii (XF := XFT) a0 x10 x3.1) (fun _ => rfl))) (fun _ => rfl)))) (fun x10 => (rv_of (ex := fun y : (List Str) => (X.im (eTup D.str y))) (v := x10) (p_var rfl) rfl)) (fun _ => rfl) (fun _ => rfl) rfl)) (fun v11 => pa_nil)) fun v12 => (ccV (ex := (fun z : Int => (X.im (D.int z)))) (v := (v12.length : Int)) rfl (c_lenL (eTup D.str) v12))) (fun _ => rfl) fun v13 => (s_last (s_drop (r_mut_P (exd := (fun z => .non)) (oo := (fun z => (oLst (eTup D.str) z))) (E1 := fun z => [.im (eTup D.str a0), .im (eLst (ePr (eTup D.str) D.int) a1), .ow false (oLst (eTup D.str) z), .im (eTup D.str x3.1), .im (D.int x3.2), .im (D.int v13), .no]) rfl rfl (pa_cons (p_var rfl) (pa_cons (p_var rfl) pa_nil)) rfl (m_ins (eTup D.str) s2 v13 x3.1) (fun _ => rfl)) fun v14 => (s_end rfl)))))
 (fun v8 => (s_end rfl)))) fun s4 => (s_end rfl))))) (fun _ => rfl))) fun s15 => (s_ret1 (r_lc_P (p_iseq (l := s15.map (eTup D.str)) (p_sl rfl) rfl) (lce (e := (eTup D.str)) (e' := (ePr (eTup D.str) D.int)) (B := [.im (eTup D.str a0), .im (eLst (ePr (eTup D.str) D.int) a1), .hid, .no, .no, .no, .no]) (Bx := fun (x17 : (List Str)) => [.im (eTup D.str a0), .im (eLst (ePr (eTup D.str) D.int) a1), .hid, .im (eTup D.str x17), .no, .no, .no]) (XF := fun _ _ => True) rfl rfl (fun _ => rfl) (fun x17 => (rv_of (ex := fun b : Bool => b) (v := true) p_yes rfl)) (fun x17 => (rv_o (XI' := fun _ _ => True) (rv_map (f := fun (v19 : Int) => (x17, v19)) (ex := fun v : ((List Str) × Int) => (X.im (ePr (eTup D.str) D.int v))) (ee := fun _ => [.im (eTup D.str a0), .im (eLst (ePr (eTup D.str) D.int) a1), .hid, .im (eTup D.str x17), .no, .no, .no]) (r_tup (df := fun (v : Int) => [(eTup D.str x17), (D.int v)]) (ra_PM (p_var rfl) (ra_MP (xf := fun (v18 : Int) => []) (r_call_P (pa_cons (p_var rfl) (pa_cons (p_var rfl) pa_nil)) (rv_callN (ps := [.im (eLst (ePr (eTup D.str) D.int) a1), .im (eTup D.str x17)]) (E1 := fun u => [.im (eTup D.str a0), .im (eLst (ePr (eTup D.str) D.int) a1), .hid, .im (eTup D.str x17), .no, .no, .no]) rfl (of_decide_eq_true rfl) (s__law_sum_of_ii (XF := XFT) a1 x17) (fun _ => rfl))) (fun v18 => pa_nil))) (fun _ => rfl) (fun _ => fit_2)) (fun _ => rfl) (fun _ => rfl)))) (fun _ => rfl) (fun _ => rfl) rfl)) (fun _ => rfl))))
def t__law_roll_is (a0 : T_Roll) (a1 : (List Str)) (a2 : (List ((List Str) × Int))) : Option (Bool) := PR.o (if (!true) = true then (PR.ok false) else
 ((PR.opt (t__law_same 5 (eTup D.str a0.1) (eTup D.str a1))).bind fun v1 => (if v1 = true then ((PR.opt (t__law_ordered a1 a2)).bind fun v3 => (PR.opt (t__law_same 5 (eLst (ePr (eTup D.str) D.int) a0.2) (eLst (ePr (eTup D.str) D.int) v3)))) else (PR.ok false))))
theorem s__law_roll_is_iii {XF : XIf} (a0 : T_Roll) (a1 : (List Str)) (a2 : (List ((List Str) × Int))) : RV (d__law_roll_is [.im (e_Roll a0), .im (eTup D.str a1), .im (eLst (ePr (eTup D.str) D.int) a2)]) (fun v : Bool => (X.im (D.bl v))) (fun v : Bool => [.im (e_Roll a0), .im (eTup D.str a1), .im (eLst (ePr (eTup D.str) D.int) a2)]) XF (PR.opt (t__law_roll_is a0 a1 a2)) := by
  unfold t__law_roll_is
  refine f_mkN (N := 3) (n := 3) (ds := b__law_roll_is) (ps := [.im (e_Roll a0), .im (eTup D.str a1), .im (eLst (ePr (eTup D.str) D.int) a2)]) (ex := (fun v : Bool => (X.im (D.bl v)))) (pe := (fun v : Bool => [.im (e_Roll a0), .im (eTup D.str a1), .im (eLst (ePr (eTup D.str) D.int) a2)])) ⟨rfl, Nat.le_of_ble_eq_true rfl, rfl⟩ rfl ?_
  exact (s_cutIf (s_ifP (p_tnot (p_test (p_cb (pa_cons (p_var rfl) (pa_cons rfl pa_nil)) rfl (c_isiO (by simp))) rfl)) (s_cutRet (s_retP rfl rfl))
 (s_skip (s_ret1 (r_andV_M (g := fun (v : Bool) => v) (r_call_P (pa_cons (p_fld (p_var rfl) rfl (by simp) (lk_Roll_names a0)) (pa_cons (p_var rfl) pa_nil)) (rv_callN (ps := [.im (eTup D.str a0.1), .im (eTup D.str a1)]) (E1 := fun u => [.im (e_Roll a0), .im (eTup D.str a1), .im (eLst (ePr (eTup D.str) D.int) a2)]) rfl (of_decide_eq_true rfl) (s__law_same_ii (XF := XFT) 5 (eTup D.str a0.1) (eTup D.str a1)) (fun _ => rfl))) (fun _ => rfl) (fun v1 => (r_call_M (ra_PM (p_frz (p_cb (pa_cons (p_var rfl) pa_nil) rfl (c_listO (rw_Roll__rows a0))) rfl) (ra_MP (xf := fun (v2 : (List ((List Str) × Int))) => []) (r_frz (df := fun (v : (List ((List Str) × Int))) => (eLst (ePr (eTup D.str) D.int) v)) (r_call_P (pa_cons (p_var rfl) (pa_cons (p_var rfl) pa_nil)) (rv_callN (ps := [.im (eTup D.str a1), .im (eLst (ePr (eTup D.str) D.int) a2)]) (E1 := fun u => [.im (e_Roll a0), .im (eTup D.str a1), .im (eLst (ePr (eTup D.str) D.int) a2)]) rfl (of_decide_eq_true rfl) (s__law_ordered_ii (XF := XFT) a1 a2) (fun _ => rfl))) (fun _ => rfl)) (fun v2 => pa_nil))) fun v3 => (rv_callN (ps := [.im (eLst (ePr (eTup D.str) D.int) a0.2), .im (eLst (ePr (eTup D.str) D.int) v3)]) (E1 := fun u => [.im (e_Roll a0), .im (eTup D.str a1), .im (eLst (ePr (eTup D.str) D.int) a2)]) rfl (of_decide_eq_true rfl) (s__law_same_ii (XF := XFT) 5 (eLst (ePr (eTup D.str) D.int) a0.2) (eLst (ePr (eTup D.str) D.int) v3)) (fun _ => rfl)))) (fun _ => rfl)) (fun _ => rfl)))))
def t_is_name (a0 : Str) : Option (Bool) := PR.o (((PR.opt (lenS a0)).bind fun v1 => PR.ok (decide (1 ≤ v1) && decide (v1 ≤ 12))).bind fun v2 => if (!v2) = true then (PR.ok false) else
 ((PR.opt (lcP (fun (x4 : Str) => (some true)) (fun x4 => (PR.opt (pInB (D.str x4) (D.str ("abcdefghijklmnopqrstuvwxyz" : Str)))).o) (sgns a0) 0)).bind fun v7 => (PR.ok (v7.all id))))
theorem s_is_name_i {XF : XIf} (a0 : Str) : RV (d_is_name [.im (D.str a0)]) (fun v : Bool => (X.im (D.bl v))) (fun v : Bool => [.im (D.str a0)]) XF (PR.opt (t_is_name a0)) := by
  unfold t_is_name
  refine f_mkN (N := 2) (n := 1) (ds := b_is_name) (ps := [.im (D.str a0)]) (ex := (fun v : Bool => (X.im (D.bl v)))) (pe := (fun v : Bool => [.im (D.str a0)])) ⟨rfl, Nat.le_of_ble_eq_true rfl, rfl⟩ rfl ?_
  exact (s_cutIf (s_ifM (r_tnot (r_test (g := fun (v : Bool) => v) (r_chain_PMP (p := fun i j => decide (i ≤ j)) (q := fun i j => decide (i ≤ j)) (g := fun (v : Int) => v) rfl (r_cb_P (pa_cons (p_var rfl) pa_nil) (cc rfl (c_lenS a0))) rfl rfl (fun _ => rfl) rfl) (fun _ => rfl))) (fun v2 => (s_cutRet (s_retP rfl rfl)))
 (fun v2 => (s_skip (s_ret1 (r_cb_M (ra_MP (xf := fun (v6 : (List Bool)) => []) (r_lc_P (p_iseq (l := (sgns a0).map D.str) (p_var rfl) (ofX_str a0)) (lce (e := D.str) (e' := D.bl) (B := [.im (D.str a0), .no]) (Bx := fun (x4 : Str) => [.im (D.str a0), .im (D.str x4)]) (XF := fun _ _ => True) rfl rfl (fun _ => rfl) (fun x4 => (rv_of (ex := fun b : Bool => b) (v := true) p_yes rfl)) (fun x4 => (rv_o (XI' := fun _ _ => True) (r_op_PP (p_var rfl) rfl (oc rfl rfl (o_in (D.str x4) (D.str ("abcdefghijklmnopqrstuvwxyz" : Str))))))) (fun _ => rfl) (fun _ => rfl) rfl)) (fun v6 => pa_nil)) fun v7 => (ccV (ex := (fun z : Bool => (X.im (D.bl z)))) (v := (v7.all id)) rfl (c_all v7))) (fun _ => rfl))))))
def t_checked_names (a0 : (List Str)) : Option ((List Str)) := PR.o (if (!(decide (1 ≤ (a0.length : Int)) && decide ((a0.length : Int) ≤ 5))) = true then PR.bad else
 ((foldP (fun (x3 : (Int × Str)) (s2 : Unit) => ((PR.opt (t_is_name x3.2)).bind fun v4 => if (!v4) = true then PR.bad else
 (if (decide (x3.2 ∈ (Dn.cutD a0 none (some x3.1)))) = true then PR.bad else
 (PR.ok ())))) (en 0 a0) ()).bind fun s5 : Unit =>
 (PR.ok a0)))
theorem s_checked_names_i {XF : XIf} (a0 : (List Str)) : RV (d_checked_names [.im (eTup D.str a0)]) (fun v : (List Str) => (X.im (eTup D.str v))) (fun v : (List Str) => [.im (eTup D.str a0)]) XF (PR.opt (t_checked_names a0)) := by
  unfold t_checked_names
  refine f_mkN (N := 3) (n := 1) (ds := b_checked_names) (ps := [.im (eTup D.str a0)]) (ex := (fun v : (List Str) => (X.im (eTup D.str v)))) (pe := (fun v : (List Str) => [.im (eTup D.str a0)])) ⟨rfl, Nat.le_of_ble_eq_true rfl, rfl⟩ rfl ?_
  exact (s_cutIf (s_ifP (p_tnot (p_test (p_chain (p := fun i j => decide (i ≤ j)) (q := fun i j => decide (i ≤ j)) rfl (p_cb (pa_cons (p_var rfl) pa_nil) rfl (c_lenT D.str a0)) rfl rfl rfl rfl) rfl)) trivial
 (s_skip (s_join (J := fun (s5 : Unit) => [.im (eTup D.str a0), .no, .no]) (s_for_P (p_ienum (e := D.str) (l := a0) (p_var rfl) rfl rfl) (fore (e := (eEn D.str)) (L := fun (s2 : Unit) => [.im (eTup D.str a0), .no, .no]) (G := fun (x3 : (Int × Str)) (s2 : Unit) => [.im (eTup D.str a0), .im (D.int x3.1), .im (D.str x3.2)]) (J := fun (s5 : Unit) => [.im (eTup D.str a0), .no, .no]) (s0 := ()) rfl (fun _ _ => rfl) (fun x3 s2 => (s_wp (s_cutIf (s_ifM (r_tnot (r_test (g := fun (v : Bool) => v) (r_call_P (pa_cons (p_var rfl) pa_nil) (rv_callN (ps := [.im (D.str x3.2)]) (E1 := fun u => [.im (eTup D.str a0), .im (D.int x3.1), .im (D.str x3.2)]) rfl (of_decide_eq_true rfl) (s_is_name_i (XF := XFT) x3.2) (fun _ => rfl))) (fun _ => rfl))) (fun v4 => trivial)
 (fun v4 => (s_skip (s_ifP (p_test (p_op (p_var rfl) (p_sl3 (p_var rfl) p_none (p_some (p_var rfl) rfl) rfl (o_slT D.str a0 none (some x3.1))) rfl rfl (o_inST x3.2 (Dn.cutD a0 none (some x3.1)))) rfl) trivial
 (s_end rfl)))))))) (fun _ => rfl))) fun s5 => (s_retP (p_var rfl) rfl)))))
def t_checked_ballot (a0 : (List Str)) (a1 : (List Str)) : Option ((List Str)) := PR.o ((foldP (fun (x3 : (Int × Str)) (s2 : Unit) => (if (!decide (x3.2 ∈ a0)) = true then PR.bad else
 (if (decide (x3.2 ∈ (Dn.cutD a1 none (some x3.1)))) = true then PR.bad else
 (PR.ok ())))) (en 0 a1) ()).bind fun s4 : Unit =>
 (PR.ok a1))
theorem s_checked_ballot_ii {XF : XIf} (a0 : (List Str)) (a1 : (List Str)) : RV (d_checked_ballot [.im (eTup D.str a0), .im (eTup D.str a1)]) (fun v : (List Str) => (X.im (eTup D.str v))) (fun v : (List Str) => [.im (eTup D.str a0), .im (eTup D.str a1)]) XF (PR.opt (t_checked_ballot a0 a1)) := by
  unfold t_checked_ballot
  refine f_mkN (N := 4) (n := 2) (ds := b_checked_ballot) (ps := [.im (eTup D.str a0), .im (eTup D.str a1)]) (ex := (fun v : (List Str) => (X.im (eTup D.str v)))) (pe := (fun v : (List Str) => [.im (eTup D.str a0), .im (eTup D.str a1)])) ⟨rfl, Nat.le_of_ble_eq_true rfl, rfl⟩ rfl ?_
  exact (s_join (J := fun (s4 : Unit) => [.im (eTup D.str a0), .im (eTup D.str a1), .no, .no]) (s_for_P (p_ienum (e := D.str) (l := a1) (p_var rfl) rfl rfl) (fore (e := (eEn D.str)) (L := fun (s2 : Unit) => [.im (eTup D.str a0), .im (eTup D.str a1), .no, .no]) (G := fun (x3 : (Int × Str)) (s2 : Unit) => [.im (eTup D.str a0), .im (eTup D.str a1), .im (D.int x3.1), .im (D.str x3.2)]) (J := fun (s4 : Unit) => [.im (eTup D.str a0), .im (eTup D.str a1), .no, .no]) (s0 := ()) rfl (fun _ _ => rfl) (fun x3 s2 => (s_wp (s_cutIf (s_ifP (p_test (p_op (p_var rfl) (p_var rfl) rfl rfl (o_ninST x3.2 a0)) rfl) trivial
 (s_skip (s_ifP (p_test (p_op (p_var rfl) (p_sl3 (p_var rfl) p_none (p_some (p_var rfl) rfl) rfl (o_slT D.str a1 none (some x3.1))) rfl rfl (o_inST x3.2 (Dn.cutD a1 none (some x3.1)))) rfl) trivial
 (s_end rfl))))))) (fun _ => rfl))) fun s4 => (s_retP (p_var rfl) rfl))
def t_sorted_rows (a0 : (List Str)) (a1 : (List ((List Str) × Int))) : Option ((List ((List Str) × Int))) := PR.o (((PR.opt (lcP (fun (x2 : (List Str)) => ((PR.opt (getA a1 x2)).bind fun v3 => (PR.ok (decide (v3 > 0)))).o) (fun x2 => ((PR.opt (lcP (fun (x5 : Str) => (some true)) (fun x5 => (PR.opt (tixP a0 x5)).o) x2 0)).bind fun v8 => (PR.ok v8)).o) (a1.map Prod.fst) 0)).bind fun v11 => (PR.opt (sortP (eTup D.int) v11))).bind fun v12 => 
 ((PR.opt (lcP (fun (x14 : (List Int)) => (some true)) (fun x14 => ((PR.opt (lcP (fun (x16 : Int) => (some true)) (fun x16 => (PR.opt (atI a0 x16)).o) x14 0)).bind fun v19 => (PR.ok v19)).o) v12 0)).bind fun v21 => 
 ((PR.opt (lcP (fun (x23 : (List Str)) => (some true)) (fun x23 => ((PR.opt (getA a1 x23)).bind fun v25 => PR.ok (x23, v25)).o) v21 0)).bind fun v27 => (PR.ok v27))))
theorem s_sorted_rows_ii {XF : XIf} (a0 : (List Str)) (a1 : (List ((List Str) × Int))) : RV (d_sorted_rows [.im (eTup D.str a0), .im (eDt kStrs D.int a1)]) (fun v : (List ((List Str) × Int)) => (X.im (eTup (ePr (eTup D.str) D.int) v))) (fun v : (List ((List Str) × Int)) => [.im (eTup D.str a0), .im (eDt kStrs D.int a1)]) XF (PR.opt (t_sorted_rows a0 a1)) := by
  unfold t_sorted_rows
  refine f_mkN (N := 8) (n := 2) (ds := b_sorted_rows) (ps := [.im (eTup D.str a0), .im (eDt kStrs D.int a1)]) (ex := (fun v : (List ((List Str) × Int)) => (X.im (eTup (ePr (eTup D.str) D.int) v)))) (pe := (fun v : (List ((List Str) × Int)) => [.im (eTup D.str a0), .im (eDt kStrs D.int a1)])) ⟨rfl, Nat.le_of_ble_eq_true rfl, rfl⟩ rfl ?_
  exact (s_asg (E1 := fun (v12 : (List (List Int))) => [.im (eTup D.str a0), .im (eDt kStrs D.int a1), .im (eLst (eTup D.int) v12), .no, .no, .no, .no, .no]) (r_frz (df := fun (v : (List (List Int))) => (eLst (eTup D.int) v)) (r_cb_M (ra_MP (xf := fun (v10 : (List (List Int))) => []) (r_lc_P (p_iks (l := (a1.map Prod.fst).map (eTup D.str)) (p_var rfl) (ks_dt kStrs D.int a1)) (lce (e := (eTup D.str)) (e' := (eTup D.int)) (B := [.im (eTup D.str a0), .im (eDt kStrs D.int a1), .no, .no, .no, .no, .no, .no]) (Bx := fun (x2 : (List Str)) => [.im (eTup D.str a0), .im (eDt kStrs D.int a1), .no, .no, .no, .im (eTup D.str x2), .no, .no]) (XF := fun _ _ => True) rfl rfl (fun _ => rfl) (fun x2 => (rv_o (XI' := fun _ _ => True) (r_test (g := fun (v : Bool) => v) (r_op_MP (r_op_PP (p_var rfl) (p_var rfl) (oc rfl rfl (o_itDt kStrs D.int a1 x2))) (fun v3 => rfl) fun v3 => (ocV (ex := (fun z : Bool => (X.im (D.bl z)))) (v := (decide (v3 > 0))) rfl rfl rfl)) (fun _ => rfl)))) (fun x2 => (rv_o (XI' := fun _ _ => True) (r_cb_M (ra_MP (xf := fun (v7 : (List Int)) => []) (r_lc_P (p_iseq (l := x2.map D.str) (p_var rfl) rfl) (lce (e := D.str) (e' := D.int) (B := [.im (eTup D.str a0), .im (eDt kStrs D.int a1), .no, .no, .no, .im (eTup D.str x2), .no, .no]) (Bx := fun (x5 : Str) => [.im (eTup D.str a0), .im (eDt kStrs D.int a1), .no, .no, .no, .im (eTup D.str x2), .no, .im (D.str x5)]) (XF := fun _ _ => True) rfl rfl (fun _ => rfl) (fun x5 => (rv_of (ex := fun b : Bool => b) (v := true) p_yes rfl)) (fun x5 => (rv_o (XI' := fun _ _ => True) (r_tix_PP (p_var rfl) (p_var rfl)))) (fun _ => rfl) (fun _ => rfl) rfl)) (fun v7 => pa_nil)) fun v8 => (ccV (ex := (fun z : (List Int) => (X.im (eTup D.int z)))) (v := v8) rfl (c_tupL D.int v8))))) (fun _ => rfl) (fun _ => rfl) rfl)) (fun v10 => pa_nil)) fun v11 => (cc rfl (c_sortL (eTup D.int) v11))) (fun _ => rfl)) (fun _ => rfl) fun v12 => (s_asg (E1 := fun (v21 : (List (List Str))) => [.im (eTup D.str a0), .im (eDt kStrs D.int a1), .im (eLst (eTup D.int) v12), .im (eLst (eTup D.str) v21), .no, .no, .no, .no]) (r_frz (df := fun (v : (List (List Str))) => (eLst (eTup D.str) v)) (r_lc_P (p_iseq (l := v12.map (eTup D.int)) (p_var rfl) rfl) (lce (e := (eTup D.int)) (e' := (eTup D.str)) (B := [.im (eTup D.str a0), .im (eDt kStrs D.int a1), .im (eLst (eTup D.int) v12), .no, .no, .no, .no, .no]) (Bx := fun (x14 : (List Int)) => [.im (eTup D.str a0), .im (eDt kStrs D.int a1), .im (eLst (eTup D.int) v12), .no, .im (eTup D.int x14), .no, .no, .no]) (XF := fun _ _ => True) rfl rfl (fun _ => rfl) (fun x14 => (rv_of (ex := fun b : Bool => b) (v := true) p_yes rfl)) (fun x14 => (rv_o (XI' := fun _ _ => True) (r_cb_M (ra_MP (xf := fun (v18 : (List Str)) => []) (r_lc_P (p_iseq (l := x14.map D.int) (p_var rfl) rfl) (lce (e := D.int) (e' := D.str) (B := [.im (eTup D.str a0), .im (eDt kStrs D.int a1), .im (eLst (eTup D.int) v12), .no, .im (eTup D.int x14), .no, .no, .no]) (Bx := fun (x16 : Int) => [.im (eTup D.str a0), .im (eDt kStrs D.int a1), .im (eLst (eTup D.int) v12), .no, .im (eTup D.int x14), .no, .im (D.int x16), .no]) (XF := fun _ _ => True) rfl rfl (fun _ => rfl) (fun x16 => (rv_of (ex := fun b : Bool => b) (v := true) p_yes rfl)) (fun x16 => (rv_o (XI' := fun _ _ => True) (r_op_PP (p_var rfl) (p_var rfl) (oc rfl rfl (o_ixT D.str a0 x16))))) (fun _ => rfl) (fun _ => rfl) rfl)) (fun v18 => pa_nil)) fun v19 => (ccV (ex := (fun z : (List Str) => (X.im (eTup D.str z)))) (v := v19) rfl (c_tupL D.str v19))))) (fun _ => rfl) (fun _ => rfl) rfl)) (fun _ => rfl)) (fun _ => rfl) fun v21 => (s_ret1 (r_cb_M (ra_MP (xf := fun (v26 : (List ((List Str) × Int))) => []) (r_lc_P (p_iseq (l := v21.map (eTup D.str)) (p_var rfl) rfl) (lce (e := (eTup D.str)) (e' := (ePr (eTup D.str) D.int)) (B := [.im (eTup D.str a0), .im (eDt kStrs D.int a1), .im (eLst (eTup D.int) v12), .im (eLst (eTup D.str) v21), .no, .no, .no, .no]) (Bx := fun (x23 : (List Str)) => [.im (eTup D.str a0), .im (eDt kStrs D.int a1), .im (eLst (eTup D.int) v12), .im (eLst (eTup D.str) v21), .no, .im (eTup D.str x23), .no, .no]) (XF := fun _ _ => True) rfl rfl (fun _ => rfl) (fun x23 => (rv_of (ex := fun b : Bool => b) (v := true) p_yes rfl)) (fun x23 => (rv_o (XI' := fun _ _ => True) (rv_map (f := fun (v25 : Int) => (x23, v25)) (ex := fun v : ((List Str) × Int) => (X.im (ePr (eTup D.str) D.int v))) (ee := fun _ => [.im (eTup D.str a0), .im (eDt kStrs D.int a1), .im (eLst (eTup D.int) v12), .im (eLst (eTup D.str) v21), .no, .im (eTup D.str x23), .no, .no]) (r_tup (df := fun (v : Int) => [(eTup D.str x23), (D.int v)]) (ra_PM (p_var rfl) (ra_MP (xf := fun (v24 : Int) => []) (r_op_PP (p_var rfl) (p_var rfl) (oc rfl rfl (o_itDt kStrs D.int a1 x23))) (fun v24 => pa_nil))) (fun _ => rfl) (fun _ => fit_2)) (fun _ => rfl) (fun _ => rfl)))) (fun _ => rfl) (fun _ => rfl) rfl)) (fun v26 => pa_nil)) fun v27 => (ccV (ex := (fun z : (List ((List Str) × Int)) => (X.im (eTup (ePr (eTup D.str) D.int) z)))) (v := v27) rfl (c_tupL (ePr (eTup D.str) D.int) v27))) (fun _ => rfl))))
def t_Roll___init__ (a1 : (List Str)) (a2 : (List ((List Str) × Int))) (a3 : (Option Int)) : Option (T_Roll) := PR.o ((PR.opt (t_checked_names a1)).bind fun v1 => 
 ((foldP (fun (x4 : ((List Str) × Int)) (s3 : (List ((List Str) × Int))) => ((PR.opt (t_checked_ballot v1 x4.1)).bind fun v5 => ((if (decide (x4.2 < 0)) = true then (PR.ok true) else (if (!a3.isNone) = true then ((PR.opt a3).bind fun v6 => (PR.ok (decide (x4.2 > v6)))) else (PR.ok false))).bind fun v9 => if v9 = true then PR.bad else
 ((PR.ok (((getA s3 x4.1).getD 0) + x4.2)).bind fun v10 => ((PR.opt (putP s3 x4.1 v10)).bind fun l11 => (PR.ok l11)))))) a2 []).bind fun s12 : (List ((List Str) × Int)) =>
 ((PR.opt (t_sorted_rows v1 s12)).bind fun v13 => 
 (PR.ok (v1, v13)))))
theorem s_Roll___init___xiii {XF : XIf} (a1 : (List Str)) (a2 : (List ((List Str) × Int))) (a3 : (Option Int)) : RV (d_Roll___init__ [.ow true (.ob "Roll" []), .im (eTup D.str a1), .im (eLst (ePr (eTup D.str) D.int) a2), .im (eOpt D.int a3)]) (fun _ => .im .non) (fun v : T_Roll => [.ow true (o_Roll v), .im (eTup D.str a1), .im (eLst (ePr (eTup D.str) D.int) a2), .im (eOpt D.int a3)]) XF (PR.opt (t_Roll___init__ a1 a2 a3)) := by
  unfold t_Roll___init__
  refine f_mkN (N := 7) (n := 4) (ds := b_Roll___init__) (ps := [.ow true (.ob "Roll" []), .im (eTup D.str a1), .im (eLst (ePr (eTup D.str) D.int) a2), .im (eOpt D.int a3)]) (ex := (fun _ => .im .non)) (pe := (fun v : T_Roll => [.ow true (o_Roll v), .im (eTup D.str a1), .im (eLst (ePr (eTup D.str) D.int) a2), .im (eOpt D.int a3)])) ⟨rfl, Nat.le_of_ble_eq_true rfl, rfl⟩ rfl ?_
  exact (s_setF (df := fun v1 => (eTup D.str v1)) (fs := fun v1 => []) (fs' := fun v1 => [("names", (eTup D.str v1))]) (E1 := fun v1 => [.ow true (.ob "Roll" [("names", (eTup D.str v1))]), .im (eTup D.str a1), .im (eLst (ePr (eTup D.str) D.int) a2), .im (eOpt D.int a3), .no, .no, .no]) (r_call_P (pa_cons (p_var rfl) pa_nil) (rv_callN (ps := [.im (eTup D.str a1)]) (E1 := fun u => [.ow true (.ob "Roll" []), .im (eTup D.str a1), .im (eLst (ePr (eTup D.str) D.int) a2), .im (eOpt D.int a3), .no, .no, .no]) rfl (of_decide_eq_true rfl) (s_checked_names_i (XF := XFT) a1) (fun _ => rfl))) (fun _ => rfl) (fun _ => rfl) (by simp) (fun _ => rfl) (fun _ => by kernel_rfl) (fun _ => rfl) fun v1 => (s_asgP (E1 := [.ow true (.ob "Roll" [("names", (eTup D.str v1))]), .im (eTup D.str a1), .im (eLst (ePr (eTup D.str) D.int) a2), .im (eOpt D.int a3), .ow false (oDt kStrs D.int []), .no, .no]) (p_newT kStrs D.int) rfl (s_join (J := fun (s12 : (List ((List Str) × Int))) => [.ow true (.ob "Roll" [("names", (eTup D.str v1))]), .im (eTup D.str a1), .im (eLst (ePr (eTup D.str) D.int) a2), .im (eOpt D.int a3), .ow false (oDt kStrs D.int s12), .no, .no]) (s_for_P (p_iseq (l := a2.map (ePr (eTup D.str) D.int)) (p_var rfl) rfl) (fore (e := (ePr (eTup D.str) D.int)) (L := fun (s3 : (List ((List Str) × Int))) => [.ow true (.ob "Roll" [("names", (eTup D.str v1))]), .im (eTup D.str a1), .im (eLst (ePr (eTup D.str) D.int) a2), .im (eOpt D.int a3), .ow false (oDt kStrs D.int s3), .no, .no]) (G := fun (x4 : ((List Str) × Int)) (s3 : (List ((List Str) × Int))) => [.ow true (.ob "Roll" [("names", (eTup D.str v1))]), .im (eTup D.str a1), .im (eLst (ePr (eTup D.str) D.int) a2), .im (eOpt D.int a3), .ow false (oDt kStrs D.int s3), .im (eTup D.str x4.1), .im (D.int x4.2)]) (J := fun (s12 : (List ((List Str) × Int))) => [.ow true (.ob "Roll" [("names", (eTup D.str v1))]), .im (eTup D.str a1), .im (eLst (ePr (eTup D.str) D.int) a2), .im (eOpt D.int a3), .ow false (oDt kStrs D.int s12), .no, .no]) (s0 := []) rfl (fun _ _ => rfl) (fun x4 s3 => (s_wp (s_drop (r_call_P (pa_cons (p_fld (p_sl rfl) rfl (by simp) (by kernel_rfl)) (pa_cons (p_var rfl) pa_nil)) (rv_callN (ps := [.im (eTup D.str v1), .im (eTup D.str x4.1)]) (E1 := fun u => [.ow true (.ob "Roll" [("names", (eTup D.str v1))]), .im (eTup D.str a1), .im (eLst (ePr (eTup D.str) D.int) a2), .im (eOpt D.int a3), .ow false (oDt kStrs D.int s3), .im (eTup D.str x4.1), .im (D.int x4.2)]) rfl (of_decide_eq_true rfl) (s_checked_ballot_ii (XF := XFT) v1 x4.1) (fun _ => rfl))) fun v5 => (s_cutIf (s_ifM (r_tor_P (p_test (p_op (p_var rfl) rfl rfl rfl rfl) rfl) (r_tand_P (p_test (p_op (p_var rfl) rfl rfl rfl (o_notN D.int a3)) rfl) (r_test (g := fun (v : Bool) => v) (r_op_PM (p_var rfl) (r_get (e := D.int) (a := a3) (p_var rfl)) fun v6 => (ocV (ex := (fun z : Bool => (X.im (D.bl z)))) (v := (decide (x4.2 > v6))) rfl rfl rfl)) (fun _ => rfl)) rfl) rfl) (fun v9 => trivial)
 (fun v9 => (s_skip (s_last (s_setDT (kt := kStrs) (e := D.int) (m := s3) (k := fun v10 => x4.1) (v := fun v10 => v10) (zf := fun v10 => (X.im (eTup D.str x4.1))) (E1 := fun v10 l11 => [.ow true (.ob "Roll" [("names", (eTup D.str v1))]), .im (eTup D.str a1), .im (eLst (ePr (eTup D.str) D.int) a2), .im (eOpt D.int a3), .ow false (oDt kStrs D.int l11), .im (eTup D.str x4.1), .im (D.int x4.2)]) rfl (rv_of (ex := fun v : Int => (X.im (D.int v))) (v := (((getA s3 x4.1).getD 0) + x4.2)) (p_op (p_getDt (k := kStrs) (e := D.int) (m := s3) (q := x4.1) (v := 0) (p_sl rfl) rfl (p_var rfl) rfl rfl) (p_var rfl) rfl rfl rfl) rfl) (fun v10 => (p_var rfl)) (fun _ => rfl) (fun _ => rfl) (fun _ _ => rfl) fun v10 l11 => (s_end rfl)))))))))) (fun _ => rfl))) fun s12 => (s_last (s_fz (E1 := [.ow true (.ob "Roll" [("names", (eTup D.str v1))]), .im (eTup D.str a1), .im (eLst (ePr (eTup D.str) D.int) a2), .im (eOpt D.int a3), .im (eDt kStrs D.int s12), .no, .no]) rfl (s_setF (df := fun v13 => (eTup (ePr (eTup D.str) D.int) v13)) (fs := fun v13 => [("names", (eTup D.str v1))]) (fs' := fun v13 => [("names", (eTup D.str v1)), ("_rows", (eTup (ePr (eTup D.str) D.int) v13))]) (E1 := fun v13 => [.ow true (.ob "Roll" [("names", (eTup D.str v1)), ("_rows", (eTup (ePr (eTup D.str) D.int) v13))]), .im (eTup D.str a1), .im (eLst (ePr (eTup D.str) D.int) a2), .im (eOpt D.int a3), .im (eDt kStrs D.int s12), .no, .no]) (r_call_P (pa_cons (p_fld (p_sl rfl) rfl (by simp) (by kernel_rfl)) (pa_cons (p_var rfl) pa_nil)) (rv_callN (ps := [.im (eTup D.str v1), .im (eDt kStrs D.int s12)]) (E1 := fun u => [.ow true (.ob "Roll" [("names", (eTup D.str v1))]), .im (eTup D.str a1), .im (eLst (ePr (eTup D.str) D.int) a2), .im (eOpt D.int a3), .im (eDt kStrs D.int s12), .no, .no]) rfl (of_decide_eq_true rfl) (s_sorted_rows_ii (XF := XFT) v1 s12) (fun _ => rfl))) (fun _ => rfl) (fun _ => rfl) (by simp) (fun _ => rfl) (fun _ => by kernel_rfl) (fun _ => rfl) fun v13 => (s_end rfl)))))))
def t_is_number (a0 : Str) : Option (Bool) := PR.o ((if (decide (a0 = ("" : Str))) = true then (PR.ok true) else (((PR.opt (lcP (fun (x2 : Str) => (some true)) (fun x2 => (PR.opt (pInB (D.str x2) (D.str ("0123456789" : Str)))).o) (sgns a0) 0)).bind fun v5 => (PR.ok (v5.all id))).bind fun v6 => PR.ok (!v6))).bind fun v7 => if v7 = true then (PR.ok false) else
 (if (decide (a0 = ("0" : Str))) = true then (PR.ok true) else ((PR.opt (ixS a0 0)).bind fun v8 => (PR.ok (!decide (v8 = ("0" : Str)))))))
theorem s_is_number_i {XF : XIf} (a0 : Str) : RV (d_is_number [.im (D.str a0)]) (fun v : Bool => (X.im (D.bl v))) (fun v : Bool => [.im (D.str a0)]) XF (PR.opt (t_is_number a0)) := by
  unfold t_is_number
  refine f_mkN (N := 2) (n := 1) (ds := b_is_number) (ps := [.im (D.str a0)]) (ex := (fun v : Bool => (X.im (D.bl v)))) (pe := (fun v : Bool => [.im (D.str a0)])) ⟨rfl, Nat.le_of_ble_eq_true rfl, rfl⟩ rfl ?_
  exact (s_cutIf (s_ifM (r_tor_P (p_test (p_op (p_var rfl) rfl rfl rfl (o_eqS a0 ("" : Str))) rfl) (rv_map (f := fun (v6 : Bool) => (!v6)) (ex := fun v : Bool => v) (ee := fun _ => [.im (D.str a0), .no]) (r_tnot (r_test (g := fun (v : Bool) => v) (r_cb_M (ra_MP (xf := fun (v4 : (List Bool)) => []) (r_lc_P (p_iseq (l := (sgns a0).map D.str) (p_var rfl) (ofX_str a0)) (lce (e := D.str) (e' := D.bl) (B := [.im (D.str a0), .no]) (Bx := fun (x2 : Str) => [.im (D.str a0), .im (D.str x2)]) (XF := fun _ _ => True) rfl rfl (fun _ => rfl) (fun x2 => (rv_of (ex := fun b : Bool => b) (v := true) p_yes rfl)) (fun x2 => (rv_o (XI' := fun _ _ => True) (r_op_PP (p_var rfl) rfl (oc rfl rfl (o_in (D.str x2) (D.str ("0123456789" : Str))))))) (fun _ => rfl) (fun _ => rfl) rfl)) (fun v4 => pa_nil)) fun v5 => (ccV (ex := (fun z : Bool => (X.im (D.bl z)))) (v := (v5.all id)) rfl (c_all v5))) (fun _ => rfl))) (fun _ => rfl) (fun _ => rfl)) rfl) (fun v7 => (s_cutRet (s_retP rfl rfl)))
 (fun v7 => (s_skip (s_ret1 (r_orV_P (p_op (p_var rfl) rfl rfl rfl (o_eqS a0 ("0" : Str))) rfl (r_op_MP (r_op_PP (p_var rfl) rfl (oc rfl rfl (o_ixS a0 0))) (fun v8 => rfl) fun v8 => (ocV (ex := (fun z : Bool => (X.im (D.bl z)))) (v := (!decide (v8 = ("0" : Str)))) rfl rfl (o_neS v8 ("0" : Str)))) rfl) (fun _ => rfl))))))
def t_is_ballot_text (a0 : Str) : Option (Bool) := PR.o (if (decide (a0 = ("-" : Str))) = true then (PR.ok true) else (((PR.opt (splitP a0 (">" : Str))).bind fun v1 => (PR.opt (lcP (fun (x2 : Str) => (some true)) (fun x2 => (PR.opt (t_is_name x2)).o) v1 0))).bind fun v5 => (PR.ok (v5.all id))))
theorem s_is_ballot_text_i {XF : XIf} (a0 : Str) : RV (d_is_ballot_text [.im (D.str a0)]) (fun v : Bool => (X.im (D.bl v))) (fun v : Bool => [.im (D.str a0)]) XF (PR.opt (t_is_ballot_text a0)) := by
  unfold t_is_ballot_text
  refine f_mkN (N := 2) (n := 1) (ds := b_is_ballot_text) (ps := [.im (D.str a0)]) (ex := (fun v : Bool => (X.im (D.bl v)))) (pe := (fun v : Bool => [.im (D.str a0)])) ⟨rfl, Nat.le_of_ble_eq_true rfl, rfl⟩ rfl ?_
  exact (s_ret1 (r_orV_P (p_op (p_var rfl) rfl rfl rfl (o_eqS a0 ("-" : Str))) rfl (r_cb_M (ra_MP (xf := fun (v4 : (List Bool)) => []) (r_lc_M (l := fun (v1 : (List Str)) => v1.map D.str) (r_iseq (l := fun (v : (List Str)) => v.map D.str) (r_m1_PP (p_var rfl) rfl rfl (oc rfl rfl (o_split a0 (">" : Str)))) (fun v => rfl)) fun v1 => (lce (e := D.str) (e' := D.bl) (B := [.im (D.str a0), .no]) (Bx := fun (x2 : Str) => [.im (D.str a0), .im (D.str x2)]) (XF := fun _ _ => True) rfl rfl (fun _ => rfl) (fun x2 => (rv_of (ex := fun b : Bool => b) (v := true) p_yes rfl)) (fun x2 => (rv_o (XI' := fun _ _ => True) (r_call_P (pa_cons (p_var rfl) pa_nil) (rv_callN (ps := [.im (D.str x2)]) (E1 := fun u => [.im (D.str a0), .im (D.str x2)]) rfl (of_decide_eq_true rfl) (s_is_name_i (XF := XFT) x2) (fun _ => rfl))))) (fun _ => rfl) (fun _ => rfl) rfl)) (fun v4 => pa_nil)) fun v5 => (ccV (ex := (fun z : Bool => (X.im (D.bl z)))) (v := (v5.all id)) rfl (c_all v5))) rfl) (fun _ => rfl))
def t_ballot_of (a0 : Str) : Option ((List Str)) := PR.o (if (decide (a0 = ("-" : Str))) = true then (PR.ok []) else
 ((PR.opt (splitP a0 (">" : Str))).bind fun v2 => (PR.ok v2)))
theorem s_ballot_of_i {XF : XIf} (a0 : Str) : RV (d_ballot_of [.im (D.str a0)]) (fun v : (List Str) => (X.im (eTup D.str v))) (fun v : (List Str) => [.im (D.str a0)]) XF (PR.opt (t_ballot_of a0)) := by
  unfold t_ballot_of
  refine f_mkN (N := 1) (n := 1) (ds := b_ballot_of) (ps := [.im (D.str a0)]) (ex := (fun v : (List Str) => (X.im (eTup D.str v)))) (pe := (fun v : (List Str) => [.im (D.str a0)])) ⟨rfl, Nat.le_of_ble_eq_true rfl, rfl⟩ rfl ?_
  exact (s_cutIf (s_ifP (p_test (p_op (p_var rfl) rfl rfl rfl (o_eqS a0 ("-" : Str))) rfl) (s_cutRet (s_retP (p_tup (ds := []) pa_nil rfl fit_0) rfl))
 (s_skip (s_ret1 (r_cb_M (ra_MP (xf := fun (v1 : (List Str)) => []) (r_m1_PP (p_var rfl) rfl rfl (oc rfl rfl (o_split a0 (">" : Str)))) (fun v1 => pa_nil)) fun v2 => (ccV (ex := (fun z : (List Str) => (X.im (eTup D.str z)))) (v := v2) rfl (c_tupL D.str v2))) (fun _ => rfl)))))
def t_read_line (a0 : (List Str)) (a1 : Int) (a2 : Str) : Option (((List Str) × Int)) := PR.o ((PR.opt (partP a2 (" " : Str))).bind fun v1 => 
 ((if (decide (v1.2.1 = ("" : Str))) = true then (PR.ok true) else ((PR.opt (t_is_number v1.1)).bind fun v2 => (if (!v2) = true then (PR.ok true) else ((PR.opt (t_is_ballot_text v1.2.2)).bind fun v3 => PR.ok (!v3))))).bind fun v5 => if v5 = true then PR.bad else
 ((((PR.opt (lenS v1.1)).bind fun v6 => (PR.ok (decide (v6 > 13)))).bind fun v7 => (if v7 = true then (PR.ok true) else (((PR.opt (intP v1.1)).bind fun v8 => PR.ok (decide (1 ≤ v8) && decide (v8 ≤ 1000000000000))).bind fun v9 => PR.ok (!v9)))).bind fun v10 => if v10 = true then PR.bad else
 ((PR.opt (t_ballot_of v1.2.2)).bind fun v11 => 
 ((foldP (fun (x14 : (Int × Str)) (s13 : Unit) => (if (!decide (x14.2 ∈ a0)) = true then PR.bad else
 (if (decide (x14.2 ∈ (Dn.cutD v11 none (some x14.1)))) = true then PR.bad else
 (PR.ok ())))) (en 0 v11) ()).bind fun s15 : Unit =>
 ((PR.opt (intP v1.1)).bind fun v17 => PR.ok (v11, v17)))))))
theorem s_read_line_iii {XF : XIf} (a0 : (List Str)) (a1 : Int) (a2 : Str) : RV (d_read_line [.im (eTup D.str a0), .im (D.int a1), .im (D.str a2)]) (fun v : ((List Str) × Int) => (X.im (ePr (eTup D.str) D.int v))) (fun v : ((List Str) × Int) => [.im (eTup D.str a0), .im (D.int a1), .im (D.str a2)]) XF (PR.opt (t_read_line a0 a1 a2)) := by
  unfold t_read_line
  refine f_mkN (N := 9) (n := 3) (ds := b_read_line) (ps := [.im (eTup D.str a0), .im (D.int a1), .im (D.str a2)]) (ex := (fun v : ((List Str) × Int) => (X.im (ePr (eTup D.str) D.int v)))) (pe := (fun v : ((List Str) × Int) => [.im (eTup D.str a0), .im (D.int a1), .im (D.str a2)])) ⟨rfl, Nat.le_of_ble_eq_true rfl, rfl⟩ rfl ?_
  exact (s_asgG (df := fun (v1 : (Str × Str × Str)) => (eW3 D.str D.str D.str v1)) (E1 := fun (v1 : (Str × Str × Str)) => [.im (eTup D.str a0), .im (D.int a1), .im (D.str a2), .im (D.str v1.1), .im (D.str v1.2.1), .im (D.str v1.2.2), .no, .no, .no]) (r_m1_PP (p_var rfl) rfl rfl (oc rfl rfl (o_part a2 (" " : Str)))) (fun _ => rfl) (fun _ => rfl) fun v1 => (s_cutIf (s_ifM (r_tor_P (p_test (p_op (p_var rfl) rfl rfl rfl (o_eqS v1.2.1 ("" : Str))) rfl) (r_tor_M (r_tnot (r_test (g := fun (v : Bool) => v) (r_call_P (pa_cons (p_var rfl) pa_nil) (rv_callN (ps := [.im (D.str v1.1)]) (E1 := fun u => [.im (eTup D.str a0), .im (D.int a1), .im (D.str a2), .im (D.str v1.1), .im (D.str v1.2.1), .im (D.str v1.2.2), .no, .no, .no]) rfl (of_decide_eq_true rfl) (s_is_number_i (XF := XFT) v1.1) (fun _ => rfl))) (fun _ => rfl))) (fun v2 => (rv_map (f := fun (v3 : Bool) => (!v3)) (ex := fun v : Bool => v) (ee := fun _ => [.im (eTup D.str a0), .im (D.int a1), .im (D.str a2), .im (D.str v1.1), .im (D.str v1.2.1), .im (D.str v1.2.2), .no, .no, .no]) (r_tnot (r_test (g := fun (v : Bool) => v) (r_call_P (pa_cons (p_var rfl) pa_nil) (rv_callN (ps := [.im (D.str v1.2.2)]) (E1 := fun u => [.im (eTup D.str a0), .im (D.int a1), .im (D.str a2), .im (D.str v1.1), .im (D.str v1.2.1), .im (D.str v1.2.2), .no, .no, .no]) rfl (of_decide_eq_true rfl) (s_is_ballot_text_i (XF := XFT) v1.2.2) (fun _ => rfl))) (fun _ => rfl))) (fun _ => rfl) (fun _ => rfl))) (fun _ => rfl)) rfl) (fun v5 => trivial)
 (fun v5 => (s_skip (s_cutIf (s_ifM (r_tor_M (r_test (g := fun (v : Bool) => v) (r_op_MP (r_cb_P (pa_cons (p_var rfl) pa_nil) (cc rfl (c_lenS v1.1))) (fun v6 => rfl) fun v6 => (ocV (ex := (fun z : Bool => (X.im (D.bl z)))) (v := (decide (v6 > 13))) rfl rfl rfl)) (fun _ => rfl)) (fun v7 => (rv_map (f := fun (v9 : Bool) => (!v9)) (ex := fun v : Bool => v) (ee := fun _ => [.im (eTup D.str a0), .im (D.int a1), .im (D.str a2), .im (D.str v1.1), .im (D.str v1.2.1), .im (D.str v1.2.2), .no, .no, .no]) (r_tnot (r_test (g := fun (v : Bool) => v) (r_chain_PMP (p := fun i j => decide (i ≤ j)) (q := fun i j => decide (i ≤ j)) (g := fun (v : Int) => v) rfl (r_cb_P (pa_cons (p_var rfl) pa_nil) (cc rfl (c_intT v1.1))) rfl rfl (fun _ => rfl) rfl) (fun _ => rfl))) (fun _ => rfl) (fun _ => rfl))) (fun _ => rfl)) (fun v10 => trivial)
 (fun v10 => (s_skip (s_asg (E1 := fun (v11 : (List Str)) => [.im (eTup D.str a0), .im (D.int a1), .im (D.str a2), .im (D.str v1.1), .im (D.str v1.2.1), .im (D.str v1.2.2), .im (eTup D.str v11), .no, .no]) (r_frz (df := fun (v : (List Str)) => (eTup D.str v)) (r_call_P (pa_cons (p_var rfl) pa_nil) (rv_callN (ps := [.im (D.str v1.2.2)]) (E1 := fun u => [.im (eTup D.str a0), .im (D.int a1), .im (D.str a2), .im (D.str v1.1), .im (D.str v1.2.1), .im (D.str v1.2.2), .no, .no, .no]) rfl (of_decide_eq_true rfl) (s_ballot_of_i (XF := XFT) v1.2.2) (fun _ => rfl))) (fun _ => rfl)) (fun _ => rfl) fun v11 => (s_join (J := fun (s15 : Unit) => [.im (eTup D.str a0), .im (D.int a1), .im (D.str a2), .im (D.str v1.1), .im (D.str v1.2.1), .im (D.str v1.2.2), .im (eTup D.str v11), .no, .no]) (s_for_P (p_ienum (e := D.str) (l := v11) (p_var rfl) rfl rfl) (fore (e := (eEn D.str)) (L := fun (s13 : Unit) => [.im (eTup D.str a0), .im (D.int a1), .im (D.str a2), .im (D.str v1.1), .im (D.str v1.2.1), .im (D.str v1.2.2), .im (eTup D.str v11), .no, .no]) (G := fun (x14 : (Int × Str)) (s13 : Unit) => [.im (eTup D.str a0), .im (D.int a1), .im (D.str a2), .im (D.str v1.1), .im (D.str v1.2.1), .im (D.str v1.2.2), .im (eTup D.str v11), .im (D.int x14.1), .im (D.str x14.2)]) (J := fun (s15 : Unit) => [.im (eTup D.str a0), .im (D.int a1), .im (D.str a2), .im (D.str v1.1), .im (D.str v1.2.1), .im (D.str v1.2.2), .im (eTup D.str v11), .no, .no]) (s0 := ()) rfl (fun _ _ => rfl) (fun x14 s13 => (s_wp (s_cutIf (s_ifP (p_test (p_op (p_var rfl) (p_var rfl) rfl rfl (o_ninST x14.2 a0)) rfl) trivial
 (s_skip (s_ifP (p_test (p_op (p_var rfl) (p_sl3 (p_var rfl) p_none (p_some (p_var rfl) rfl) rfl (o_slT D.str v11 none (some x14.1))) rfl rfl (o_inST x14.2 (Dn.cutD v11 none (some x14.1)))) rfl) trivial
 (s_end rfl))))))) (fun _ => rfl))) fun s15 => (s_ret (r_tup (df := fun (v : Int) => [(eTup D.str v11), (D.int v)]) (ra_PM (p_var rfl) (ra_MP (xf := fun (v16 : Int) => []) (r_cb_P (pa_cons (p_var rfl) pa_nil) (cc rfl (c_intT v1.1))) (fun v16 => pa_nil))) (fun _ => rfl) (fun _ => fit_2)) (fun _ => rfl)))))))))))))
def t_read_rows (a0 : (List Str)) (a1 : Str) : Option ((List ((List Str) × Int))) := PR.o (if (decide (a1 = ("" : Str))) = true then (PR.ok []) else
 ((PR.opt (splitP a1 ("\n" : Str))).bind fun v1 => (PR.opt (lcP (fun (x2 : (Int × Str)) => (some true)) (fun x2 => (PR.opt (t_read_line a0 (x2.1 + 1) x2.2)).o) (en 0 v1) 0))))
theorem s_read_rows_ii {XF : XIf} (a0 : (List Str)) (a1 : Str) : RV (d_read_rows [.im (eTup D.str a0), .im (D.str a1)]) (fun v : (List ((List Str) × Int)) => (X.ow (oLst (ePr (eTup D.str) D.int) v))) (fun v : (List ((List Str) × Int)) => [.im (eTup D.str a0), .im (D.str a1)]) XF (PR.opt (t_read_rows a0 a1)) := by
  unfold t_read_rows
  refine f_mkN (N := 4) (n := 2) (ds := b_read_rows) (ps := [.im (eTup D.str a0), .im (D.str a1)]) (ex := (fun v : (List ((List Str) × Int)) => (X.ow (oLst (ePr (eTup D.str) D.int) v)))) (pe := (fun v : (List ((List Str) × Int)) => [.im (eTup D.str a0), .im (D.str a1)])) ⟨rfl, Nat.le_of_ble_eq_true rfl, rfl⟩ rfl ?_
  exact (s_cutIf (s_ifP (p_test (p_op (p_var rfl) rfl rfl rfl (o_eqS a1 ("" : Str))) rfl) (s_cutRet (s_retP (p_lst (ds := []) pa_nil rfl fit_0) rfl))
 (s_skip (s_ret1 (r_lc_M (l := fun (v1 : (List Str)) => (en 0 v1).map (eEn D.str)) (r_ienum (e := D.str) (l := fun (v : (List Str)) => v) (r_m1_PP (p_var rfl) rfl rfl (oc rfl rfl (o_split a1 ("\n" : Str)))) (fun _ => rfl) (fun _ => rfl)) fun v1 => (lce (e := (eEn D.str)) (e' := (ePr (eTup D.str) D.int)) (B := [.im (eTup D.str a0), .im (D.str a1), .no, .no]) (Bx := fun (x2 : (Int × Str)) => [.im (eTup D.str a0), .im (D.str a1), .im (D.int x2.1), .im (D.str x2.2)]) (XF := fun _ _ => True) rfl rfl (fun _ => rfl) (fun x2 => (rv_of (ex := fun b : Bool => b) (v := true) p_yes rfl)) (fun x2 => (rv_o (XI' := fun _ _ => True) (r_call_P (pa_cons (p_var rfl) (pa_cons (p_frz (p_op (p_var rfl) rfl rfl rfl rfl) rfl) (pa_cons (p_var rfl) pa_nil))) (rv_callN (ps := [.im (eTup D.str a0), .im (D.int (x2.1 + 1)), .im (D.str x2.2)]) (E1 := fun u => [.im (eTup D.str a0), .im (D.str a1), .im (D.int x2.1), .im (D.str x2.2)]) rfl (of_decide_eq_true rfl) (s_read_line_iii (XF := XFT) a0 (x2.1 + 1) x2.2) (fun _ => rfl))))) (fun _ => rfl) (fun _ => rfl) rfl)) (fun _ => rfl)))))
def t_Roll_read (a0 : Unit) (a1 : (List Str)) (a2 : Str) : Option (T_Roll) := PR.o (((PR.opt (t_checked_names a1)).bind fun v2 => (PR.opt (t_read_rows v2 a2))).bind fun v5 => (PR.opt (t_Roll___init__ a1 v5 (some 1000000000000))))
theorem s_Roll_read_iii {XF : XIf} (a0 : Unit) (a1 : (List Str)) (a2 : Str) : RV (d_Roll_read [.im (eCls "Roll" a0), .im (eTup D.str a1), .im (D.str a2)]) (fun v : T_Roll => (X.im (e_Roll v))) (fun v : T_Roll => [.im (eCls "Roll" a0), .im (eTup D.str a1), .im (D.str a2)]) XF (PR.opt (t_Roll_read a0 a1 a2)) := by
  unfold t_Roll_read
  refine f_mkN (N := 3) (n := 3) (ds := b_Roll_read) (ps := [.im (eCls "Roll" a0), .im (eTup D.str a1), .im (D.str a2)]) (ex := (fun v : T_Roll => (X.im (e_Roll v)))) (pe := (fun v : T_Roll => [.im (eCls "Roll" a0), .im (eTup D.str a1), .im (D.str a2)])) ⟨rfl, Nat.le_of_ble_eq_true rfl, rfl⟩ rfl ?_
  exact (s_ret1 (r_frz (df := fun (v : T_Roll) => (e_Roll v)) (r_guard rfl (r_make_M (r_arr_MP (yf := fun (v4 : (List ((List Str) × Int))) => []) (zf := fun (v : (List ((List Str) × Int))) => [(X.im (eTup D.str a1)), (X.im (eLst (ePr (eTup D.str) D.int) v)), (X.im (eOpt D.int (some 1000000000000)))]) (ra_PM (p_var rfl) (ra_MP (xf := fun (v3 : (List ((List Str) × Int))) => []) (r_frz (df := fun (v : (List ((List Str) × Int))) => (eLst (ePr (eTup D.str) D.int) v)) (r_call_M (ra_MP (xf := fun (v1 : (List Str)) => [(X.im (D.str a2))]) (r_frz (df := fun (v : (List Str)) => (eTup D.str v)) (r_call_P (pa_cons (p_var rfl) pa_nil) (rv_callN (ps := [.im (eTup D.str a1)]) (E1 := fun u => [.im (eCls "Roll" a0), .im (eTup D.str a1), .im (D.str a2)]) rfl (of_decide_eq_true rfl) (s_checked_names_i (XF := XFT) a1) (fun _ => rfl))) (fun _ => rfl)) (fun v1 => (pa_cons (p_var rfl) pa_nil))) fun v2 => (rv_callN (ps := [.im (eTup D.str v2), .im (D.str a2)]) (E1 := fun u => [.im (eCls "Roll" a0), .im (eTup D.str a1), .im (D.str a2)]) rfl (of_decide_eq_true rfl) (s_read_rows_ii (XF := XFT) v2 a2) (fun _ => rfl))) (fun _ => rfl)) (fun v3 => pa_nil))) (fun v4 => pa_nil) (fun _ => ⟨rfl, rfl⟩) (fun _ => rfl)) fun v5 => (rv_makeN (ps := [.im (eTup D.str a1), .im (eLst (ePr (eTup D.str) D.int) v5), .im (eOpt D.int (some 1000000000000))]) (E1 := fun _ => [.im (eCls "Roll" a0), .im (eTup D.str a1), .im (D.str a2)]) rfl (of_decide_eq_true rfl) (s_Roll___init___xiii (XF := XFT) a1 v5 (some 1000000000000)) (fun _ => rfl)))) (fun _ => rfl)) (fun _ => rfl))
def t_law (a0 : List Int) : Option (Bool) := PR.o (((PR.opt (t__law_pool a0 0)).bind fun v2 => (PR.opt (t__law_names v2 1 5))).bind fun v3 => 
 ((PR.opt (t__law_pool a0 2)).bind fun v4 => 
 ((((PR.opt (t__law_draw v4 3)).bind fun v6 => (PR.ok ((decide (v6.1 = 1)), v6.2))).bind fun v7 => if v7.1 = true then ((PR.opt (t__law_kin v7.2 (v3.1.length : Int))).bind fun v8 => 
 (PR.ok (v8.1, v8.2))) else
 (PR.ok (v3.1, v7.2))).bind fun s5 : (List Str) × (List Int) =>
 ((PR.opt (t__law_pool a0 1)).bind fun v9 => 
 ((PR.opt (t__law_line_rows v9 s5.1)).bind fun v10 => 
 ((PR.opt (t__law_lines v10.1)).bind fun v11 => 
 ((PR.opt (joinP ("\n" : Str) v11)).bind fun v12 => 
 ((((PR.opt (t__law_draw v10.2 4)).bind fun v14 => (PR.ok ((decide (v14.1 = 3)), v14.2))).bind fun v15 => if v15.1 = true then (((PR.opt (t__law_draw v15.2 16)).bind fun v16 => (PR.ok ((1 + v16.1), v16.2))).bind fun v17 => 
 (PR.ok (v17.2, v17.1))) else
 (PR.ok (v15.2, 1))).bind fun s13 : (List Int) × Int =>
 ((((PR.opt (t_Roll_read () s5.1 v12)).bind fun v19 => (PR.opt (t__law_roll_is v19 s5.1 v10.1))).bind fun v20 => (if (!v20) = true then (PR.ok true) else (((PR.opt (t_Roll_read () s5.1 ("" : Str))).bind fun v22 => (PR.opt (t__law_roll_is v22 s5.1 []))).bind fun v23 => PR.ok (!v23)))).bind fun v24 => if v24 = true then (PR.ok false) else
 ((((PR.opt (joinP ("\n" : Str) v11.reverse)).bind fun v26 => (PR.opt (t_Roll_read () s5.1 v26))).bind fun v28 => (PR.opt (t__law_roll_is v28 s5.1 v10.1))).bind fun v29 => if (!v29) = true then (PR.ok false) else
 ((PR.opt (lcP (fun (x31 : ((List Str) × Int)) => (some true)) (fun x31 => ((PR.opt (mulP x31.2 s13.2)).bind fun v33 => PR.ok (x31.1, v33)).o) v10.1 0)).bind fun v34 => 
 (((((PR.opt (repP v11 s13.2)).bind fun v35 => (PR.opt (joinP ("\n" : Str) v35))).bind fun v37 => (PR.opt (t_Roll_read () s5.1 v37))).bind fun v39 => (PR.opt (t__law_roll_is v39 s5.1 v34))).bind fun v40 => if (!v40) = true then (PR.ok false) else
 (thenO (ρ := (Bool)) ((PR.opt (rg1 (v10.1.length : Int))).bind fun v41 => (forO (ρ := (Bool)) (fun (x43 : Int) (s42 : Unit) => (((((PR.opt (atI v11 x43)).bind fun v45 => (PR.opt (t_Roll_read () s5.1 v45))).bind fun v46 => ((PR.opt (atI v10.1 x43)).bind fun v49 => PR.ok (v46, v49))).bind fun v50 => (PR.opt (t__law_roll_is v50.1 s5.1 [v50.2]))).bind fun v51 => if (!v51) = true then (PR.ok (.rt false)) else
 (PR.ok (.nx ())))) v41 ())) (fun s52 : Unit =>
 ((PR.opt (t_Roll_read () s5.1 v12)).bind fun v54 => (PR.opt (t__law_roll_is v54 s5.1 v10.1)))) (fun r => r))))))))))))))
theorem s_law_i {XF : XIf} (a0 : List Int) : RV (d_law [.im (eScr a0)]) (fun v : Bool => (X.im (D.bl v))) (fun v : Bool => [.im (eScr a0)]) XF (PR.opt (t_law a0)) := by
  unfold t_law
  refine f_mkN (N := 12) (n := 1) (ds := b_law) (ps := [.im (eScr a0)]) (ex := (fun v : Bool => (X.im (D.bl v)))) (pe := (fun v : Bool => [.im (eScr a0)])) ⟨rfl, Nat.le_of_ble_eq_true rfl, rfl⟩ rfl ?_
  exact (s_asg (E1 := fun (v3 : (List Str) × (List Int)) => [.im (eScr a0), .im (eTup D.str v3.1), .no, .no, .no, .no, .no, .no, .no, .no, .no, .no]) (r_frz (df := fun (v : (List Str) × (List Int)) => (eTup D.str v.1)) (r_call_M (ra_MP (xf := fun (v1 : (List Int)) => [(X.im (D.int 1)), (X.im (D.int 5))]) (r_call_P (pa_cons (p_var rfl) (pa_cons rfl pa_nil)) (rv_callN (ps := [.im (eScr a0), .im (D.int 0)]) (E1 := fun u => [.im (eScr a0), .no, .no, .no, .no, .no, .no, .no, .no, .no, .no, .no]) rfl (of_decide_eq_true rfl) (s__law_pool_ii (XF := XFT) a0 0) (fun _ => rfl))) (fun v1 => (pa_cons rfl (pa_cons rfl pa_nil)))) fun v2 => (rv_callN (ps := [.ow true (oLst D.int v2), .im (D.int 1), .im (D.int 5)]) (E1 := fun u => [.im (eScr a0), .no, .no, .no, .no, .no, .no, .no, .no, .no, .no, .no]) rfl (of_decide_eq_true rfl) (s__law_names_oii (XF := XFT) v2 1 5) (fun _ => rfl))) (fun _ => rfl)) (fun _ => rfl) fun v3 => (s_asg (E1 := fun (v4 : (List Int)) => [.im (eScr a0), .im (eTup D.str v3.1), .ow false (oLst D.int v4), .no, .no, .no, .no, .no, .no, .no, .no, .no]) (r_call_P (pa_cons (p_var rfl) (pa_cons rfl pa_nil)) (rv_callN (ps := [.im (eScr a0), .im (D.int 2)]) (E1 := fun u => [.im (eScr a0), .im (eTup D.str v3.1), .no, .no, .no, .no, .no, .no, .no, .no, .no, .no]) rfl (of_decide_eq_true rfl) (s__law_pool_ii (XF := XFT) a0 2) (fun _ => rfl))) (fun _ => rfl) fun v4 => (s_join (J := fun (s5 : (List Str) × (List Int)) => [.im (eScr a0), .im (eTup D.str s5.1), .ow false (oLst D.int s5.2), .no, .no, .no, .no, .no, .no, .no, .no, .no]) (s_ifM (r_test (g := fun (v : Bool × (List Int)) => v.1) (r_op_MP (r_call_P (pa_cons (p_sl rfl) (pa_cons rfl pa_nil)) (rv_callN (ps := [.ow true (oLst D.int v4), .im (D.int 3)]) (E1 := fun u => [.im (eScr a0), .im (eTup D.str v3.1), .ow false (oLst D.int u.2), .no, .no, .no, .no, .no, .no, .no, .no, .no]) rfl (of_decide_eq_true rfl) (s__law_draw_oi (XF := XFT) v4 3) (fun _ => rfl))) (fun v6 => rfl) fun v6 => (ocVE (ex := fun z : Bool × (List Int) => (X.im (D.bl z.1))) (ee := fun z : Bool × (List Int) => [.im (eScr a0), .im (eTup D.str v3.1), .ow false (oLst D.int z.2), .no, .no, .no, .no, .no, .no, .no, .no, .no]) (v := ((decide (v6.1 = 1)), v6.2)) rfl rfl (o_eqI v6.1 1) rfl)) (fun _ => rfl)) (fun v7 => (s_last (s_asg (E1 := fun (v8 : (List Str) × (List Int)) => [.im (eScr a0), .im (eTup D.str v8.1), .ow false (oLst D.int v8.2), .no, .no, .no, .no, .no, .no, .no, .no, .no]) (r_frz (df := fun (v : (List Str) × (List Int)) => (eTup D.str v.1)) (r_call_P (pa_cons (p_sl rfl) (pa_cons (p_cb (pa_cons (p_var rfl) pa_nil) rfl (c_lenT D.str v3.1)) pa_nil)) (rv_callN (ps := [.ow true (oLst D.int v7.2), .im (D.int (v3.1.length : Int))]) (E1 := fun u => [.im (eScr a0), .im (eTup D.str v3.1), .ow false (oLst D.int u.2), .no, .no, .no, .no, .no, .no, .no, .no, .no]) rfl (of_decide_eq_true rfl) (s__law_kin_oi (XF := XFT) v7.2 (v3.1.length : Int)) (fun _ => rfl))) (fun _ => rfl)) (fun _ => rfl) fun v8 => (s_end rfl))))
 (fun v7 => (s_end rfl))) fun s5 => (s_asg (E1 := fun (v9 : (List Int)) => [.im (eScr a0), .im (eTup D.str s5.1), .ow false (oLst D.int s5.2), .ow false (oLst D.int v9), .no, .no, .no, .no, .no, .no, .no, .no]) (r_call_P (pa_cons (p_var rfl) (pa_cons rfl pa_nil)) (rv_callN (ps := [.im (eScr a0), .im (D.int 1)]) (E1 := fun u => [.im (eScr a0), .im (eTup D.str s5.1), .ow false (oLst D.int s5.2), .no, .no, .no, .no, .no, .no, .no, .no, .no]) rfl (of_decide_eq_true rfl) (s__law_pool_ii (XF := XFT) a0 1) (fun _ => rfl))) (fun _ => rfl) fun v9 => (s_asg (E1 := fun (v10 : (List ((List Str) × Int)) × (List Int)) => [.im (eScr a0), .im (eTup D.str s5.1), .ow false (oLst D.int s5.2), .ow false (oLst D.int v10.2), .im (eLst (ePr (eTup D.str) D.int) v10.1), .no, .no, .no, .no, .no, .no, .no]) (r_frz (df := fun (v : (List ((List Str) × Int)) × (List Int)) => (eLst (ePr (eTup D.str) D.int) v.1)) (r_call_P (pa_cons (p_sl rfl) (pa_cons (p_var rfl) pa_nil)) (rv_callN (ps := [.ow true (oLst D.int v9), .im (eTup D.str s5.1)]) (E1 := fun u => [.im (eScr a0), .im (eTup D.str s5.1), .ow false (oLst D.int s5.2), .ow false (oLst D.int u.2), .no, .no, .no, .no, .no, .no, .no, .no]) rfl (of_decide_eq_true rfl) (s__law_line_rows_oi (XF := XFT) v9 s5.1) (fun _ => rfl))) (fun _ => rfl)) (fun _ => rfl) fun v10 => (s_asg (E1 := fun (v11 : (List Str)) => [.im (eScr a0), .im (eTup D.str s5.1), .ow false (oLst D.int s5.2), .ow false (oLst D.int v10.2), .im (eLst (ePr (eTup D.str) D.int) v10.1), .im (eLst D.str v11), .no, .no, .no, .no, .no, .no]) (r_frz (df := fun (v : (List Str)) => (eLst D.str v)) (r_call_P (pa_cons (p_var rfl) pa_nil) (rv_callN (ps := [.im (eLst (ePr (eTup D.str) D.int) v10.1)]) (E1 := fun u => [.im (eScr a0), .im (eTup D.str s5.1), .ow false (oLst D.int s5.2), .ow false (oLst D.int v10.2), .im (eLst (ePr (eTup D.str) D.int) v10.1), .no, .no, .no, .no, .no, .no, .no]) rfl (of_decide_eq_true rfl) (s__law_lines_i (XF := XFT) v10.1) (fun _ => rfl))) (fun _ => rfl)) (fun _ => rfl) fun v11 => (s_asg (E1 := fun (v12 : Str) => [.im (eScr a0), .im (eTup D.str s5.1), .ow false (oLst D.int s5.2), .ow false (oLst D.int v10.2), .im (eLst (ePr (eTup D.str) D.int) v10.1), .im (eLst D.str v11), .im (D.str v12), .no, .no, .no, .no, .no]) (r_m1_PP rfl rfl (p_var rfl) (oc rfl rfl (o_joinL ("\n" : Str) v11))) (fun _ => rfl) fun v12 => (s_asgP (E1 := [.im (eScr a0), .im (eTup D.str s5.1), .ow false (oLst D.int s5.2), .ow false (oLst D.int v10.2), .im (eLst (ePr (eTup D.str) D.int) v10.1), .im (eLst D.str v11), .im (D.str v12), .im (D.int 1), .no, .no, .no, .no]) rfl rfl (s_join (J := fun (s13 : (List Int) × Int) => [.im (eScr a0), .im (eTup D.str s5.1), .ow false (oLst D.int s5.2), .ow false (oLst D.int s13.1), .im (eLst (ePr (eTup D.str) D.int) v10.1), .im (eLst D.str v11), .im (D.str v12), .im (D.int s13.2), .no, .no, .no, .no]) (s_ifM (r_test (g := fun (v : Bool × (List Int)) => v.1) (r_op_MP (r_call_P (pa_cons (p_sl rfl) (pa_cons rfl pa_nil)) (rv_callN (ps := [.ow true (oLst D.int v10.2), .im (D.int 4)]) (E1 := fun u => [.im (eScr a0), .im (eTup D.str s5.1), .ow false (oLst D.int s5.2), .ow false (oLst D.int u.2), .im (eLst (ePr (eTup D.str) D.int) v10.1), .im (eLst D.str v11), .im (D.str v12), .im (D.int 1), .no, .no, .no, .no]) rfl (of_decide_eq_true rfl) (s__law_draw_oi (XF := XFT) v10.2 4) (fun _ => rfl))) (fun v14 => rfl) fun v14 => (ocVE (ex := fun z : Bool × (List Int) => (X.im (D.bl z.1))) (ee := fun z : Bool × (List Int) => [.im (eScr a0), .im (eTup D.str s5.1), .ow false (oLst D.int s5.2), .ow false (oLst D.int z.2), .im (eLst (ePr (eTup D.str) D.int) v10.1), .im (eLst D.str v11), .im (D.str v12), .im (D.int 1), .no, .no, .no, .no]) (v := ((decide (v14.1 = 3)), v14.2)) rfl rfl (o_eqI v14.1 3) rfl)) (fun _ => rfl)) (fun v15 => (s_last (s_asg (E1 := fun (v17 : Int × (List Int)) => [.im (eScr a0), .im (eTup D.str s5.1), .ow false (oLst D.int s5.2), .ow false (oLst D.int v17.2), .im (eLst (ePr (eTup D.str) D.int) v10.1), .im (eLst D.str v11), .im (D.str v12), .im (D.int v17.1), .no, .no, .no, .no]) (r_frz (df := fun (v : Int × (List Int)) => (D.int v.1)) (r_op_PM rfl (r_call_P (pa_cons (p_sl rfl) (pa_cons rfl pa_nil)) (rv_callN (ps := [.ow true (oLst D.int v15.2), .im (D.int 16)]) (E1 := fun u => [.im (eScr a0), .im (eTup D.str s5.1), .ow false (oLst D.int s5.2), .ow false (oLst D.int u.2), .im (eLst (ePr (eTup D.str) D.int) v10.1), .im (eLst D.str v11), .im (D.str v12), .im (D.int 1), .no, .no, .no, .no]) rfl (of_decide_eq_true rfl) (s__law_draw_oi (XF := XFT) v15.2 16) (fun _ => rfl))) fun v16 => (ocVE (ex := fun z : Int × (List Int) => (X.im (D.int z.1))) (ee := fun z : Int × (List Int) => [.im (eScr a0), .im (eTup D.str s5.1), .ow false (oLst D.int s5.2), .ow false (oLst D.int z.2), .im (eLst (ePr (eTup D.str) D.int) v10.1), .im (eLst D.str v11), .im (D.str v12), .im (D.int 1), .no, .no, .no, .no]) (v := ((1 + v16.1), v16.2)) rfl rfl rfl rfl)) (fun _ => rfl)) (fun _ => rfl) fun v17 => (s_end rfl))))
 (fun v15 => (s_end rfl))) fun s13 => (s_cutIf (s_ifM (r_tor_M (r_tnot (r_test (g := fun (v : Bool) => v) (r_call_M (ra_MP (xf := fun (v18 : T_Roll) => [(X.im (eTup D.str s5.1)), (X.im (eLst (ePr (eTup D.str) D.int) v10.1))]) (r_call_P (pa_cons rfl (pa_cons (p_var rfl) (pa_cons (p_var rfl) pa_nil))) (rv_callN (ps := [.im (eCls "Roll" ()), .im (eTup D.str s5.1), .im (D.str v12)]) (E1 := fun u => [.im (eScr a0), .im (eTup D.str s5.1), .ow false (oLst D.int s5.2), .ow false (oLst D.int s13.1), .im (eLst (ePr (eTup D.str) D.int) v10.1), .im (eLst D.str v11), .im (D.str v12), .im (D.int s13.2), .no, .no, .no, .no]) rfl (of_decide_eq_true rfl) (s_Roll_read_iii (XF := XFT) () s5.1 v12) (fun _ => rfl))) (fun v18 => (pa_cons (p_var rfl) (pa_cons (p_var rfl) pa_nil)))) fun v19 => (rv_callN (ps := [.im (e_Roll v19), .im (eTup D.str s5.1), .im (eLst (ePr (eTup D.str) D.int) v10.1)]) (E1 := fun u => [.im (eScr a0), .im (eTup D.str s5.1), .ow false (oLst D.int s5.2), .ow false (oLst D.int s13.1), .im (eLst (ePr (eTup D.str) D.int) v10.1), .im (eLst D.str v11), .im (D.str v12), .im (D.int s13.2), .no, .no, .no, .no]) rfl (of_decide_eq_true rfl) (s__law_roll_is_iii (XF := XFT) v19 s5.1 v10.1) (fun _ => rfl))) (fun _ => rfl))) (fun v20 => (rv_map (f := fun (v23 : Bool) => (!v23)) (ex := fun v : Bool => v) (ee := fun _ => [.im (eScr a0), .im (eTup D.str s5.1), .ow false (oLst D.int s5.2), .ow false (oLst D.int s13.1), .im (eLst (ePr (eTup D.str) D.int) v10.1), .im (eLst D.str v11), .im (D.str v12), .im (D.int s13.2), .no, .no, .no, .no]) (r_tnot (r_test (g := fun (v : Bool) => v) (r_call_M (ra_MP (xf := fun (v21 : T_Roll) => [(X.im (eTup D.str s5.1)), (X.im (eLst (ePr (eTup D.str) D.int) []))]) (r_call_P (pa_cons rfl (pa_cons (p_var rfl) (pa_cons rfl pa_nil))) (rv_callN (ps := [.im (eCls "Roll" ()), .im (eTup D.str s5.1), .im (D.str ("" : Str))]) (E1 := fun u => [.im (eScr a0), .im (eTup D.str s5.1), .ow false (oLst D.int s5.2), .ow false (oLst D.int s13.1), .im (eLst (ePr (eTup D.str) D.int) v10.1), .im (eLst D.str v11), .im (D.str v12), .im (D.int s13.2), .no, .no, .no, .no]) rfl (of_decide_eq_true rfl) (s_Roll_read_iii (XF := XFT) () s5.1 ("" : Str)) (fun _ => rfl))) (fun v21 => (pa_cons (p_var rfl) (pa_cons (p_frz (p_lst (ds := []) pa_nil rfl fit_0) rfl) pa_nil)))) fun v22 => (rv_callN (ps := [.im (e_Roll v22), .im (eTup D.str s5.1), .im (eLst (ePr (eTup D.str) D.int) [])]) (E1 := fun u => [.im (eScr a0), .im (eTup D.str s5.1), .ow false (oLst D.int s5.2), .ow false (oLst D.int s13.1), .im (eLst (ePr (eTup D.str) D.int) v10.1), .im (eLst D.str v11), .im (D.str v12), .im (D.int s13.2), .no, .no, .no, .no]) rfl (of_decide_eq_true rfl) (s__law_roll_is_iii (XF := XFT) v22 s5.1 []) (fun _ => rfl))) (fun _ => rfl))) (fun _ => rfl) (fun _ => rfl))) (fun _ => rfl)) (fun v24 => (s_cutRet (s_retP rfl rfl)))
 (fun v24 => (s_skip (s_cutIf (s_ifM (r_tnot (r_test (g := fun (v : Bool) => v) (r_call_M (ra_MP (xf := fun (v27 : T_Roll) => [(X.im (eTup D.str s5.1)), (X.im (eLst (ePr (eTup D.str) D.int) v10.1))]) (r_call_M (ra_PM rfl (ra_PM (p_var rfl) (ra_MP (xf := fun (v25 : Str) => []) (r_m1_PP rfl rfl (p_un (p_var rfl) rfl (o_revL D.str v11)) (oc rfl rfl (o_joinL ("\n" : Str) v11.reverse))) (fun v25 => pa_nil)))) fun v26 => (rv_callN (ps := [.im (eCls "Roll" ()), .im (eTup D.str s5.1), .im (D.str v26)]) (E1 := fun u => [.im (eScr a0), .im (eTup D.str s5.1), .ow false (oLst D.int s5.2), .ow false (oLst D.int s13.1), .im (eLst (ePr (eTup D.str) D.int) v10.1), .im (eLst D.str v11), .im (D.str v12), .im (D.int s13.2), .no, .no, .no, .no]) rfl (of_decide_eq_true rfl) (s_Roll_read_iii (XF := XFT) () s5.1 v26) (fun _ => rfl))) (fun v27 => (pa_cons (p_var rfl) (pa_cons (p_var rfl) pa_nil)))) fun v28 => (rv_callN (ps := [.im (e_Roll v28), .im (eTup D.str s5.1), .im (eLst (ePr (eTup D.str) D.int) v10.1)]) (E1 := fun u => [.im (eScr a0), .im (eTup D.str s5.1), .ow false (oLst D.int s5.2), .ow false (oLst D.int s13.1), .im (eLst (ePr (eTup D.str) D.int) v10.1), .im (eLst D.str v11), .im (D.str v12), .im (D.int s13.2), .no, .no, .no, .no]) rfl (of_decide_eq_true rfl) (s__law_roll_is_iii (XF := XFT) v28 s5.1 v10.1) (fun _ => rfl))) (fun _ => rfl))) (fun v29 => (s_cutRet (s_retP rfl rfl)))
 (fun v29 => (s_skip (s_asg (E1 := fun (v34 : (List ((List Str) × Int))) => [.im (eScr a0), .im (eTup D.str s5.1), .ow false (oLst D.int s5.2), .ow false (oLst D.int s13.1), .im (eLst (ePr (eTup D.str) D.int) v10.1), .im (eLst D.str v11), .im (D.str v12), .im (D.int s13.2), .im (eLst (ePr (eTup D.str) D.int) v34), .no, .no, .no]) (r_frz (df := fun (v : (List ((List Str) × Int))) => (eLst (ePr (eTup D.str) D.int) v)) (r_lc_P (p_iseq (l := v10.1.map (ePr (eTup D.str) D.int)) (p_var rfl) rfl) (lce (e := (ePr (eTup D.str) D.int)) (e' := (ePr (eTup D.str) D.int)) (B := [.im (eScr a0), .im (eTup D.str s5.1), .ow false (oLst D.int s5.2), .ow false (oLst D.int s13.1), .im (eLst (ePr (eTup D.str) D.int) v10.1), .im (eLst D.str v11), .im (D.str v12), .im (D.int s13.2), .no, .no, .no, .no]) (Bx := fun (x31 : ((List Str) × Int)) => [.im (eScr a0), .im (eTup D.str s5.1), .ow false (oLst D.int s5.2), .ow false (oLst D.int s13.1), .im (eLst (ePr (eTup D.str) D.int) v10.1), .im (eLst D.str v11), .im (D.str v12), .im (D.int s13.2), .no, .no, .im (eTup D.str x31.1), .im (D.int x31.2)]) (XF := fun _ _ => True) rfl rfl (fun _ => rfl) (fun x31 => (rv_of (ex := fun b : Bool => b) (v := true) p_yes rfl)) (fun x31 => (rv_o (XI' := fun _ _ => True) (rv_map (f := fun (v33 : Int) => (x31.1, v33)) (ex := fun v : ((List Str) × Int) => (X.im (ePr (eTup D.str) D.int v))) (ee := fun _ => [.im (eScr a0), .im (eTup D.str s5.1), .ow false (oLst D.int s5.2), .ow false (oLst D.int s13.1), .im (eLst (ePr (eTup D.str) D.int) v10.1), .im (eLst D.str v11), .im (D.str v12), .im (D.int s13.2), .no, .no, .im (eTup D.str x31.1), .im (D.int x31.2)]) (r_tup (df := fun (v : Int) => [(eTup D.str x31.1), (D.int v)]) (ra_PM (p_var rfl) (ra_MP (xf := fun (v32 : Int) => []) (r_op_PP (p_var rfl) (p_var rfl) (oc rfl rfl (o_mul x31.2 s13.2))) (fun v32 => pa_nil))) (fun _ => rfl) (fun _ => fit_2)) (fun _ => rfl) (fun _ => rfl)))) (fun _ => rfl) (fun _ => rfl) rfl)) (fun _ => rfl)) (fun _ => rfl) fun v34 => (s_cutIf (s_ifM (r_tnot (r_test (g := fun (v : Bool) => v) (r_call_M (ra_MP (xf := fun (v38 : T_Roll) => [(X.im (eTup D.str s5.1)), (X.im (eLst (ePr (eTup D.str) D.int) v34))]) (r_call_M (ra_PM rfl (ra_PM (p_var rfl) (ra_MP (xf := fun (v36 : Str) => []) (r_m1_PM rfl rfl (r_op_PP (p_var rfl) (p_var rfl) (oc rfl rfl (o_repL D.str v11 s13.2))) fun v35 => (oc rfl rfl (o_joinL ("\n" : Str) v35))) (fun v36 => pa_nil)))) fun v37 => (rv_callN (ps := [.im (eCls "Roll" ()), .im (eTup D.str s5.1), .im (D.str v37)]) (E1 := fun u => [.im (eScr a0), .im (eTup D.str s5.1), .ow false (oLst D.int s5.2), .ow false (oLst D.int s13.1), .im (eLst (ePr (eTup D.str) D.int) v10.1), .im (eLst D.str v11), .im (D.str v12), .im (D.int s13.2), .im (eLst (ePr (eTup D.str) D.int) v34), .no, .no, .no]) rfl (of_decide_eq_true rfl) (s_Roll_read_iii (XF := XFT) () s5.1 v37) (fun _ => rfl))) (fun v38 => (pa_cons (p_var rfl) (pa_cons (p_var rfl) pa_nil)))) fun v39 => (rv_callN (ps := [.im (e_Roll v39), .im (eTup D.str s5.1), .im (eLst (ePr (eTup D.str) D.int) v34)]) (E1 := fun u => [.im (eScr a0), .im (eTup D.str s5.1), .ow false (oLst D.int s5.2), .ow false (oLst D.int s13.1), .im (eLst (ePr (eTup D.str) D.int) v10.1), .im (eLst D.str v11), .im (D.str v12), .im (D.int s13.2), .im (eLst (ePr (eTup D.str) D.int) v34), .no, .no, .no]) rfl (of_decide_eq_true rfl) (s__law_roll_is_iii (XF := XFT) v39 s5.1 v34) (fun _ => rfl))) (fun _ => rfl))) (fun v40 => (s_cutRet (s_retP rfl rfl)))
 (fun v40 => (s_skip (s_joinO (J := fun (s52 : Unit) => [.im (eScr a0), .im (eTup D.str s5.1), .ow false (oLst D.int s5.2), .ow false (oLst D.int s13.1), .im (eLst (ePr (eTup D.str) D.int) v10.1), .im (eLst D.str v11), .im (D.str v12), .im (D.int s13.2), .im (eLst (ePr (eTup D.str) D.int) v34), .no, .no, .no]) (RT := (fun v x e => finR 1 [.im (eScr a0)] (.rt x e) = RE.ok ((fun v : Bool => (X.im (D.bl v))) v) ((fun v : Bool => [.im (eScr a0)]) v))) (s_for_M (ld := fun (v41 : List Int) => v41.map D.int) (r_r1_P (pa_cons (p_cb (pa_cons (p_var rfl) pa_nil) rfl (c_lenL (ePr (eTup D.str) D.int) v10.1)) pa_nil) rfl) fun v41 => (foreO (e := D.int) (L := fun (s42 : Unit) => [.im (eScr a0), .im (eTup D.str s5.1), .ow false (oLst D.int s5.2), .ow false (oLst D.int s13.1), .im (eLst (ePr (eTup D.str) D.int) v10.1), .im (eLst D.str v11), .im (D.str v12), .im (D.int s13.2), .im (eLst (ePr (eTup D.str) D.int) v34), .no, .no, .no]) (G := fun (x43 : Int) (s42 : Unit) => [.im (eScr a0), .im (eTup D.str s5.1), .ow false (oLst D.int s5.2), .ow false (oLst D.int s13.1), .im (eLst (ePr (eTup D.str) D.int) v10.1), .im (eLst D.str v11), .im (D.str v12), .im (D.int s13.2), .im (eLst (ePr (eTup D.str) D.int) v34), .im (D.int x43), .no, .no]) (J := fun (s52 : Unit) => [.im (eScr a0), .im (eTup D.str s5.1), .ow false (oLst D.int s5.2), .ow false (oLst D.int s13.1), .im (eLst (ePr (eTup D.str) D.int) v10.1), .im (eLst D.str v11), .im (D.str v12), .im (D.int s13.2), .im (eLst (ePr (eTup D.str) D.int) v34), .no, .no, .no]) (RT := (fun v x e => finR 1 [.im (eScr a0)] (.rt x e) = RE.ok ((fun v : Bool => (X.im (D.bl v))) v) ((fun v : Bool => [.im (eScr a0)]) v))) (s0 := ()) rfl (fun _ _ => rfl) (fun x43 s42 => (s_wp (s_ifM (r_tnot (r_test (g := fun (v : Bool) => v) (r_call_M (ra_MM (exs := fun (p : (T_Roll) × (((List Str) × Int))) => [(X.im (e_Roll p.1)), (X.im (eTup D.str s5.1)), (X.im (eLst (ePr (eTup D.str) D.int) [p.2]))]) (ees := fun (p : (T_Roll) × (((List Str) × Int))) => [.im (eScr a0), .im (eTup D.str s5.1), .ow false (oLst D.int s5.2), .ow false (oLst D.int s13.1), .im (eLst (ePr (eTup D.str) D.int) v10.1), .im (eLst D.str v11), .im (D.str v12), .im (D.int s13.2), .im (eLst (ePr (eTup D.str) D.int) v34), .im (D.int x43), .no, .no]) (pk := fun v w => (v, w)) (r_call_M (ra_PM rfl (ra_PM (p_var rfl) (ra_MP (xf := fun (v44 : Str) => []) (r_op_PP (p_var rfl) (p_var rfl) (oc rfl rfl (o_ixL D.str v11 x43))) (fun v44 => pa_nil)))) fun v45 => (rv_callN (ps := [.im (eCls "Roll" ()), .im (eTup D.str s5.1), .im (D.str v45)]) (E1 := fun u => [.im (eScr a0), .im (eTup D.str s5.1), .ow false (oLst D.int s5.2), .ow false (oLst D.int s13.1), .im (eLst (ePr (eTup D.str) D.int) v10.1), .im (eLst D.str v11), .im (D.str v12), .im (D.int s13.2), .im (eLst (ePr (eTup D.str) D.int) v34), .im (D.int x43), .no, .no]) rfl (of_decide_eq_true rfl) (s_Roll_read_iii (XF := XFT) () s5.1 v45) (fun _ => rfl))) (fun v46 => (ra_PM (p_var rfl) (ra_MP (xf := fun (v48 : ((List Str) × Int)) => []) (r_frz (df := fun (v : ((List Str) × Int)) => (eLst (ePr (eTup D.str) D.int) [v])) (r_lst (df := fun (v : ((List Str) × Int)) => [(ePr (eTup D.str) D.int v)]) (ra_MP (xf := fun (v47 : ((List Str) × Int)) => []) (r_op_PP (p_var rfl) (p_var rfl) (oc rfl rfl (o_ixL (ePr (eTup D.str) D.int) v10.1 x43))) (fun v47 => pa_nil)) (fun _ => rfl) (fun _ => fit_1)) (fun _ => rfl)) (fun v48 => pa_nil)))) (fun _ _ => rfl) (fun _ _ => rfl)) fun v50 => (rv_callN (ps := [.im (e_Roll v50.1), .im (eTup D.str s5.1), .im (eLst (ePr (eTup D.str) D.int) [v50.2])]) (E1 := fun u => [.im (eScr a0), .im (eTup D.str s5.1), .ow false (oLst D.int s5.2), .ow false (oLst D.int s13.1), .im (eLst (ePr (eTup D.str) D.int) v10.1), .im (eLst D.str v11), .im (D.str v12), .im (D.int s13.2), .im (eLst (ePr (eTup D.str) D.int) v34), .im (D.int x43), .no, .no]) rfl (of_decide_eq_true rfl) (s__law_roll_is_iii (XF := XFT) v50.1 s5.1 [v50.2]) (fun _ => rfl))) (fun _ => rfl))) (fun v51 => (s_retP rfl (po_rt rfl rfl)))
 (fun v51 => (s_end (po_nx rfl)))))) (fun _ => rfl))) (fun s52 => (s_ret1 (r_call_M (ra_MP (xf := fun (v53 : T_Roll) => [(X.im (eTup D.str s5.1)), (X.im (eLst (ePr (eTup D.str) D.int) v10.1))]) (r_call_P (pa_cons rfl (pa_cons (p_var rfl) (pa_cons (p_var rfl) pa_nil))) (rv_callN (ps := [.im (eCls "Roll" ()), .im (eTup D.str s5.1), .im (D.str v12)]) (E1 := fun u => [.im (eScr a0), .im (eTup D.str s5.1), .ow false (oLst D.int s5.2), .ow false (oLst D.int s13.1), .im (eLst (ePr (eTup D.str) D.int) v10.1), .im (eLst D.str v11), .im (D.str v12), .im (D.int s13.2), .im (eLst (ePr (eTup D.str) D.int) v34), .no, .no, .no]) rfl (of_decide_eq_true rfl) (s_Roll_read_iii (XF := XFT) () s5.1 v12) (fun _ => rfl))) (fun v53 => (pa_cons (p_var rfl) (pa_cons (p_var rfl) pa_nil)))) fun v54 => (rv_callN (ps := [.im (e_Roll v54), .im (eTup D.str s5.1), .im (eLst (ePr (eTup D.str) D.int) v10.1)]) (E1 := fun u => [.im (eScr a0), .im (eTup D.str s5.1), .ow false (oLst D.int s5.2), .ow false (oLst D.int s13.1), .im (eLst (ePr (eTup D.str) D.int) v10.1), .im (eLst D.str v11), .im (D.str v12), .im (D.int s13.2), .im (eLst (ePr (eTup D.str) D.int) v34), .no, .no, .no]) rfl (of_decide_eq_true rfl) (s__law_roll_is_iii (XF := XFT) v54 s5.1 v10.1) (fun _ => rfl))) (fun _ => rfl))) (fun _ _ _ h => h))))))))))))))))))))))))
end Wk
namespace Wk
open PySem PySem.Spec PyProof.Rows L2 Dn Tn
/-- a pool that drew n times at most -/
def PO (n : Nat) (p : List Int) : Prop := ∃ a b c : Int, p = [a, b, c] ∧ b.natAbs < 2 ^ 2000000 ∧ 0 ≤ c ∧ c ≤ n
theorem PO.mono {n m : Nat} {o : List Int} (h : PO n o) (k : n ≤ m) : PO m o := by
  obtain ⟨a, b, c, h1, h2, h3, h4⟩ := h
  exact ⟨a, b, c, h1, h2, h3, by omega⟩
theorem small_c {c : Int} {n : Nat} (h : 0 ≤ c) (h' : c ≤ n) (hn : n < 2 ^ 40) : (c + 1).natAbs < 2 ^ 2000000 := by
  have h1 : (c + 1).natAbs < 2 ^ 41 := by omega
  exact Nat.lt_of_lt_of_le h1 (Nat.pow_le_pow_right (by decide) (by decide))
theorem mix_ok (a c : Int) (ha : a.natAbs < 2 ^ 2000000) (hc : c.natAbs < 2 ^ 2000000) : ∃ r, t__law_mix a c = some r := by
  have h1 : mulP a 48271 = some (a * 48271) := mulP_ok (mulFit_by ha (by decide : (48271 : Int).natAbs < 2 ^ 20) (by decide))
  have h2 : mulP c 69621 = some (c * 69621) := mulP_ok (mulFit_by hc (by decide : (69621 : Int).natAbs < 2 ^ 20) (by decide))
  have h3 : mulP c 16807 = some (c * 16807) := mulP_ok (mulFit_by hc (by decide : (16807 : Int).natAbs < 2 ^ 20) (by decide))
  have h4 : ∀ x y : Int, mulP (x % 2147483647) (y % 2147483647) = some (x % 2147483647 * (y % 2147483647)) := fun x y => mulP_ok (mulFit_by (a := 31) (b := 31) (by omega) (by omega) (by decide))
  have h5 : ∀ x y : Int, mulP (x % 2147483629) (y % 2147483629) = some (x % 2147483629 * (y % 2147483629)) := fun x y => mulP_ok (mulFit_by (a := 31) (b := 31) (by omega) (by omega) (by decide))
  have h6 : ∀ x : Int, mulP (x % 2147483629) 40692 = some (x % 2147483629 * 40692) := fun x => mulP_ok (mulFit_by (a := 31) (b := 20) (by omega) (by decide) (by decide))
  have m1 : ∀ x : Int, modP x 2147483647 = some (x % 2147483647) := fun x => modP_ok (by decide)
  have m2 : ∀ x : Int, modP x 2147483629 = some (x % 2147483629) := fun x => modP_ok (by decide)
  have m3 : ∀ x : Int, modP x 2147483587 = some (x % 2147483587) := fun x => modP_ok (by decide)
  simp [t__law_mix, h1, h2, h3, h4, h5, h6, m1, m2, m3]
theorem draw_ok' {n : Nat} {o : List Int} {m : Int} (h : PO n o) (hn : n < 2 ^ 40) (hm : 0 < m) (hl : m.natAbs.log2 < 9000) : Ho (t__law_draw o m) fun r => 0 ≤ r.1 ∧ r.1 < m ∧ PO (n + 1) r.2 := by
  obtain ⟨a, b, c, rfl, h2, h3, h4⟩ := h
  have d1 : ∀ x, divP x m = some (x / m) := fun x => by simp [divP, hm, hl]
  have d2 : ∀ x, modP x m = some (x % m) := fun x => modP_ok hm
  by_cases ha : 0 < a
  · exact ⟨(a % m, [a / m, b, c]), by simp [t__law_draw, ha, d1, d2], Int.emod_nonneg _ (by omega), Int.emod_lt_of_pos _ hm, _, _, _, rfl, h2, h3, by omega⟩
  · obtain ⟨r, hr⟩ := mix_ok b (c + 1) h2 (small_c h3 h4 hn)
    exact ⟨(r % m, [a, b, c + 1]), by simp [t__law_draw, ha, d2, hr], Int.emod_nonneg _ (by omega), Int.emod_lt_of_pos _ hm, _, _, _, rfl, h2, by omega, by omega⟩
theorem draw_ok {n : Nat} {o : List Int} {m : Int} (h : PO n o) (hn : n < 2 ^ 40) (hm : 0 < m) (hm2 : m < 2 ^ 62) : Ho (t__law_draw o m) fun r => 0 ≤ r.1 ∧ r.1 < m ∧ PO (n + 1) r.2 :=
  draw_ok' h hn hm (by
    have := log2_small (k := 62) (show m.natAbs < 2 ^ 62 by omega)
    omega)
theorem cell_bits {ns : List Int} (hb : ∀ z ∈ ns, Builtin.Int.intBits z ≤ 1048576) (k : Nat) : (ns.getD k 0).natAbs < 2 ^ 1048576 := by
  rw [List.getD_eq_getElem?_getD]
  cases h : ns[k]? with
  | none => exact Nat.two_pow_pos _
  | some z => exact intBits_le_iff.mp (hb z (List.mem_of_getElem? h))
theorem cell_ok (ns : List Int) (k : Nat) : t__law_cell ns k = some (ns.getD k 0) := by
  by_cases h : k < ns.length
  · have e : atI ns (k : Int) = some ns[k] := atI_n (by simp [h])
    simp [t__law_cell, h, e]
  · simp [t__law_cell, h]
theorem mul64 {z : Int} {k : Nat} (h : z.natAbs < 2 ^ 1048576) (hk : k < 1000) : (z * 64 + k).natAbs < 2 ^ 2000000 := by
  have e1 : (z * 64 + k).natAbs ≤ z.natAbs * 64 + 1000 := by omega
  have e2 : z.natAbs * 64 + 1000 < 2 ^ 1048600 := by
    have : (2 : Nat) ^ 1048600 = 2 ^ 1048576 * 2 ^ 24 := by rw [← Nat.pow_add]
    rw [this]
    have q : (2 : Nat) ^ 24 = 16777216 := by decide
    rw [q]
    have : 0 < (2 : Nat) ^ 1048576 := Nat.two_pow_pos _
    generalize (2 : Nat) ^ 1048576 = y at *
    omega
  exact Nat.lt_of_le_of_lt e1 (Nat.lt_of_lt_of_le e2 (Nat.pow_le_pow_right (by decide) (by decide)))
theorem pool_ok {ns : List Int} (hb : ∀ z ∈ ns, Builtin.Int.intBits z ≤ 1048576) (k : Int) (hk0 : 0 ≤ k) (hk : k < 1000) : Ho (t__law_pool ns k) (PO 0) := by
  obtain ⟨j, rfl⟩ : ∃ j : Nat, k = j := ⟨k.toNat, by omega⟩
  have h1 := cell_bits hb j
  have h3 := cell_ok ns j
  have h4 := mul64 h1 (by omega : j < 1000)
  have h2 : mulP (ns.getD j 0) 64 = some (ns.getD j 0 * 64) := mulP_ok (mulFit_by h1 (by decide : (64 : Int).natAbs < 2 ^ 20) (by decide))
  unfold t__law_pool
  rw [h3]
  generalize ns.getD j 0 = z at *
  simp only [PR.opt_some, PR.bind_ok, h2]
  by_cases hz : 1000000000000000000 ≤ z
  · exact ⟨[z - 1000000000000000000, z * 64 + (j : Int), 0], by simp [hz], _, _, _, rfl, h4, Int.le_refl _, Int.le_refl _⟩
  · exact ⟨[0, z * 64 + (j : Int), 0], by simp [hz], _, _, _, rfl, h4, Int.le_refl _, Int.le_refl _⟩
theorem WordS.one {c : Nat} (h : 97 ≤ c) (h' : c ≤ 122) : WordS ⟨#[c]⟩ := ⟨Nat.le_refl 1, by show 1 ≤ 12; omega, one_low h h'⟩
theorem letter_at {r : Int} (h : 0 ≤ r) (h' : r < 26) : ∃ c, ixS "abcdefghijklmnopqrstuvwxyz" r = some ⟨#[c]⟩ ∧ 97 ≤ c ∧ c ≤ 122 := by
  obtain ⟨c, h1, h2⟩ := al_at h h'
  refine ⟨c, ?_, h2⟩
  have hf : fit ("abcdefghijklmnopqrstuvwxyz" : Str).length = true := fit_s (by decide +kernel)
  simp only [pIx, hf, if_true] at h1
  unfold ixS
  rw [if_pos hf]
  obtain ⟨d, h3, h4⟩ := Option.map_eq_some_iff.mp h1
  rw [h3]
  simp at h4
  simp [h4]
theorem letter_ok {n : Nat} {o : List Int} (h : PO n o) (hn : n < 2 ^ 40) {β : Type} {f : Str → Int × List Int → PR β} {Q : β → Prop} (k : ∀ r c p, 97 ≤ c → c ≤ 122 → PO (n + 1) p → Hp (f ⟨#[c]⟩ (r, p)) Q) : Hp ((PR.opt (t__law_draw o 26)).bind fun v => (PR.opt (ixS ("abcdefghijklmnopqrstuvwxyz" : Str) v.1)).bind fun z => f z v) Q := by
  obtain ⟨⟨r, p⟩, e, h1, h2, h3⟩ := draw_ok h hn (m := 26) (by decide) (by decide)
  obtain ⟨c, h4, h5, h6⟩ := letter_at h1 h2
  simp only [e, h4, PR.opt_some, PR.bind_ok]
  exact k r c p h5 h6 h3
theorem word_ok {n : Nat} {o : List Int} (h : PO n o) (hn : n + 20 < 2 ^ 40) : Ho (t__law_word o) fun r => WordS r.1 ∧ PO (n + 15) r.2 := by
  have l1 : ∀ c : Nat, (⟨#[c]⟩ : Str).length = 1 := fun _ => rfl
  have la : ("a" : Str).length = 1 := rfl
  have lz : ("z" : Str).length = 1 := rfl
  have wa : LowS "a" := fun c hc => by
    have : ("a" : Str).cps.toList = [97] := rfl
    rw [this] at hc
    simp at hc
    omega
  have wz : LowS "z" := fun c hc => by
    have : ("z" : Str).cps.toList = [122] := rfl
    rw [this] at hc
    simp at hc
    omega
  have hr : ∀ (z : Str) (k : Nat), z.length = 1 → (repS z k).length = k := fun z k hz => by rw [repS_len, hz]; omega
  unfold t__law_word
  simp only [PR.bind_assoc, PR.bind_ok]
  refine Hp.o (Hp.bo (draw_ok h (by omega) (by decide) (by decide)) fun ⟨sh, o1⟩ ⟨a1, a2, a3⟩ => ?_)
  dsimp only at a1 a2 a3 ⊢
  refine Hp.ite (fun s0 => ?_) fun s0 => ?_
  · exact letter_ok a3 (by omega) fun r c p c1 c2 hp => Hp.ret ⟨WordS.one c1 c2, hp.mono (by omega)⟩
  refine Hp.bo (draw_ok a3 (by omega) (by decide) (by decide)) fun ⟨sz, o3⟩ ⟨d3, d4, d2⟩ => ?_
  dsimp only at d3 d4 d2 ⊢
  have hsz : 1 + sz - 1 = sz := by omega
  rw [hsz]
  refine Hp.ite (fun s1 => ?_) fun s1 => ?_
  · refine Hp.bs (repSP_ok d3 (by omega) (by decide)) ?_
    refine letter_ok d2 (by omega) fun r c p c1 c2 hp => ?_
    have lw : (repS "a" sz.toNat ++ ⟨#[c]⟩ : Str).length = sz.toNat + 1 := by rw [app_len, hr _ _ la, l1]
    refine Hp.bs (catS_ok (by rw [hr _ _ la, l1]; omega)) ?_
    exact Hp.ret ⟨⟨by rw [lw]; omega, by rw [lw]; omega, (wa.rep _).app (one_low c1 c2)⟩, hp.mono (by omega)⟩
  refine Hp.ite (fun s2 => ?_) fun s2 => ?_
  · refine letter_ok d2 (by omega) fun r c p c1 c2 hp => ?_
    have lw : (⟨#[c]⟩ ++ repS "z" sz.toNat : Str).length = 1 + sz.toNat := by rw [app_len, hr _ _ lz, l1]
    refine Hp.bs (repSP_ok d3 (by omega) (by decide)) (Hp.bs (catS_ok (by rw [hr _ _ lz, l1]; omega)) ?_)
    exact Hp.ret ⟨⟨by rw [lw]; omega, by rw [lw]; omega, (one_low c1 c2).app (wz.rep _)⟩, hp.mono (by omega)⟩
  refine Hp.bs (rg1_ok (by omega) (by omega)) ?_
  obtain ⟨⟨ws, p⟩, g1, g2, g3, g4⟩ := lcS_inv (t := fun (_ : Int) (_ : List Int) => some true) (f := fun (_ : Int) (s : List Int) => ((PR.opt (t__law_draw s 26)).bind fun v24 => (PR.opt (ixS ("abcdefghijklmnopqrstuvwxyz" : Str) v24.1)).bind fun z25 => PR.ok (z25, v24.2)).o) (fun xs acc s => PO (n + 2 + acc.length) s ∧ xs.length + acc.length = (1 + sz).toNat ∧ ∀ w ∈ acc, w.length = 1 ∧ LowS w) (fun x xs acc s ⟨h1, h2, h3⟩ => by
    have h4 : acc.length ≤ 12 := by simp at h2; omega
    refine .inl ⟨rfl, ?_⟩
    obtain ⟨⟨w, s'⟩, e, q⟩ := (letter_ok (f := fun z25 (v24 : Int × List Int) => PR.ok (z25, v24.2)) (Q := fun r : Str × List Int => (r.1.length = 1 ∧ LowS r.1) ∧ PO (n + 2 + acc.length + 1) r.2) h1 (by omega) fun r c p c1 c2 hp => Hp.ret ⟨⟨rfl, one_low c1 c2⟩, hp⟩).o
    refine ⟨w, s', e, fit_s (by omega), q.2.mono (by simp; omega), by simp at h2 ⊢; omega, fun v hv => ?_⟩
    rcases List.mem_append.mp hv with hv | hv
    · exact h3 v hv
    · simp at hv; subst hv; exact q.1) (rng 0 (1 + sz).toNat) [] o3 ⟨d2.mono (by simp), by simp, by simp⟩
  simp at g2 g3 g4
  refine Hp.bs g1 ?_
  have w1 : ∀ w ∈ ws, w.length = 1 := fun w hw => (g4 w hw).1
  have e8 : joinP "" ws = some (Txt.join "" ws) := by
    have hj : fit ((ws.map (·.length)).sum + ws.length * ("" : Str).length) = true := fit_s (by
      have : ("" : Str).length = 0 := rfl
      rw [this, ones_sum ws w1]; omega)
    simp [joinP, hj]
  refine Hp.bs e8 ?_
  exact Hp.ret ⟨⟨by rw [joinE_len ws w1]; omega, by rw [joinE_len ws w1]; omega, joinE_low ws fun w hw => (g4 w hw).2⟩, g2.mono (by omega)⟩
end Wk
namespace Wk
open PySem PySem.Spec PyProof.Rows L2 Dn Tn
abbrev SPA : List Str := ["a", "b", "c", "d", "e"]
theorem sp_word : ∀ w ∈ SPA, WordS w := by
  have key : ∀ (w : Str) (c : Nat), w.cps = #[c] → 97 ≤ c → c ≤ 122 → WordS w := fun w c e h h' => by
    have : w = ⟨#[c]⟩ := by cases w; simp at e; rw [e]
    rw [this]
    exact WordS.one h h'
  intro w hw
  simp at hw
  rcases hw with rfl | rfl | rfl | rfl | rfl
  · exact key _ 97 rfl (by decide) (by decide)
  · exact key _ 98 rfl (by decide) (by decide)
  · exact key _ 99 rfl (by decide) (by decide)
  · exact key _ 100 rfl (by decide) (by decide)
  · exact key _ 101 rfl (by decide) (by decide)
theorem sp_nodup : SPA.Nodup := by decide +kernel
theorem spare_spec (ns : List Str) (h : ns.length ≤ 4) : ∃ w r, SPA.filter (fun s => !decide (s ∈ ns)) = w :: r ∧ w ∉ ns ∧ WordS w := by
  cases e : SPA.filter (fun s => !decide (s ∈ ns)) with
  | nil =>
    have hp := pigeon SPA ns sp_nodup fun x hx => by
      have := List.filter_eq_nil_iff.mp e x hx
      simpa using this
    have : SPA.length = 5 := rfl
    omega
  | cons w r =>
    have hw : w ∈ SPA.filter (fun s => !decide (s ∈ ns)) := by rw [e]; simp
    have := List.mem_filter.mp hw
    exact ⟨w, r, rfl, by simpa using this.2, sp_word w this.1⟩
theorem names_ok {n : Nat} {o : List Int} (h : PO n o) (hn : n + 200 < 2 ^ 40) {lo hi : Int} (h1 : 0 ≤ lo) (h2 : lo ≤ hi) (h3 : hi ≤ 5) : Ho (t__law_names o lo hi) fun r => PO (n + 80) r.2 ∧ (∀ w ∈ r.1, WordS w) ∧ r.1.Nodup ∧ lo ≤ r.1.length ∧ r.1.length ≤ hi := by
  unfold t__law_names
  simp only [PR.bind_assoc, PR.bind_ok]
  refine Hp.o (Hp.bo (draw_ok h (by omega) (m := hi - lo + 1) (by omega) (by omega)) fun ⟨r, o1⟩ ⟨a1, a2, a3⟩ => ?_)
  dsimp only at a1 a2 a3 ⊢
  refine Hp.bs (rg1_ok (by omega) (by omega)) ?_
  refine Hp.bind (Hp.fold (fun xs (s : List Int × List Str) => PO (n + 1 + 15 * s.2.length) s.1 ∧ xs.length + s.2.length = (lo + r).toNat ∧ (∀ w ∈ s.2, WordS w) ∧ s.2.Nodup) (fun x xs s ⟨b1, b2, b3, b4⟩ => ?step) _ _ ⟨a3.mono (by simp), by simp, by simp, by simp⟩) fun s ⟨b1, b2, b3, b4⟩ => ?rest
  case step =>
    obtain ⟨p, ns⟩ := s
    dsimp only at b1 b2 b3 b4 ⊢
    simp only [List.length_cons] at b2
    refine Hp.bo (word_ok b1 (by omega)) fun ⟨w, p1⟩ ⟨c1, c2⟩ => ?_
    dsimp only at c1 c2 ⊢
    by_cases hin : w ∈ ns
    · obtain ⟨w2, r2, q1, q2, q3⟩ := spare_spec ns (by omega)
      rw [if_pos (by simpa using hin)]
      simp only [PR.bind_assoc]
      refine Hp.bs (lcP_fil (fun s => !decide (s ∈ ns)) SPA (fun x _ => rfl) (by simp)) ?_
      rw [q1]
      simp only [atI_0, PR.opt_some, PR.bind_ok]
      refine Hp.bs (appP_ok (by omega)) (Hp.ret ⟨c2.mono (by simp; omega), by simp; omega, fun v hv => ?_, ?_⟩)
      · rcases List.mem_append.mp hv with hv | hv
        · exact b3 v hv
        · simp at hv; subst hv; exact q3
      · rw [List.nodup_append]
        exact ⟨b4, by simp, fun a ha b hb => by simp at hb; subst hb; intro z; subst z; exact q2 ha⟩
    · rw [if_neg (by simpa using hin)]
      simp only [PR.bind_ok]
      refine Hp.bs (appP_ok (by omega)) (Hp.ret ⟨c2.mono (by simp; omega), by simp; omega, fun v hv => ?_, ?_⟩)
      · rcases List.mem_append.mp hv with hv | hv
        · exact b3 v hv
        · simp at hv; subst hv; exact c1
      · rw [List.nodup_append]
        exact ⟨b4, by simp, fun a ha b hb => by simp at hb; subst hb; intro z; subst z; exact hin ha⟩
  case rest =>
    simp only [List.length_nil] at b2
    exact Hp.ret ⟨b1.mono (by omega), b3, b4, by dsimp only; omega, by dsimp only; omega⟩
theorem choice_ok {n : Nat} {o : List Int} {ns : List Str} {k : Int} (h : PO n o) (hn : n + 3000 < 2 ^ 40) (hal : ns.length ≤ 1000) (hk0 : 0 ≤ k) (hk : k ≤ ns.length) : Ho (t__law_choice o ns k) fun r => PO (n + k.toNat) r.2 ∧ r.1.length = k.toNat ∧ ∃ rest, (rest ++ r.1).Perm ns := by
  unfold t__law_choice
  simp only [PR.bind_assoc, PR.bind_ok, PR.lt_eq]
  refine Hp.o (Hp.bs (rg1_ok (by omega) (by omega)) ?_)
  refine Hp.bind (Hp.fold (fun xs (s : List Int × List Str × List Str) => PO (n + s.2.2.length) s.1 ∧ xs.length + s.2.2.length = k.toNat ∧ (s.2.1 ++ s.2.2).Perm ns) (fun x xs s ⟨b1, b2, b3⟩ => ?step) _ _ ⟨h.mono (by simp), by simp, by simp⟩) fun s ⟨b1, b2, b3⟩ => ?rest
  case step =>
    obtain ⟨p, ls, cs⟩ := s
    dsimp only at b1 b2 b3 ⊢
    simp only [List.length_cons] at b2
    have hl := b3.length_eq
    simp only [List.length_append] at hl
    refine Hp.bo (draw_ok b1 (by omega) (m := (ls.length : Int)) (by omega) (by omega)) fun ⟨r, p1⟩ ⟨c1, c2, c3⟩ => ?_
    dsimp only at c1 c2 c3 ⊢
    obtain ⟨j, rfl⟩ : ∃ j : Nat, r = j := ⟨r.toNat, by omega⟩
    have hj : j < ls.length := by omega
    refine Hp.bs (popAtP_ok hj (by omega)) (Hp.bs (appP_ok (by omega)) (Hp.ret ⟨c3.mono (by simp; omega), by simp; omega, ?_⟩))
    exact (perm_move ls cs j hj).trans b3
  case rest =>
    simp only [List.length_nil] at b2
    exact Hp.ret ⟨b1.mono (by omega), by dsimp only; omega, _, b3⟩
theorem ballot_ok {n : Nat} {o : List Int} {ns : List Str} (h : PO n o) (hn : n + 5000 < 2 ^ 40) (hal : ns.length ≤ 1000) : Ho (t__law_ballot o ns) fun r => PO (n + 1 + ns.length) r.2 ∧ Blt ns r.1 := by
  unfold t__law_ballot
  simp only [PR.bind_assoc, PR.bind_ok]
  refine Hp.o (Hp.bo (draw_ok h (by omega) (m := (ns.length : Int) + 1) (by omega) (by omega)) fun ⟨r, o1⟩ ⟨a1, a2, a3⟩ => ?_)
  dsimp only at a1 a2 a3 ⊢
  exact Hp.bo (choice_ok a3 (by omega) hal a1 (by omega)) fun ⟨cs, p⟩ ⟨b1, _, b2⟩ => Hp.ret ⟨b1.mono (by dsimp only at *; omega), b2⟩
end Wk
namespace Wk
open PySem PySem.Spec PyProof.Rows L2 Dn Tn
def SD : Nat → D → Prop
  | 0, _ => False
  | _ + 1, .non => True
  | _ + 1, .bl _ => True
  | _ + 1, .int _ => True
  | _ + 1, .str _ => True
  | n + 1, .tup xs => xs.length ≤ 100000 ∧ ∀ d ∈ xs, SD n d
  | n + 1, .lst xs => xs.length ≤ 100000 ∧ ∀ d ∈ xs, SD n d
  | _ + 1, _ => False
theorem same_seq (n : Nat) (xs : List D) (t : D) (e : t = .tup xs ∨ t = .lst xs) (hl : xs.length ≤ 100000) (h : ∀ x ∈ xs, t__law_same n x x = some true) : t__law_same (n + 1) t t = some true := by
  have q1 : L2.kitB "tuple" "bool" = some false := by decide +kernel
  have q2 : L2.kitB "tuple" "int" = some false := by decide +kernel
  have q3 : L2.kitB "tuple" "str" = some false := by decide +kernel
  have q4 : L2.kitB "tuple" "tuple" = some true := by decide +kernel
  have q5 : L2.kitB "tuple" "list" = some false := by decide +kernel
  have r1 : L2.kitB "list" "bool" = some false := by decide +kernel
  have r2 : L2.kitB "list" "int" = some false := by decide +kernel
  have r3 : L2.kitB "list" "str" = some false := by decide +kernel
  have r4 : L2.kitB "list" "tuple" = some false := by decide +kernel
  have r5 : L2.kitB "list" "list" = some true := by decide +kernel
  have hg : rg1 (xs.length : Int) = some (rng 0 xs.length) := by
    rw [rg1_ok (by omega) (by omega)]; simp
  have hi : ∀ x ∈ rng 0 xs.length, ∃ d ∈ xs, ixD t x = some d := fun x hx => by
    obtain ⟨i, hi, rfl⟩ := rng_mem.mp hx
    refine ⟨xs[i], List.getElem_mem hi, ?_⟩
    have : atI xs ((i : Nat) : Int) = some xs[i] := atI_n (by simp [hi])
    rcases e with rfl | rfl <;> simp [ixD, pIx, this]
  have loop : forO (ρ := Bool) (fun (x : Int) (_ : Unit) => ((((PR.opt (ixD t x)).bind fun v29 => ((PR.opt (ixD t x)).bind fun v31 => PR.ok (v29, v31))).bind fun v32 => (PR.opt (t__law_same n v32.1 v32.2))).bind fun v33 => if (!v33) = true then (PR.ok (.rt false)) else (PR.ok (.nx ())))) (rng 0 xs.length) () = .ok (.nx ()) := forO_pass _ fun x hx => by
    obtain ⟨d, h1, h2⟩ := hi x hx
    simp [h2, h d h1]
  have hlen : lenD t = some (xs.length : Int) := by rcases e with rfl | rfl <;> simp [lenD, pLen]
  have hnon : D.isNon t = false := by rcases e with rfl | rfl <;> rfl
  unfold t__law_same
  rcases e with rfl | rfl <;> simp only [hnon, D.tyN, Option.bind_some, q1, q2, q3, q4, q5, r1, r2, r3, r4, r5, PR.opt_some, PR.bind_ok, hlen, hg, loop, thenO_nx, Bool.false_eq_true, if_false, if_true, Bool.not_true, Bool.not_false, decide_true, PR.o_ok]
theorem same_ok : ∀ (n : Nat) (d : D), SD n d → t__law_same n d d = some true
  | 0, _, h => h.elim
  | n + 1, d, h => by
    cases d with
    | tup xs => exact same_seq n xs _ (.inl rfl) h.1 fun x hx => same_ok n x (h.2 x hx)
    | lst xs => exact same_seq n xs _ (.inr rfl) h.1 fun x hx => same_ok n x (h.2 x hx)
    | non => simp [t__law_same, D.isNon]
    | bl b =>
      have t1 : L2.kitB "bool" "bool" = some true := by decide +kernel
      simp [t__law_same, D.isNon, D.tyN, t1, pEqB_B]
    | int b =>
      have r1 : L2.kitB "int" "bool" = some false := by decide +kernel
      have r2 : L2.kitB "int" "int" = some true := by decide +kernel
      simp [t__law_same, D.isNon, D.tyN, r1, r2, pEqB_I]
    | str b =>
      have q1 : L2.kitB "str" "bool" = some false := by decide +kernel
      have q2 : L2.kitB "str" "int" = some false := by decide +kernel
      have q3 : L2.kitB "str" "str" = some true := by decide +kernel
      simp [t__law_same, D.isNon, D.tyN, q1, q2, q3, pEqB_S]
    | _ => exact h.elim
theorem sd_map {α : Type} {n : Nat} {e : α → D} {xs : List α} (hl : xs.length ≤ 100000) (h : ∀ x ∈ xs, SD n (e x)) : SD (n + 1) (eTup e xs) ∧ SD (n + 1) (eLst e xs) := by
  have : ∀ d ∈ xs.map e, SD n d := fun d hd => by
    obtain ⟨x, hx, rfl⟩ := List.mem_map.mp hd
    exact h x hx
  exact ⟨⟨by simpa using hl, this⟩, ⟨by simpa using hl, this⟩⟩
theorem sd_strs (n : Nat) (ws : List Str) (h : ws.length ≤ 100000) : SD (n + 2) (eTup D.str ws) := (sd_map (n := n + 1) (e := D.str) h fun w _ => (trivial : SD (n + 1) (.str w))).1
theorem sd_pr {α β : Type} {n : Nat} {e : α → D} {f : β → D} {p : α × β} (h : SD n (e p.1)) (h' : SD n (f p.2)) : SD (n + 1) (ePr e f p) := ⟨by simp, fun d hd => by
  simp only [List.mem_cons, List.not_mem_nil, or_false] at hd
  rcases hd with rfl | rfl
  · exact h
  · exact h'⟩
theorem sd_rows (n : Nat) (rs : List Rw) (h : rs.length ≤ 100000) (hb : ∀ r ∈ rs, r.1.length ≤ 100000) : SD (n + 4) (eLst (ePr (eTup D.str) D.int) rs) ∧ SD (n + 4) (eTup (ePr (eTup D.str) D.int) rs) :=
  (sd_map (n := n + 3) (e := ePr (eTup D.str) D.int) h fun r hr => sd_pr (n := n + 2) (e := eTup D.str) (f := D.int) (sd_strs n r.1 (hb r hr)) (trivial : SD (n + 2) (.int r.2))).symm
end Wk
namespace Wk
open PySem PySem.Spec PyProof.Rows L2 Dn Tn
theorem en_mem {α : Type} : ∀ {l : List α} {k : Nat} {p : Int × α}, p ∈ en k l → ∃ pre post, l = pre ++ p.2 :: post ∧ p.1 = k + pre.length
  | [], _, _, h => nomatch h
  | x :: l, k, p, h => by
    rcases List.mem_cons.mp h with rfl | h
    · exact ⟨[], l, rfl, by simp⟩
    · obtain ⟨pre, post, h1, h2⟩ := en_mem h
      exact ⟨x :: pre, post, by rw [h1]; rfl, by rw [h2]; simp; omega⟩
theorem fold_unit {α : Type} {f : α → Unit → PR Unit} (xs : List α) (h : ∀ x ∈ xs, f x () = .ok ()) : foldP f xs () = .ok () := by
  rw [fold_ok' (g := fun s _ => s) xs () fun x hx s => h x hx]
theorem cut_pre {α : Type} {l pre post : List α} {x : α} {i : Int} (h : l = pre ++ x :: post) (hi : i = 0 + pre.length) : Dn.cutD l none (some i) = pre := by
  rw [Dn.cutD_take (by omega) (by rw [h]; simp; omega), h]
  have : i.toNat = pre.length := by omega
  rw [this]; simp
theorem sgns_mem {w : Str} {x : Str} (h : x ∈ sgns w) : ∃ c ∈ w.cps.toList, x = ⟨#[c]⟩ := by
  obtain ⟨c, h1, h2⟩ := List.mem_map.mp h
  exact ⟨c, h1, h2.symm⟩
theorem sgns_len (w : Str) : (sgns w).length = w.length := by simp [sgns, len_s]
/-- one sign among the letters -/
theorem in_al (c : Nat) : pInB (D.str ⟨#[c]⟩) (D.str ("abcdefghijklmnopqrstuvwxyz" : Str)) = some (decide (97 ≤ c ∧ c ≤ 122)) := by
  have h : pInB (D.str ⟨#[c]⟩) (D.str ("abcdefghijklmnopqrstuvwxyz" : Str)) = some (decide (c ∈ ("abcdefghijklmnopqrstuvwxyz" : Str).cps.toList)) := by simp [pInB]
  rw [h]
  have e : ("abcdefghijklmnopqrstuvwxyz" : Str).cps.toList = [97, 98, 99, 100, 101, 102, 103, 104, 105, 106, 107, 108, 109, 110, 111, 112, 113, 114, 115, 116, 117, 118, 119, 120, 121, 122] := al_tl
  rw [e]
  congr 1
  refine decide_eq_decide.mpr ?_
  simp only [List.mem_cons, List.not_mem_nil, or_false]
  omega
def lowB (w : Str) : Bool := w.cps.toList.all fun c => decide (97 ≤ c ∧ c ≤ 122)
def isNm (w : Str) : Bool := decide (1 ≤ w.length) && decide (w.length ≤ 12) && lowB w
theorem isNm_word {w : Str} : isNm w = true ↔ WordS w := by
  unfold isNm lowB WordS LowS
  rw [Bool.and_eq_true, Bool.and_eq_true, List.all_eq_true]
  simp only [decide_eq_true_eq, and_assoc]
theorem is_name_ok (w : Str) (h : w.length ≤ 100000) : t_is_name w = some (isNm w) := by
  unfold t_is_name
  simp only [lenS_ok h, PR.opt_some, PR.bind_ok]
  by_cases h1 : 1 ≤ w.length ∧ w.length ≤ 12
  · have e := lcP_map (f := fun x4 : Str => (PR.opt (pInB (D.str x4) (D.str ("abcdefghijklmnopqrstuvwxyz" : Str)))).o) (fun x => x.cps.toList.all fun c => decide (97 ≤ c ∧ c ≤ 122)) (sgns w) (fun x hx => by
      obtain ⟨c, _, rfl⟩ := sgns_mem hx
      rw [in_al]
      simp) (by rw [sgns_len]; exact h)
    have e2 : ((sgns w).map fun x => x.cps.toList.all fun c => decide (97 ≤ c ∧ c ≤ 122)).all id = lowB w := by simp [sgns, lowB, List.all_map, Function.comp_def]
    have h3 : (1 : Int) ≤ (w.length : Int) ∧ (w.length : Int) ≤ 12 := by omega
    simp only [h3.1, h3.2, decide_true, Bool.and_self, Bool.not_true, Bool.false_eq_true, if_false, e, PR.opt_some, PR.bind_ok, PR.o_ok, e2]
    simp [isNm, h1.1, h1.2]
  · have h3 : (decide ((1 : Int) ≤ (w.length : Int)) && decide ((w.length : Int) ≤ 12)) = false := by
      simp only [Bool.and_eq_false_iff, decide_eq_false_iff_not]
      omega
    have h4 : isNm w = false := by
      simp only [isNm, Bool.and_eq_false_iff, decide_eq_false_iff_not]
      omega
    simp [h3, h4]
theorem chk_good {ns : List Str} (S : Sla ns) : t_checked_names ns = some ns := by
  unfold t_checked_names
  have h1 : (decide (1 ≤ (ns.length : Int)) && decide ((ns.length : Int) ≤ 5)) = true := by
    have := S.l1; have := S.l5
    simp; omega
  rw [h1]
  simp only [Bool.not_true, Bool.false_eq_true, if_false]
  rw [fold_unit]
  · rfl
  · intro p hp
    obtain ⟨pre, post, e1, e2⟩ := en_mem hp
    have hm : p.2 ∈ ns := by rw [e1]; simp
    have hw := S.w _ hm
    have hn : p.2 ∉ pre := by
      have := S.d
      rw [e1] at this
      exact fun h => (List.nodup_append.mp this).2.2 _ h _ (by simp) rfl
    have e3 : Dn.cutD ns none (some p.1) = pre := cut_pre e1 (by simpa using e2)
    rw [is_name_ok _ (by have := hw.2.1; omega), isNm_word.mpr hw, e3]
    simp [hn]
theorem cb_good {ns b : List Str} (h : ∀ w ∈ b, w ∈ ns) (hd : b.Nodup) : t_checked_ballot ns b = some b := by
  unfold t_checked_ballot
  rw [fold_unit]
  · rfl
  · intro p hp
    obtain ⟨pre, post, e1, e2⟩ := en_mem hp
    have hm : p.2 ∈ ns := h _ (by rw [e1]; simp)
    have hn : p.2 ∉ pre := by
      rw [e1] at hd
      exact fun h => (List.nodup_append.mp hd).2.2 _ h _ (by simp) rfl
    have e3 : Dn.cutD b none (some p.1) = pre := cut_pre e1 (by simpa using e2)
    rw [e3]
    simp [hm, hn]
theorem cb_blt {ns b : List Str} (S : Sla ns) (h : Blt ns b) : t_checked_ballot ns b = some b := cb_good (fun _ hw => h.mem hw) (h.nodup S.d)
theorem sum_of_ok {rs : List Rw} {b : List Str} (hl : rs.length ≤ 100000) (hw : ∀ r ∈ rs, ∀ w ∈ r.1, LowS w) (hb : ∀ w ∈ b, LowS w) : t__law_sum_of rs b = some (sumOf rs b) := by
  unfold t__law_sum_of
  rw [lcP_ok (fun r : Rw => decide (r.1 = b)) (fun r : Rw => r.2) rs 0 (fun r hr => by rw [pEqB_T _ _ (hw r hr) hb]; rfl) (fun _ _ _ => rfl) (by omega)]
  rfl
theorem ahead_ok {ns x y : List Str} (hx : ∀ w ∈ x, w ∈ ns) (hy : ∀ w ∈ y, w ∈ ns) (hlx : x.length ≤ 1000) (hly : y.length ≤ 1000) : t__law_ahead ns x y = some (decide (ixs ns x < ixs ns y)) := by
  unfold t__law_ahead
  have hm : (if (y.length : Int) < (x.length : Int) then (y.length : Int) else (x.length : Int)) = ((min x.length y.length : Nat) : Int) := by
    split <;> omega
  rw [hm, rg1_ok (by omega) (by omega)]
  simp only [PR.opt_some, PR.bind_ok, Int.toNat_natCast]
  generalize hF : (fun (x3 : Int) (_ : Unit) => (((PR.opt (atI x x3)).bind fun v4 => ((PR.opt (atI y x3)).bind fun v5 => (PR.ok (!decide (v4 = v5))))).bind fun v6 => if v6 = true then ((((PR.opt (atI x x3)).bind fun v7 => (PR.opt (tixP ns v7))).bind fun v8 => (((PR.opt (atI y x3)).bind fun v9 => (PR.opt (tixP ns v9))).bind fun v10 => (PR.ok (decide (v8 < v10))))).bind fun v11 => PR.ok (Out.rt v11)) else (PR.ok (.nx ())))) = F
  have key : ∀ (u v pre : List Str), x = pre ++ u → y = pre ++ v → forO (ρ := Bool) F (rng (pre.length : Int) (min u.length v.length)) () = .ok (.rt (decide (ixs ns u < ixs ns v))) ∨ (forO (ρ := Bool) F (rng (pre.length : Int) (min u.length v.length)) () = .ok (.nx ()) ∧ decide ((x.length : Int) < (y.length : Int)) = decide (ixs ns u < ixs ns v)) := by
    intro u
    induction u with
    | nil => exact fun v pre e1 e2 => .inr ⟨by simp [rng, forO], by cases v <;> simp [e1, e2, ixs]; omega⟩
    | cons a u ih =>
      intro v pre e1 e2
      cases v with
      | nil => exact .inr ⟨by simp [rng, forO], by simp [e1, e2, ixs]; omega⟩
      | cons b v =>
        have hr : rng (pre.length : Int) (min (a :: u).length (b :: v).length) = (pre.length : Int) :: rng (pre.length + 1 : Int) (min u.length v.length) := by
          have : min (a :: u).length (b :: v).length = min u.length v.length + 1 := by simp only [List.length_cons]; omega
          rw [this]
          unfold rng
          rw [List.range_succ_eq_map, List.map_cons, List.map_map]
          exact List.cons_eq_cons.mpr ⟨by simp, List.map_congr_left fun i _ => by simp only [Function.comp]; omega⟩
        have hax : atI x (pre.length : Int) = some a := atI_n (by rw [e1]; simp)
        have hay : atI y (pre.length : Int) = some b := atI_n (by rw [e2]; simp)
        have hna : a ∈ ns := hx a (by rw [e1]; simp)
        have hnb : b ∈ ns := hy b (by rw [e2]; simp)
        rw [hr]
        unfold forO
        by_cases h : a = b
        · subst h
          have hb : F (pre.length : Int) () = .ok (.nx ()) := by rw [← hF]; simp [hax, hay]
          rw [hb]
          have e : (ixs ns (a :: u) < ixs ns (a :: v)) ↔ ixs ns u < ixs ns v := by
            rw [ixs_cons, ixs_cons]
            exact app_lt [_] _ _
          have k := ih v (pre ++ [a]) (by rw [e1]; simp) (by rw [e2]; simp)
          have el : ((pre ++ [a]).length : Int) = pre.length + 1 := by simp
          rw [el] at k
          rw [decide_eq_decide.mpr e]
          exact k
        · have hne : ns.idxOf a ≠ ns.idxOf b := fun q => h (idx_inj hna hnb q)
          have e' : decide (ixs ns (a :: u) < ixs ns (b :: v)) = decide (((ns.idxOf a : Nat) : Int) < ((ns.idxOf b : Nat) : Int)) := by
            refine decide_eq_decide.mpr ?_
            rw [ixs_cons, ixs_cons, List.cons_lt_cons_iff]
            constructor
            · rintro (q | ⟨q, _⟩)
              · exact q
              · exact absurd q (by omega)
            · exact .inl
          have hb : F (pre.length : Int) () = .ok (.rt (decide (((ns.idxOf a : Nat) : Int) < ((ns.idxOf b : Nat) : Int)))) := by
            rw [← hF]; simp [hax, hay, h, tixP, ixOf_idx hna, ixOf_idx hnb]
          rw [hb, e']
          exact .inl rfl
  have k := key x y [] rfl rfl
  simp only [List.length_nil] at k
  rcases k with k | ⟨k, k2⟩
  · rw [show ((0 : Nat) : Int) = 0 from rfl] at k
    rw [k]; rfl
  · rw [show ((0 : Nat) : Int) = 0 from rfl] at k
    rw [k]
    simp only [thenO_nx, k2, PR.o_ok]
theorem ordered_ok {ns : List Str} {rs : List Rw} (S : Sla ns) (hr : RwsB ns rs) (hl : rs.length ≤ 1000) : ∃ L, IsOrd ns (sumOf rs) L ∧ t__law_ordered ns rs = some (rsOf (sumOf rs) L) ∧ L.length ≤ rs.length := by
  have h5 := S.l5
  have hlow : ∀ r ∈ rs, ∀ w ∈ r.1, LowS w := fun r q => S.bl (hr r q)
  have hsum : ∀ b, Blt ns b → t__law_sum_of rs b = some (sumOf rs b) := fun b hb => sum_of_ok (by omega) hlow (S.bl hb)
  have main : Ho (t__law_ordered ns rs) fun R => ∃ L, IsOrd ns (sumOf rs) L ∧ R = rsOf (sumOf rs) L ∧ L.length ≤ rs.length := by
    unfold t__law_ordered
    refine Hp.o (Hp.bind (Hp.fold (fun xs (F : List (List Str)) => ∃ pre, rs = pre ++ xs ∧ (F.Pairwise fun x y => ixs ns x < ixs ns y) ∧ (∀ b, b ∈ F ↔ b ∈ pre.map (·.1) ∧ 0 < sumOf rs b) ∧ F.length ≤ pre.length) (fun r xs F ⟨pre, e1, hF, hm, hFl⟩ => ?step) _ _ ⟨[], rfl, .nil, by simp, Nat.le_refl _⟩) fun F ⟨pre, e1, hF, hm, hFl⟩ => ?rest)
    case rest =>
      rw [List.append_nil] at e1
      subst e1
      have hB : ∀ b ∈ F, Blt ns b := fun b hb => by
        obtain ⟨q, hq, rfl⟩ := List.mem_map.mp ((hm b).mp hb).1
        exact hr q hq
      refine Hp.opt ⟨_, lcP_map (fun b => (b, sumOf rs b)) F (fun b hb => by rw [hsum b (hB b hb)]; rfl) (by omega), F, ⟨hF, fun b => (hm b).trans ⟨fun h => h.2, fun h => ⟨sumOf_mem h, h⟩⟩⟩, rfl, hFl⟩
    case step =>
      obtain ⟨b, c⟩ := r
      dsimp only
      have hmem : (b, c) ∈ rs := by rw [e1]; simp
      have hlen : rs.length = pre.length + (xs.length + 1) := by rw [e1]; simp
      have hB : Blt ns b := hr _ hmem
      have hFm : ∀ x ∈ F, Blt ns x := fun x hx => by
        obtain ⟨q, hq, rfl⟩ := List.mem_map.mp ((hm x).mp hx).1
        exact hr q (by rw [e1]; simp [hq])
      have hpm : ∀ z : List Str, z ∈ (pre ++ [(b, c)]).map (·.1) ↔ z ∈ pre.map (·.1) ∨ z = b := fun z => by simp
      rw [pInB_T b F (S.bl hB) fun x hx => S.bl (hFm x hx), hsum b hB]
      by_cases hq : b ∉ F ∧ 0 < sumOf rs b
      · obtain ⟨q1, q2⟩ := hq
        have hne : ∀ x ∈ F, ixs ns x ≠ ixs ns b := fun x hx e => q1 (by rw [← ixs_inj (fun w hw => (hFm x hx).mem hw) (fun w hw => hB.mem hw) e]; exact hx)
        obtain ⟨A, B, a1, a2, a3, a4⟩ := ord_cut hF hne
        have hfl : F.length = A.length + B.length := by rw [a1]; simp
        have hc := lcP_fil (t := fun x10 => (PR.opt (t__law_ahead ns x10 b)).o) (fun x => decide (ixs ns x < ixs ns b)) F (fun x hx => by
          rw [ahead_ok (fun w hw => (hFm x hx).mem hw) (fun w hw => hB.mem hw) (Nat.le_trans (hFm x hx).len (by omega)) (Nat.le_trans hB.len (by omega))]; rfl) (by omega)
        rw [a4] at hc
        have hi : insP F (A.length : Int) b = some (A ++ [b] ++ B) := by
          rw [insP_ok (by omega) (by omega) (by omega), a1]
          simp
        refine Hp.imp (P := fun z => z = A ++ [b] ++ B) (Hp.eq (by simp [q1, q2, hc, hi])) fun F' hz => ?_
        subst hz
        refine ⟨pre ++ [(b, c)], by rw [e1]; simp, ord_ins (b := b) (by rw [← a1]; exact hF) a2 a3, fun z => ?_, by simp; omega⟩
        · have : z ∈ A ++ [b] ++ B ↔ z ∈ F ∨ z = b := by
            rw [a1]
            simp only [List.mem_append, List.mem_singleton]
            constructor
            · rintro ((h | h) | h) <;> simp [h]
            · rintro ((h | h) | h) <;> simp [h]
          rw [this, hpm, hm z]
          constructor
          · rintro (⟨h1, h2⟩ | rfl)
            · exact ⟨.inl h1, h2⟩
            · exact ⟨.inr rfl, q2⟩
          · rintro ⟨h1 | rfl, h2⟩
            · exact .inl ⟨h1, h2⟩
            · exact .inr rfl
      · have : Hp (PR.ok F) fun F => ∃ pre, rs = pre ++ xs ∧ (F.Pairwise fun x y => ixs ns x < ixs ns y) ∧ (∀ b, b ∈ F ↔ b ∈ pre.map (·.1) ∧ 0 < sumOf rs b) ∧ F.length ≤ pre.length := by
          refine Hp.ret ⟨pre ++ [(b, c)], by rw [e1]; simp, hF, fun z => ?_, by simp; omega⟩
          rw [hpm, hm z]
          constructor
          · rintro ⟨h1, h2⟩
            exact ⟨.inl h1, h2⟩
          · rintro ⟨h1 | rfl, h2⟩
            · exact ⟨h1, h2⟩
            · exact ((hm z).mp (Decidable.byContradiction fun h => hq ⟨h, h2⟩))
        obtain ⟨F', hF', q⟩ := this
        cases hF'
        by_cases q1 : b ∈ F
        · exact Hp.imp (P := fun z => z = F) (Hp.eq (by simp [q1])) fun F' hz => hz ▸ q
        · have q2 : ¬ 0 < sumOf rs b := fun z => hq ⟨q1, z⟩
          exact Hp.imp (P := fun z => z = F) (Hp.eq (by simp [q1, q2])) fun F' hz => hz ▸ q
  obtain ⟨R, e, L, h1, rfl, h3⟩ := main
  exact ⟨L, h1, e, h3⟩
end Wk
namespace Wk
open PySem PySem.Spec PyProof.Rows L2 Dn Tn
theorem sorted_rows_ok {ns : List Str} {s : List Str → Int} {ks : List (List Str)} (hk : ks.length ≤ 1000) (hn : ns.length ≤ 1000) (hm : ∀ b ∈ ks, Blt ns b) : t_sorted_rows ns (rsOf s ks) = some (rsOf s (srtB ns (ks.filter fun b => decide (0 < s b)))) := by
  have g : ∀ b ∈ ks, getA (rsOf s ks) b = some (s b) := fun b hb => by rw [getA_rs, if_pos hb]
  have hbl : ∀ b ∈ ks, b.length ≤ 1000 := fun b hb => Nat.le_trans (hm b hb).len hn
  unfold t_sorted_rows
  rw [rsOf_keys]
  rw [lcP_ok (fun b => decide (0 < s b)) (ixs ns) ks 0 (fun b hb => by rw [g b hb]; rfl) (fun b hb _ => by
    rw [lcP_map (fun w => ((ns.idxOf w : Nat) : Int)) b (fun w hw => by
      unfold tixP
      rw [ixOf_idx ((hm b hb).mem hw)]
      rfl) (by have := hbl b hb; omega)]
    rfl) (by omega)]
  simp only [PR.opt_some, PR.bind_ok]
  rw [sort_ixs]
  simp only [PR.opt_some, PR.bind_ok]
  show PR.o ((PR.opt (lcP _ _ ((srtB ns (ks.filter fun b => decide (0 < s b))).map (ixs ns)) 0)).bind _) = _
  have hM : ∀ b ∈ srtB ns (ks.filter fun b => decide (0 < s b)), b ∈ ks := fun b hb => (List.mem_filter.mp (List.mem_mergeSort.mp hb)).1
  have hL : (srtB ns (ks.filter fun b => decide (0 < s b))).length ≤ 1000 := by
    unfold srtB
    rw [List.length_mergeSort]
    exact Nat.le_trans (List.length_filter_le _ _) hk
  generalize srtB ns (ks.filter fun b => decide (0 < s b)) = L at *
  rw [lcP_map (fun k : List Int => k.map fun i => (ns[i.toNat]?).getD ("" : Str)) (L.map (ixs ns)) (fun k hkk => by
    obtain ⟨b, hb, rfl⟩ := List.mem_map.mp hkk
    have hB := hm b (hM b hb)
    rw [lcP_map (fun i : Int => (ns[i.toNat]?).getD ("" : Str)) (ixs ns b) (fun i hi => by
      obtain ⟨w, hw, rfl⟩ := List.mem_map.mp hi
      have e := idx_at (hB.mem hw)
      rw [atI_n e]
      simp [e]) (by rw [ixs_len]; have := hbl b (hM b hb); omega)]
    rfl) (by rw [List.length_map]; omega)]
  have e : (L.map (ixs ns)).map (fun k : List Int => k.map fun i => (ns[i.toNat]?).getD ("" : Str)) = L := by
    rw [List.map_map]
    refine (List.map_congr_left fun b hb => ?_).trans (List.map_id _)
    simp only [Function.comp, ixs, List.map_map, id]
    refine (List.map_congr_left fun w hw => ?_).trans (List.map_id _)
    have e := idx_at ((hm b (hM b hb)).mem hw)
    simp [e]
  rw [e]
  simp only [PR.opt_some, PR.bind_ok]
  rw [lcP_map (fun b => (b, s b)) L (fun b hb => by rw [g b (hM b hb)]; rfl) (by omega)]
  rfl
theorem putP_rs {s t : List Str → Int} {b : List Str} {ks : List (List Str)} (hl : ks.length < 100000) (h : ∀ c, c ≠ b → t c = s c) : putP (rsOf s ks) b (t b) = some (rsOf t (if b ∈ ks then ks else ks ++ [b])) := by
  unfold putP
  rw [putA_rs h, if_pos]
  refine fit_s ?_
  unfold rsOf
  split <;> simp <;> omega
def LgOk (big : Option Int) (rs : List Rw) : Prop := ∀ m, big = some m → ∀ r ∈ rs, r.2 ≤ m
theorem LgOk.none {rs : List Rw} : LgOk none rs := fun m h => nomatch h
theorem _root_.Tn.RwsOk.lg {ns : List Str} {rs : List Rw} (h : RwsOk ns rs) : LgOk (some 1000000000000) rs := fun m e r hr => by cases e; exact (h r hr).2.2
theorem init_ok {ns : List Str} {rs : List Rw} {big : Option Int} (S : Sla ns) (hr : RwsP ns rs) (hb : LgOk big rs) (hl : rs.length ≤ 1000) : t_Roll___init__ ns rs big = some (rollT ns rs) := by
  have h5 := S.l5
  unfold t_Roll___init__
  refine Hp.too ?_
  simp only [chk_good S, PR.bind_ok, PR.opt_some]
  refine Hp.bind (Hp.fold (fun xs (m : List Rw) => ∃ pre ks, m = rsOf (sumOf pre) ks ∧ rs = pre ++ xs ∧ ks.Nodup ∧ (∀ b, b ∈ ks ↔ b ∈ pre.map (·.1)) ∧ ks.length ≤ pre.length) (fun r xs m ⟨pre, ks, e0, e, h1, h2, h3⟩ => ?step) rs [] ⟨[], [], rfl, rfl, .nil, by simp, Nat.le_refl _⟩) fun m ⟨pre, ks, e0, e1, k2, k3, k4⟩ => ?rest
  case step =>
    subst e0
    have hm : r ∈ rs := by rw [e]; simp
    have hB := (hr r hm).1
    have h0 := (hr r hm).2
    have hpl : pre.length < rs.length := by rw [e]; simp
    have hlt : ¬ r.2 < 0 := by omega
    have hget : (getA (rsOf (sumOf pre) ks) r.1).getD 0 = sumOf pre r.1 := by
      rw [getA_rs]
      split
      · rfl
      · rename_i hn
        rw [sumOf_none (fun z => hn ((h2 _).mpr z))]
        rfl
    have hp : putP (rsOf (sumOf pre) ks) r.1 (sumOf pre r.1 + r.2) = some (rsOf (sumOf (pre ++ [r])) (if r.1 ∈ ks then ks else ks ++ [r.1])) := by
      rw [← putP_rs (s := sumOf pre) (by omega) fun c hc => ?_]
      · rw [sumOf_app, sumOf_cons, sumOf_nil, if_pos rfl]
        simp
      · rw [sumOf_app, sumOf_cons, sumOf_nil, if_neg (fun z => hc z.symm)]
        simp
    refine Hp.imp (Hp.eq (a := rsOf (sumOf (pre ++ [r])) (if r.1 ∈ ks then ks else ks ++ [r.1])) ?_) fun z hz => ⟨pre ++ [r], _, hz, by rw [e]; simp, ?_, ?_, ?_⟩
    · simp only [cb_blt S hB, PR.bind_ok, PR.opt_some, hlt, decide_false, Bool.false_eq_true, if_false, hget, hp]
      cases big with
      | none => simp
      | some m =>
        have := hb m rfl r hm
        have hle : ¬ r.2 > m := by omega
        simp [hle]
    · split
      · exact h1
      · rename_i hn
        exact List.nodup_append.mpr ⟨h1, by simp, fun a ha b hb => by
          rw [List.mem_singleton.mp hb]
          exact fun z => hn (z ▸ ha)⟩
    · intro b
      rw [List.map_append, List.mem_append]
      split
      · rename_i hn
        simp only [List.map_cons, List.map_nil, List.mem_singleton]
        rw [h2 b]
        exact ⟨fun h => .inl h, fun h => h.elim id fun z => by subst z; exact (h2 _).mp hn⟩
      · simp only [List.map_cons, List.map_nil, List.mem_singleton, List.mem_append]
        rw [h2 b]
    · split <;> simp <;> omega
  case rest =>
    rw [List.append_nil] at e1
    subst e1 e0
    refine Hp.eq ?_
    rw [sorted_rows_ok (by omega) (by omega) fun b hb => by
      obtain ⟨q, hq, rfl⟩ := List.mem_map.mp ((k3 b).mp hb)
      exact (hr q hq).1]
    have e : srtB ns (ks.filter fun b => decide (0 < sumOf rs b)) = ordL ns rs := by
      refine ordL_is hr.b ⟨sorted_ord (k2.filter _) ?_, fun b => ?_⟩
      · intro b hb w hw
        obtain ⟨q, hq, rfl⟩ := List.mem_map.mp ((k3 b).mp (List.mem_filter.mp hb).1)
        exact (hr q hq).1.mem hw
      · unfold srtB
        rw [List.mem_mergeSort, List.mem_filter, decide_eq_true_eq]
        exact ⟨fun h => h.2, fun h => ⟨(k3 b).mpr (sumOf_mem h), h⟩⟩
    rw [e]
    rfl
end Wk
namespace Wk
open PySem PySem.Spec PyProof.Rows L2 Dn Tn
theorem ordered_T {ns : List Str} {rs : List Rw} (S : Sla ns) (hr : RwsB ns rs) (hl : rs.length ≤ 1000) : t__law_ordered ns rs = some (rwsT ns rs) := by
  obtain ⟨L, h1, h2, h3⟩ := ordered_ok S hr hl
  rw [h2, ordL_is hr h1]
  rfl
theorem roll_is_ok {ns : List Str} {rs qs : List Rw} (S : Sla ns) (hr : RwsB ns rs) (hq : RwsB ns qs) (hl : rs.length ≤ 1000) (hl2 : qs.length ≤ 1000) (e : ∀ b, sumOf rs b = sumOf qs b) : t__law_roll_is (rollT ns rs) ns qs = some true := by
  have h5 := S.l5
  have hlr := rwsT_len hr
  rw [rollT_congr hr hq e] at *
  rw [rwsT_congr hr hq e] at hlr
  have h1 := same_ok 5 (eTup D.str ns) (sd_strs 3 ns (by omega))
  have h2 := same_ok 5 (eLst (ePr (eTup D.str) D.int) (rwsT ns qs)) (sd_rows 1 (rwsT ns qs) (by omega) fun r hr' => by
    obtain ⟨b, hb, rfl⟩ := List.mem_map.mp hr'
    have := (ordL_blt hq b hb).len
    show b.length ≤ _
    omega).1
  unfold t__law_roll_is
  rw [ordered_T S hq hl2]
  simp [rollT, h1, h2]
end Wk
namespace Wk
open PySem PySem.Spec PyProof.Rows L2 Dn Tn
def SameE {α : Type} [DecidableEq α] (n : Nat) (e : α → D) (P : α → Prop) : Prop := ∀ a b, P a → P b → t__law_same n (e a) (e b) = some (decide (a = b))
theorem SameE.int (n : Nat) : SameE (n + 1) D.int (fun _ => True) := fun a b _ _ => by
  have r1 : L2.kitB "int" "bool" = some false := by decide +kernel
  have r2 : L2.kitB "int" "int" = some true := by decide +kernel
  simp [t__law_same, D.isNon, D.tyN, r1, r2, pEqB_I]
theorem SameE.str (n : Nat) : SameE (n + 1) D.str (fun _ => True) := fun a b _ _ => by
  have q1 : L2.kitB "str" "bool" = some false := by decide +kernel
  have q2 : L2.kitB "str" "int" = some false := by decide +kernel
  have q3 : L2.kitB "str" "str" = some true := by decide +kernel
  simp [t__law_same, D.isNon, D.tyN, q1, q2, q3, pEqB_S]
theorem SameE.bl (n : Nat) : SameE (n + 1) D.bl (fun _ => True) := fun a b _ _ => by
  have t1 : L2.kitB "bool" "bool" = some true := by decide +kernel
  simp [t__law_same, D.isNon, D.tyN, t1, pEqB_B]
theorem same_drop {α : Type} [DecidableEq α] {F : Int → Unit → PR (Out Bool Unit)} (xs ys : List α) (hl : xs.length = ys.length) (hF : ∀ (i : Nat) (x y : α), xs[i]? = some x → ys[i]? = some y → F (i : Int) () = .ok (if x = y then .nx () else .rt false)) : ∀ (j k : Nat), j + k = xs.length → forO (ρ := Bool) F (rng (k : Int) j) () = .ok (if xs.drop k = ys.drop k then .nx () else .rt false)
  | 0, k, h => by
    have e1 : xs.drop k = [] := List.drop_of_length_le (by omega)
    have e2 : ys.drop k = [] := List.drop_of_length_le (by omega)
    rw [e1, e2]
    rfl
  | j + 1, k, h => by
    have hr : rng (k : Int) (j + 1) = (k : Int) :: rng ((k + 1 : Nat) : Int) j := by
      unfold rng
      rw [List.range_succ_eq_map, List.map_cons, List.map_map]
      exact List.cons_eq_cons.mpr ⟨by simp, List.map_congr_left fun i _ => by simp only [Function.comp]; omega⟩
    have h1 : k < xs.length := by omega
    have h2 : k < ys.length := by omega
    have ih := same_drop xs ys hl hF j (k + 1) (by omega)
    rw [hr, List.drop_eq_getElem_cons h1, List.drop_eq_getElem_cons h2]
    unfold forO
    rw [hF k xs[k] ys[k] (by simp [h1]) (by simp [h2])]
    by_cases e : xs[k] = ys[k]
    · simp only [e, if_true, PR.bind_ok, List.cons.injEq, true_and]
      exact ih
    · have : ¬ (xs[k] :: xs.drop (k + 1) = ys[k] :: ys.drop (k + 1)) := fun z => e (List.cons.inj z).1
      simp only [e, this, if_false, PR.bind_ok]
theorem same_seqE {α : Type} [DecidableEq α] {n : Nat} {e : α → D} {P : α → Prop} (h : SameE n e P) (xs ys : List α) (hx : ∀ x ∈ xs, P x) (hy : ∀ y ∈ ys, P y) (hlx : xs.length ≤ 100000) (hly : ys.length ≤ 100000) (t u : D) (c : (t = eTup e xs ∧ u = eTup e ys) ∨ (t = eLst e xs ∧ u = eLst e ys)) : t__law_same (n + 1) t u = some (decide (xs = ys)) := by
  have q1 : L2.kitB "tuple" "bool" = some false := by decide +kernel
  have q2 : L2.kitB "tuple" "int" = some false := by decide +kernel
  have q3 : L2.kitB "tuple" "str" = some false := by decide +kernel
  have q4 : L2.kitB "tuple" "tuple" = some true := by decide +kernel
  have q5 : L2.kitB "tuple" "list" = some false := by decide +kernel
  have r1 : L2.kitB "list" "bool" = some false := by decide +kernel
  have r2 : L2.kitB "list" "int" = some false := by decide +kernel
  have r3 : L2.kitB "list" "str" = some false := by decide +kernel
  have r4 : L2.kitB "list" "tuple" = some false := by decide +kernel
  have r5 : L2.kitB "list" "list" = some true := by decide +kernel
  have hg : rg1 (ys.length : Int) = some (rng 0 ys.length) := by
    rw [rg1_ok (by omega) (by omega)]; simp
  have ht : ∀ (i : Nat) x, xs[i]? = some x → ixD t (i : Int) = some (e x) := fun i x hi => by
    have : atI (xs.map e) ((i : Nat) : Int) = some (e x) := atI_n (by simp [hi])
    rcases c with ⟨rfl, _⟩ | ⟨rfl, _⟩ <;> simp [ixD, pIx, eTup, eLst, this]
  have hu : ∀ (i : Nat) y, ys[i]? = some y → ixD u (i : Int) = some (e y) := fun i y hi => by
    have : atI (ys.map e) ((i : Nat) : Int) = some (e y) := atI_n (by simp [hi])
    rcases c with ⟨_, rfl⟩ | ⟨_, rfl⟩ <;> simp [ixD, pIx, eTup, eLst, this]
  have hlen : lenD t = some (xs.length : Int) := by rcases c with ⟨rfl, _⟩ | ⟨rfl, _⟩ <;> simp [lenD, pLen, eTup, eLst]
  have hlen2 : lenD u = some (ys.length : Int) := by rcases c with ⟨_, rfl⟩ | ⟨_, rfl⟩ <;> simp [lenD, pLen, eTup, eLst]
  have hnon : D.isNon u = false := by rcases c with ⟨_, rfl⟩ | ⟨_, rfl⟩ <;> rfl
  have loop : xs.length = ys.length → forO (ρ := Bool) (fun (x : Int) (_ : Unit) => ((((PR.opt (ixD t x)).bind fun v29 => ((PR.opt (ixD u x)).bind fun v31 => PR.ok (v29, v31))).bind fun v32 => (PR.opt (t__law_same n v32.1 v32.2))).bind fun v33 => if (!v33) = true then (PR.ok (.rt false)) else (PR.ok (.nx ())))) (rng 0 ys.length) () = .ok (if xs = ys then .nx () else .rt false) := fun hl => by
    have := same_drop (F := (fun (x : Int) (_ : Unit) => ((((PR.opt (ixD t x)).bind fun v29 => ((PR.opt (ixD u x)).bind fun v31 => PR.ok (v29, v31))).bind fun v32 => (PR.opt (t__law_same n v32.1 v32.2))).bind fun v33 => if (!v33) = true then (PR.ok (.rt false)) else (PR.ok (.nx ()))))) xs ys hl (fun i x y hi hj => by
      have := h x y (hx x (List.mem_of_getElem? hi)) (hy y (List.mem_of_getElem? hj))
      simp only [ht i x hi, hu i y hj, PR.opt_some, PR.bind_ok, this]
      by_cases q : x = y <;> simp [q]) ys.length 0 (by omega)
    simpa using this
  unfold t__law_same
  by_cases hl : xs.length = ys.length
  · have loop := loop hl
    have hl' : (xs.length : Int) = (ys.length : Int) := by omega
    rcases c with ⟨rfl, rfl⟩ | ⟨rfl, rfl⟩ <;> simp only [eTup, eLst] at * <;> simp only [hnon, D.tyN, Option.bind_some, q1, q2, q3, q4, q5, r1, r2, r3, r4, r5, PR.opt_some, PR.bind_ok, hlen, hlen2, hl', hg, loop, Bool.false_eq_true, if_false, if_true, Bool.not_true, Bool.not_false, decide_true] <;> by_cases q : xs = ys <;> simp [q, thenO]
  · have hl' : ¬ (xs.length : Int) = (ys.length : Int) := by omega
    have hne : ¬ xs = ys := fun z => hl (by rw [z])
    rcases c with ⟨rfl, rfl⟩ | ⟨rfl, rfl⟩ <;> simp only [eTup, eLst] at * <;> simp [hnon, D.tyN, q1, q2, q3, q4, q5, r1, r2, r3, r4, r5, hlen, hlen2, hl', hne]
theorem SameE.tup {α : Type} [DecidableEq α] {n : Nat} {e : α → D} {P : α → Prop} (h : SameE n e P) : SameE (n + 1) (eTup e) (fun xs => xs.length ≤ 100000 ∧ ∀ x ∈ xs, P x) := fun xs ys hx hy => same_seqE h xs ys hx.2 hy.2 hx.1 hy.1 _ _ (.inl ⟨rfl, rfl⟩)
theorem SameE.lst {α : Type} [DecidableEq α] {n : Nat} {e : α → D} {P : α → Prop} (h : SameE n e P) : SameE (n + 1) (eLst e) (fun xs => xs.length ≤ 100000 ∧ ∀ x ∈ xs, P x) := fun xs ys hx hy => same_seqE h xs ys hx.2 hy.2 hx.1 hy.1 _ _ (.inr ⟨rfl, rfl⟩)
theorem SameE.mono {α : Type} [DecidableEq α] {n : Nat} {e : α → D} {P Q : α → Prop} (h : SameE n e P) (k : ∀ x, Q x → P x) : SameE n e Q := fun a b ha hb => h a b (k a ha) (k b hb)
end Wk
namespace Wk
open PySem PySem.Spec PyProof.Rows L2 Dn Tn
theorem number_ok {c : Int} (h0 : 1 ≤ c) (h : c ≤ 1000000000000) : t_is_number (numT c) = some true := by
  have htl := tl_numT (c := c) (by omega)
  have hlen := numT_len (c := c) (by omega) (k := 13) (by decide) (by omega)
  obtain ⟨d, r, e, hd⟩ := numL_head c.toNat (by omega)
  have hall := TL.numL_digits c.toNat
  have hcps : (numT c).cps.toList = d :: r := htl.trans e
  have hne : decide (numT c = ("" : Str)) = false := by
    rw [decide_eq_false_iff_not]
    intro z
    rw [z] at hcps
    rw [show ("" : Str).cps.toList = [] by decide +kernel] at hcps
    cases hcps
  unfold t_is_number
  rw [hne]
  simp only [Bool.false_eq_true, if_false]
  have e1 := lcP_map (f := fun x2 : Str => (PR.opt (pInB (D.str x2) (D.str ("0123456789" : Str)))).o) (fun x => x.cps.toList.all fun c => decide (48 ≤ c ∧ c ≤ 57)) (sgns (numT c)) (fun x hx => by
    obtain ⟨c, _, rfl⟩ := sgns_mem hx
    rw [in_dig]
    simp) (by rw [sgns_len]; omega)
  have e2 : ((sgns (numT c)).map fun x => x.cps.toList.all fun c => decide (48 ≤ c ∧ c ≤ 57)).all id = true := by
    rw [List.all_map, List.all_eq_true]
    intro x hx
    obtain ⟨k, hk, rfl⟩ := sgns_mem hx
    have hk : k ∈ TL.numL c.toNat := by rw [← htl]; exact hk
    have := hall k hk
    simpa using this
  rw [e1]
  simp only [PR.opt_some, PR.bind_ok, e2, Bool.not_true, Bool.false_eq_true, if_false]
  have e3 : ixS (numT c) 0 = some ⟨#[d]⟩ := by
    unfold ixS
    rw [if_pos (fit_s (by omega)), hcps, show atI (d :: r) 0 = some d from atI_n (i := 0) rfl]
    rfl
  by_cases z : numT c = ("0" : Str)
  · rw [decide_eq_true z]
    rfl
  · rw [decide_eq_false z, e3]
    simp only [Bool.false_eq_true, if_false, PR.opt_some, PR.bind_ok]
    have : decide ((⟨#[d]⟩ : Str) = ("0" : Str)) = false := by
      rw [decide_eq_false_iff_not]
      intro z
      have := congrArg (fun s : Str => s.cps.toList) z
      rw [show ("0" : Str).cps.toList = [48] by decide +kernel] at this
      simp at this
      omega
    rw [this]
    rfl
theorem splitP_gt {b : List Str} {ns : List Str} (S : Sla ns) (hb : Blt ns b) (hne : b ≠ []) : splitP (txT b) (">" : Str) = some b := by
  have hl := txT_len S hb
  unfold splitP
  rw [if_pos ⟨by decide +kernel, fit_s (by omega)⟩]
  unfold txT
  rw [if_neg hne, split_gt hne (hb.low S.w)]
theorem ballot_form_ok {ns b : List Str} (S : Sla ns) (hb : Blt ns b) : t_is_ballot_text (txT b) = some true := by
  unfold t_is_ballot_text
  have h5 := S.l5
  have hl := hb.len
  by_cases e : b = []
  · rw [decide_eq_true ((txT_da (hb.low S.w)).mpr e)]
    rfl
  · rw [decide_eq_false (fun z => e ((txT_da (hb.low S.w)).mp z)), splitP_gt S hb e]
    simp only [Bool.false_eq_true, if_false, PR.opt_some, PR.bind_ok]
    rw [lcP_map isNm b (fun w hw => by
      have := (S.w w (hb.mem hw)).2.1
      rw [is_name_ok w (by omega)]
      rfl) (by omega)]
    simp only [PR.opt_some, PR.bind_ok]
    have : (b.map isNm).all id = true := by
      rw [List.all_map, List.all_eq_true]
      exact fun w hw => isNm_word.mpr (S.w w (hb.mem hw))
    rw [this]
    rfl
theorem ballot_of_ok {ns b : List Str} (S : Sla ns) (hb : Blt ns b) : t_ballot_of (txT b) = some b := by
  unfold t_ballot_of
  by_cases e : b = []
  · rw [decide_eq_true ((txT_da (hb.low S.w)).mpr e), e]
    rfl
  · rw [decide_eq_false (fun z => e ((txT_da (hb.low S.w)).mp z)), splitP_gt S hb e]
    rfl
theorem read_line_ok {ns : List Str} {r : Rw} (S : Sla ns) (h : RwW ns r) (k : Int) : t_read_line ns k (lineT r) = some r := by
  obtain ⟨hb, h1, h2⟩ := id h
  have h5 := S.l5
  have hbl := hb.len
  have hl := line_len S h
  have hn := numT_len (c := r.2) (by omega) (k := 13) (by decide) (by omega)
  have hi := intP_num (c := r.2) (by omega) (by omega)
  unfold t_read_line
  rw [show partP (lineT r) (" " : Str) = some (numT r.2, (" " : Str), txT r.1) by unfold partP; rw [if_pos ⟨by decide +kernel, fit_s (by omega)⟩, line_part h]]
  simp only [PR.opt_some, PR.bind_ok]
  rw [show decide ((" " : Str) = ("" : Str)) = false by decide +kernel, number_ok h1 h2, ballot_form_ok S hb]
  simp only [Bool.false_eq_true, if_false, PR.opt_some, PR.bind_ok, Bool.not_true]
  rw [lenS_ok (by omega), hi]
  simp only [PR.opt_some, PR.bind_ok]
  rw [show decide (((numT r.2).length : Int) > 13) = false by rw [decide_eq_false_iff_not]; omega, show (decide (1 ≤ r.2) && decide (r.2 ≤ 1000000000000)) = true by rw [decide_eq_true h1, decide_eq_true h2]; rfl]
  simp only [Bool.false_eq_true, if_false, Bool.not_true]
  rw [ballot_of_ok S hb]
  simp only [PR.opt_some, PR.bind_ok]
  rw [fold_unit _ fun x hx => by
    obtain ⟨pre, post, e, ei⟩ := en_mem hx
    have hm : x.2 ∈ ns := hb.mem (by rw [e]; simp)
    have hnd := hb.nodup S.d
    rw [if_neg (by simp [hm]), cut_pre e ei, if_neg (fun z => by
      have z := of_decide_eq_true z
      rw [e] at hnd
      exact (List.nodup_append.mp hnd).2.2 x.2 z x.2 (by simp) rfl)]]
  simp only [PR.bind_ok]
  rfl
theorem read_rows_ok {ns : List Str} {rs : List Rw} (S : Sla ns) (hr : ∀ r ∈ rs, RwW ns r) (hl : rs.length ≤ 1000) : t_read_rows ns (linesT rs) = some rs := by
  unfold t_read_rows
  by_cases e : rs = []
  · subst e
    rw [linesT_nil]
    rfl
  · rw [decide_eq_false (fun z => lines_empty z e S hr)]
    have hll := lines_len S hr
    simp only [Bool.false_eq_true, if_false]
    rw [show splitP (linesT rs) ("\n" : Str) = some (rs.map lineT) by unfold splitP; rw [if_pos ⟨by decide +kernel, fit_s (by omega)⟩, lines_split S hr e]]
    simp only [PR.opt_some, PR.bind_ok]
    have key : ∀ (xs : List Rw) (n m : Nat), (∀ r ∈ xs, RwW ns r) → m + xs.length ≤ 100000 → lcP (fun (x2 : (Int × Str)) => (some true)) (fun x2 => (PR.opt (t_read_line ns (x2.1 + 1) x2.2)).o) (en n (xs.map lineT)) m = some xs := by
      intro xs
      induction xs with
      | nil => intro n m _ _; rfl
      | cons x xs ih =>
        intro n m hx hm
        simp only [List.length_cons] at hm
        show lcP _ _ (((n : Int), lineT x) :: en (n + 1) (xs.map lineT)) m = _
        unfold lcP
        dsimp only
        rw [read_line_ok S (hx x (by simp)), ih (n + 1) (m + 1) (fun r hr => hx r (by simp [hr])) (by omega)]
        simp [fit_s (show m + 1 ≤ 100000 by omega)]
    rw [key rs 0 0 hr (by omega)]
    rfl
theorem read_ok {ns : List Str} {rs : List Rw} (S : Sla ns) (hr : ∀ r ∈ rs, RwW ns r) (hl : rs.length ≤ 1000) : t_Roll_read () ns (linesT rs) = some (rollT ns rs) := by
  have hp : RwsOk ns rs := fun r h => ⟨(hr r h).1, by have := (hr r h).2; omega, (hr r h).2.2⟩
  unfold t_Roll_read
  rw [chk_good S]
  simp only [PR.opt_some, PR.bind_ok]
  rw [read_rows_ok S hr hl]
  simp only [PR.opt_some, PR.bind_ok]
  rw [init_ok S hp.p hp.lg hl]
  rfl
theorem joinP_lines {ns : List Str} {rs : List Rw} (S : Sla ns) (hr : ∀ r ∈ rs, RwW ns r) (hl : rs.length ≤ 1000) : joinP ("\n" : Str) (rs.map lineT) = some (linesT rs) := by
  have := lines_fit S hr
  unfold joinP
  rw [if_pos (fit_s (by omega))]
  rfl
end Wk
namespace Wk
open PySem PySem.Spec PyProof.Rows L2 Dn Tn
theorem slS_ok {a : Str} {lo hi : Option Int} (h : a.length ≤ 100000) : slS a lo hi = some (cutS a lo hi) := by simp [slS, fit_s h]
theorem SOk_iff {w : Str} : SOk w ↔ ∀ c ∈ w.cps.toList, PyData.strOk ⟨#[c]⟩ = true := by
  unfold SOk PyData.strOk
  rw [Array.all_eq_true']
  simp
theorem _root_.Tn.SOk.app {a b : Str} (h : SOk a) (h' : SOk b) : SOk (a ++ b) := by
  rw [SOk_iff] at *
  intro c hc
  rw [app_tl] at hc
  exact (List.mem_append.mp hc).elim (h c) (h' c)
theorem _root_.Tn.SOk.take {a : Str} {r : Int} (h : SOk a) (h0 : 0 ≤ r) (h1 : r ≤ a.length) : SOk (cutS a none (some r)) := by
  rw [SOk_iff] at *
  intro c hc
  rw [cut_take h0 h1] at hc
  exact h c (List.mem_of_mem_take hc)
theorem _root_.Tn.SOk.drop {a : Str} {r : Int} (h : SOk a) (h0 : 0 ≤ r) (h1 : r ≤ a.length) : SOk (cutS a (some r) none) := by
  rw [SOk_iff] at *
  intro c hc
  rw [cut_drop h0 h1] at hc
  exact h c (List.mem_of_mem_drop hc)
theorem take_len {a : Str} {r : Int} (h0 : 0 ≤ r) (h1 : r ≤ a.length) : (cutS a none (some r)).length ≤ a.length := by
  rw [len_s, cut_take h0 h1, List.length_take, ← len_s]
  omega
theorem drop_len {a : Str} {r : Int} (h0 : 0 ≤ r) (h1 : r ≤ a.length) : (cutS a (some r) none).length ≤ a.length := by
  rw [len_s, cut_drop h0 h1, List.length_drop, ← len_s]
  omega
abbrev LETS : List Str := sgns ALs
theorem lets_len : LETS.length = 26 := by
  unfold LETS sgns
  rw [List.length_map, al_tl]
  rfl
theorem lets_nodup : LETS.Nodup := by
  unfold LETS sgns
  rw [al_tl]
  decide +kernel
theorem lets_low : ∀ w ∈ LETS, w.length = 1 ∧ LowS w := by
  intro w hw
  obtain ⟨c, hc, rfl⟩ := List.mem_map.mp hw
  rw [al_tl] at hc
  refine ⟨rfl, one_low ?_ ?_⟩ <;> simp at hc <;> omega
theorem ext_tl {a b : Str} (h : a.cps.toList = b.cps.toList) : a = b := by
  cases a; cases b
  simp only [Str.mk.injEq]
  exact Array.toList_inj.mp h
def kinW (w : Str) (r : Int) (l : Str) : Str := cutS w none (some r) ++ l ++ cutS w (some (r + 1)) none
theorem kin_tl {w : Str} {r : Int} (h : 0 ≤ r) (h' : r < w.length) (l : Str) : (kinW w r l).cps.toList = w.cps.toList.take r.toNat ++ (l.cps.toList ++ w.cps.toList.drop (r + 1).toNat) := by
  unfold kinW
  rw [app_tl, app_tl, cut_take h (by omega), cut_drop (by omega) (by omega), List.append_assoc]
theorem kin_inj {w : Str} {r : Int} (h : 0 ≤ r) (h' : r < w.length) {l l' : Str} (e : kinW w r l = kinW w r l') : l = l' := by
  have e2 := congrArg (fun z : Str => z.cps.toList) e
  simp only [kin_tl h h'] at e2
  exact ext_tl (List.append_cancel_right (List.append_cancel_left e2))
theorem kin_len {w : Str} {r : Int} (h : 0 ≤ r) (h' : r < w.length) {l : Str} (hl : l.length = 1) : (kinW w r l).length = w.length := by
  rw [len_s, kin_tl h h', List.length_append, List.length_append, List.length_take, List.length_drop, ← len_s, ← len_s, hl]
  omega
theorem kin_word {w : Str} {r : Int} (hw : WordS w) (h : 0 ≤ r) (h' : r < w.length) {l : Str} (hl : l.length = 1) (hL : LowS l) : WordS (kinW w r l) := by
  refine ⟨by rw [kin_len h h' hl]; exact hw.1, by rw [kin_len h h' hl]; exact hw.2.1, ?_⟩
  unfold kinW
  exact ((low_take hw.2.2 _ (cut_take h (by omega))).app hL).app (low_drop hw.2.2 _ (cut_drop (by omega) (by omega)))
theorem nodup_map {α β : Type} {f : α → β} : ∀ {l : List α}, l.Nodup → (∀ x ∈ l, ∀ y ∈ l, f x = f y → x = y) → (l.map f).Nodup
  | [], _, _ => by simp
  | x :: l, nd, h => by
    have nd' := List.nodup_cons.mp nd
    rw [List.map_cons, List.nodup_cons]
    refine ⟨fun z => ?_, nodup_map nd'.2 fun a ha b hb => h a (by simp [ha]) b (by simp [hb])⟩
    obtain ⟨y, hy, e⟩ := List.mem_map.mp z
    have := h y (by simp [hy]) x (by simp) e
    subst this
    exact nd'.1 hy
theorem choice_s_eq {o : List Int} {w : Str} {k : Int} (h : w.length ≤ 100000) : t__law_choice_s o w k = t__law_choice o (sgns w) k := by
  unfold t__law_choice_s t__law_choice
  rw [lstS_ok h]
  rfl
theorem kin_ok {n : Nat} {o : List Int} {m : Int} (h : PO n o) (hn : n + 5000 < 2 ^ 40) (hm0 : 0 ≤ m) (hm : m ≤ 26) : Ho (t__law_kin o m) fun r => PO (n + 42) r.2 ∧ (∀ w ∈ r.1, WordS w) ∧ r.1.Nodup ∧ (r.1.length : Int) = m := by
  unfold t__law_kin
  simp only [PR.bind_assoc, PR.bind_ok]
  refine Hp.o (Hp.bo (word_ok h (by omega)) fun ⟨w, o1⟩ ⟨a1, a2⟩ => ?_)
  dsimp only at a1 a2 ⊢
  obtain ⟨w1, w2, w3⟩ := a1
  refine Hp.bs (lenS_ok (by omega)) (Hp.bo (draw_ok a2 (by omega) (m := (w.length : Int)) (by omega) (by omega)) fun ⟨r, o2⟩ ⟨b1, b2, b3⟩ => ?_)
  dsimp only at b1 b2 b3 ⊢
  have hal : ALs.length ≤ 100000 := by decide +kernel
  rw [choice_s_eq hal]
  refine Hp.bo (choice_ok b3 (by omega) (by rw [lets_len]; omega) hm0 (by rw [lets_len]; omega)) fun ⟨cs, o3⟩ ⟨c1, c2, rest, c3⟩ => ?_
  dsimp only at c1 c2 c3 ⊢
  have hcs : ∀ l ∈ cs, l.length = 1 ∧ LowS l := fun l hl => lets_low l (c3.mem_iff.mp (List.mem_append_right _ hl))
  have hcd : cs.Nodup := (List.nodup_append.mp (c3.nodup_iff.mpr lets_nodup)).2.1
  refine Hp.bs (lcP_map (kinW w r) cs (fun l hl => ?_) (by omega)) (Hp.ret ⟨c1.mono (by omega), ?_, nodup_map hcd fun x _ y _ e => kin_inj b1 b2 e, by simp; omega⟩)
  · have t1 := take_len (a := w) b1 (by omega)
    have t2 := drop_len (a := w) (r := r + 1) (by omega) (by omega)
    have t3 := (hcs l hl).1
    rw [slS_ok (by omega), slS_ok (by omega)]
    simp only [PR.opt_some, PR.bind_ok]
    rw [catS_ok (by omega)]
    simp only [PR.opt_some, PR.bind_ok]
    rw [catS_ok (by rw [app_len]; omega)]
    rfl
  · intro v hv
    obtain ⟨l, hl, rfl⟩ := List.mem_map.mp hv
    exact kin_word ⟨w1, w2, w3⟩ b1 b2 (hcs l hl).1 (hcs l hl).2
end Wk
namespace Wk
open PySem PySem.Spec PyProof.Rows L2 Dn Tn
theorem lballot_text_ok {ns b : List Str} (S : Sla ns) (hb : Blt ns b) : t__law_ballot_text b = some (txT b) := by
  have h5 := S.l5
  have hl := hb.len
  have h3 : ∀ xs : List Str, (∀ w ∈ xs, w ∈ ns) → (xs.map (·.length)).sum ≤ 12 * xs.length := fun xs => by
    induction xs with
    | nil => intro _; simp
    | cons x xs ih =>
      intro h
      have h1 := ih fun w hw => h w (by simp [hw])
      have h2 := (S.w x (h x (by simp))).2.1
      rw [List.map_cons, List.sum_cons, List.length_cons]
      omega
  have h4 := h3 b fun w hw => hb.mem hw
  unfold t__law_ballot_text txT
  by_cases e : b = []
  · subst e
    rfl
  · have hp := List.length_pos_iff.mpr e
    rw [if_neg (fun z => by have := of_decide_eq_true z; omega), if_neg e]
    unfold joinP
    rw [if_pos (fit_s (by rw [show ((">" : Str).length) = 1 by decide +kernel]; omega))]
    rfl
theorem lines_ok {ns : List Str} {rs : List Rw} (S : Sla ns) (hr : ∀ r ∈ rs, RwW ns r) (hl : rs.length ≤ 1000) : t__law_lines rs = some (rs.map lineT) := by
  unfold t__law_lines
  rw [lcP_map lineT rs (fun r h => by
    have h1 := hr r h
    have h2 := txT_len S h1.1
    have h3 := numT_len (c := r.2) (by have := h1.2; omega) (k := 13) (by decide) (by have := h1.2; omega)
    have e1 : ((" " : Str).length) = 1 := by decide +kernel
    rw [fmtP_ok (by have := h1.2; omega) (by have := h1.2; omega)]
    simp only [PR.opt_some, PR.bind_ok]
    rw [catS_ok (by omega)]
    simp only [PR.opt_some, PR.bind_ok]
    rw [lballot_text_ok S h1.1]
    simp only [PR.opt_some, PR.bind_ok]
    rw [catS_ok (by rw [Str.length_append]; omega)]
    rfl) (by omega)]
  rfl
theorem line_rows_ok {n : Nat} {o : List Int} {ns : List Str} (h : PO n o) (hn : n + 10000 < 2 ^ 39) (S : Sla ns) : Ho (t__law_line_rows o ns) fun r => (∀ q ∈ r.1, RwW ns q) ∧ r.1.length ≤ 24 ∧ PO (n + 1000) r.2 := by
  have h5 := S.l5
  unfold t__law_line_rows
  refine Hp.o ?_
  simp only [PR.bind_assoc, PR.bind_ok]
  refine Hp.bo (draw_ok h (by omega) (m := 4) (by omega) (by omega)) fun ⟨m, o1⟩ ⟨a1, a2, a3⟩ => ?_
  dsimp only at a1 a2 a3 ⊢
  refine Hp.bind (P := fun q : List Int × Int => PO (n + 1) q.1 ∧ 1 ≤ q.2 ∧ q.2 ≤ 25) (Hp.ite (fun _ => Hp.ret ⟨a3, by dsimp only; omega, by dsimp only; omega⟩) fun _ => Hp.ret ⟨a3, by dsimp only; omega, by dsimp only; omega⟩) fun ⟨o2, sz⟩ ⟨b1, b2, b3⟩ => ?_
  dsimp only at b1 b2 b3 ⊢
  refine Hp.bo (draw_ok b1 (by omega) (m := sz) (by omega) (by omega)) fun ⟨k, o3⟩ ⟨c1, c2, c3⟩ => ?_
  dsimp only at c1 c2 c3 ⊢
  rw [rg1_ok (by omega) (by omega)]
  simp only [PR.opt_some, PR.bind_ok]
  refine Hp.bind (Hp.fold (fun xs (s : List Int × List Rw) => s.2.length + xs.length ≤ 24 ∧ PO (n + 2 + 20 * s.2.length) s.1 ∧ ∀ q ∈ s.2, RwW ns q) (fun x xs s ⟨q1, q2, q3⟩ => ?step) _ _ ⟨by simp [rng]; omega, c3.mono (by simp), fun w hw => nomatch hw⟩) fun s ⟨q1, q2, q3⟩ => Hp.ret ⟨q3, by simpa using q1, q2.mono (by simp only [List.length_nil] at q1; omega)⟩
  obtain ⟨o4, rs⟩ := s
  dsimp only at q1 q2 q3 ⊢
  simp only [List.length_cons] at q1
  generalize hN : n + 2 + 20 * rs.length = N at q2
  refine Hp.bo (ballot_ok q2 (by omega) (by omega)) fun ⟨b0, o5⟩ ⟨d1, d2⟩ => ?_
  dsimp only at d1 d2 ⊢
  refine Hp.bind (P := fun q : Bool × List Int => PO (N + 8) q.2 ∧ (q.1 = true → 0 < rs.length)) (Hp.ite (fun hc => ?_) fun _ => Hp.ret ⟨d1.mono (by omega), fun z => by cases z⟩) fun ⟨c, o7⟩ ⟨e1, e2⟩ => ?_
  · have hc := of_decide_eq_true hc
    refine Hp.bo (draw_ok d1 (by omega) (m := 3) (by omega) (by omega)) fun ⟨m2, o8⟩ ⟨x1, x2, x3⟩ => ?_
    exact Hp.ret ⟨x3.mono (by omega), fun _ => by omega⟩
  dsimp only at e1 e2 ⊢
  refine Hp.bind (P := fun q : List Int × List Str => PO (N + 9) q.1 ∧ Blt ns q.2) (Hp.ite (fun hc => ?_) fun _ => Hp.ret ⟨e1.mono (by omega), d2⟩) fun ⟨o6, b⟩ ⟨f1, f2⟩ => ?_
  · have hp := e2 hc
    refine Hp.bo (draw_ok e1 (by omega) (m := (rs.length : Int)) (by omega) (by omega)) fun ⟨i, o8⟩ ⟨x1, x2, x3⟩ => ?_
    dsimp only at x1 x2 x3 ⊢
    have ei := List.getElem?_eq_getElem (show i.toNat < rs.length by omega)
    have hm := List.getElem_mem (show i.toNat < rs.length by omega)
    generalize rs[i.toNat] = r at ei hm
    have hat := atI_n ei
    rw [Int.toNat_of_nonneg x1] at hat
    rw [hat]
    simp only [PR.opt_some, PR.bind_ok]
    exact Hp.ret ⟨x3.mono (by omega), (q3 r hm).1⟩
  dsimp only at f1 f2 ⊢
  refine Hp.bo (draw_ok f1 (by omega) (m := 4) (by omega) (by omega)) fun ⟨sh, o7⟩ ⟨g1, g2, g3⟩ => ?_
  dsimp only at g1 g2 g3 ⊢
  refine Hp.bind (P := fun q : List Int × Int => PO (N + 11) q.1 ∧ 1 ≤ q.2 ∧ q.2 ≤ 1000000000000) (Hp.ite (fun hc => ?_) fun _ => Hp.ret ⟨g3.mono (by omega), by dsimp only; omega, by dsimp only; omega⟩) fun ⟨o8, c⟩ ⟨i1, i2, i3⟩ => ?_
  · have hc := of_decide_eq_true hc
    obtain ⟨z, hz, z1, z2⟩ : ∃ z : Int, atI [(4 : Int), 30, 1000000000000] sh = some z ∧ 1 ≤ z ∧ z ≤ 1000000000000 := by
      have : sh = 0 ∨ sh = 1 ∨ sh = 2 := by omega
      rcases this with rfl | rfl | rfl
      · exact ⟨4, rfl, by omega, by omega⟩
      · exact ⟨30, rfl, by omega, by omega⟩
      · exact ⟨1000000000000, rfl, by omega, by omega⟩
    rw [hz]
    simp only [PR.opt_some, PR.bind_ok]
    refine Hp.bo (draw_ok g3 (by omega) (m := z) (by omega) (by omega)) fun ⟨y, o8⟩ ⟨x1, x2, x3⟩ => ?_
    dsimp only at x1 x2 x3 ⊢
    exact Hp.ret ⟨x3.mono (by omega), by dsimp only; omega, by dsimp only; omega⟩
  dsimp only at i1 i2 i3 ⊢
  rw [appP_ok (by omega)]
  simp only [PR.opt_some, PR.bind_ok]
  refine Hp.ret ⟨by dsimp only; rw [List.length_append, List.length_singleton]; omega, by dsimp only; exact i1.mono (by rw [List.length_append, List.length_singleton]; omega), fun w hw => ?_⟩
  rcases List.mem_append.mp hw with hw | hw
  · exact q3 w hw
  · simp only [List.mem_singleton] at hw
    subst hw
    exact ⟨f2, i2, i3⟩
theorem sum_rep (rs : List Rw) (b : List Str) : ∀ k : Nat, sumOf (List.replicate k rs).flatten b = sumOf rs b * k
  | 0 => by simp [sumOf_nil]
  | k + 1 => by
    rw [List.replicate_succ, List.flatten_cons, sumOf_app, sum_rep rs b k, Int.natCast_succ, Int.mul_add, Int.mul_one, Int.add_comm]
theorem rep_mem {rs : List Rw} {r : Rw} {k : Nat} (h : r ∈ (List.replicate k rs).flatten) : r ∈ rs := by
  obtain ⟨l, hl, h⟩ := List.mem_flatten.mp h
  rw [(List.mem_replicate.mp hl).2] at h
  exact h
theorem rep_len (rs : List Rw) (k : Nat) : (List.replicate k rs).flatten.length = k * rs.length := by simp
theorem rep_map {α β : Type} (f : α → β) (xs : List α) : ∀ k : Nat, (List.replicate k (xs.map f)).flatten = (List.replicate k xs).flatten.map f
  | 0 => rfl
  | k + 1 => by rw [List.replicate_succ, List.replicate_succ, List.flatten_cons, List.flatten_cons, rep_map f xs k, List.map_append]
theorem law {is : List Int} (hl : is.length ≤ 63) (hb : ∀ z ∈ is, Builtin.Int.intBits z ≤ 1048576) : t_law is = some true := by
  refine Ho.to ?_
  unfold t_law
  refine Hp.o ?_
  simp only [PR.bind_assoc, PR.bind_ok]
  refine Hp.bo (pool_ok hb 0 (by omega) (by omega)) fun o1 h1 => ?_
  refine Hp.bo (names_ok h1 (by omega) (by omega) (by omega) (by omega)) fun ⟨ns1, o2⟩ ⟨a1, a2, a3, a4, a5⟩ => ?_
  dsimp only at a1 a2 a3 a4 a5 ⊢
  have S1 : Sla ns1 := ⟨a2, a3, by omega, by omega⟩
  refine Hp.bo (pool_ok hb 2 (by omega) (by omega)) fun o3 h3 => ?_
  refine Hp.bo (draw_ok h3 (by omega) (m := 3) (by omega) (by omega)) fun ⟨r, o4⟩ ⟨b1, b2, b3⟩ => ?_
  dsimp only at b1 b2 b3 ⊢
  refine Hp.bind (P := fun s : List Str × List Int => Sla s.1) (Hp.ite (fun _ => Hp.bo (kin_ok b3 (by omega) (m := (ns1.length : Int)) (by omega) (by omega)) fun ⟨ks, o5⟩ ⟨c1, c2, c3, c4⟩ => Hp.ret ⟨c2, c3, by dsimp only at *; omega, by dsimp only at *; omega⟩) fun _ => Hp.ret S1) fun ⟨ns, o6⟩ S => ?_
  dsimp only at S ⊢
  have h5 := S.l5
  refine Hp.bo (pool_ok hb 1 (by omega) (by omega)) fun o7 h7 => ?_
  refine Hp.bo (line_rows_ok h7 (by omega) S) fun ⟨rs, o8⟩ ⟨d1, d2, d3⟩ => ?_
  dsimp only at d1 d2 d3 ⊢
  rw [lines_ok S d1 (by omega)]
  simp only [PR.opt_some, PR.bind_ok]
  rw [joinP_lines S d1 (by omega)]
  simp only [PR.opt_some, PR.bind_ok]
  refine Hp.bo (draw_ok d3 (by omega) (m := 4) (by omega) (by omega)) fun ⟨y, o9⟩ ⟨e1, e2, e3⟩ => ?_
  dsimp only at e1 e2 e3 ⊢
  refine Hp.bind (P := fun q : List Int × Int => 1 ≤ q.2 ∧ q.2 ≤ 16) (Hp.ite (fun _ => Hp.bo (draw_ok e3 (by omega) (m := 16) (by omega) (by omega)) fun ⟨z, p1⟩ ⟨f1, f2, f3⟩ => Hp.ret (by dsimp only at *; omega)) fun _ => Hp.ret (by dsimp only; omega)) fun ⟨p2, k⟩ ⟨g1, g2⟩ => ?_
  dsimp only at g1 g2 ⊢
  have hB : RwsB ns rs := fun r h => (d1 r h).1
  have isr : t__law_roll_is (rollT ns rs) ns rs = some true := roll_is_ok S hB hB (by omega) (by omega) fun _ => rfl
  rw [read_ok S d1 (by omega)]
  simp only [PR.opt_some, PR.bind_ok]
  rw [isr]
  simp only [PR.opt_some, PR.bind_ok, Bool.not_true, Bool.false_eq_true, if_false]
  have e0 := read_ok S (rs := []) (fun r h => nomatch h) (by simp)
  rw [linesT_nil] at e0
  rw [e0]
  simp only [PR.opt_some, PR.bind_ok]
  rw [roll_is_ok S RwsB.nil RwsB.nil (by simp) (by simp) fun _ => rfl]
  simp only [PR.opt_some, PR.bind_ok, Bool.not_true, Bool.false_eq_true, if_false]
  have dr : ∀ r ∈ rs.reverse, RwW ns r := fun r h => d1 r (List.mem_reverse.mp h)
  rw [← List.map_reverse, joinP_lines S dr (by rw [List.length_reverse]; omega)]
  simp only [PR.opt_some, PR.bind_ok]
  rw [read_ok S dr (by rw [List.length_reverse]; omega)]
  simp only [PR.opt_some, PR.bind_ok]
  rw [roll_is_ok S (fun r h => (dr r h).1) hB (by rw [List.length_reverse]; omega) (by omega) fun b => sumOf_rev b rs]
  simp only [PR.opt_some, PR.bind_ok, Bool.not_true, Bool.false_eq_true, if_false]
  rw [lcP_map (fun r : Rw => ((r.1, r.2 * k) : Rw)) rs (fun r h => by
    have := (d1 r h).2
    rw [mulP_ok (mulFit_by (a := 62) (b := 62) (by omega) (by omega) (by decide))]
    rfl) (by omega)]
  simp only [PR.opt_some, PR.bind_ok]
  rw [repP_ok (by omega) (by omega) (by rw [List.length_map]; omega), rep_map]
  simp only [PR.opt_some, PR.bind_ok]
  have hk : k.toNat ≤ 16 := by omega
  have hkl : (List.replicate k.toNat rs).flatten.length ≤ 400 := by
    rw [rep_len]
    have := Nat.mul_le_mul hk d2
    omega
  have dk : ∀ r ∈ (List.replicate k.toNat rs).flatten, RwW ns r := fun r h => d1 r (rep_mem h)
  rw [joinP_lines S dk (by omega)]
  simp only [PR.opt_some, PR.bind_ok]
  rw [read_ok S dk (by omega)]
  simp only [PR.opt_some, PR.bind_ok]
  rw [roll_is_ok S (fun r h => (dk r h).1) (fun r h => by
    obtain ⟨q, hq, rfl⟩ := List.mem_map.mp h
    exact (d1 q hq).1) (by omega) (by rw [List.length_map]; omega) fun b => by
      rw [sum_rep, sumOf_scale, Int.toNat_of_nonneg (by omega)]]
  simp only [PR.opt_some, PR.bind_ok, Bool.not_true, Bool.false_eq_true, if_false]
  rw [rg1_ok (by omega) (by omega)]
  simp only [PR.opt_some, PR.bind_ok]
  rw [forO_pass _ fun x hx => by
    obtain ⟨i, hi, rfl⟩ := rng_mem.mp hx
    have hi : i < rs.length := by omega
    have ei := List.getElem?_eq_getElem hi
    have hm := List.getElem_mem hi
    generalize rs[i] = r at ei hm
    have e1 : atI rs (0 + (i : Int)) = some r := by rw [Int.zero_add]; exact atI_n ei
    have e2 : atI (rs.map lineT) (0 + (i : Int)) = some (lineT r) := by
      rw [Int.zero_add]
      exact atI_n (by rw [List.getElem?_map, ei]; rfl)
    rw [e1, e2]
    simp only [PR.opt_some, PR.bind_ok]
    have s1 : ∀ q ∈ [r], RwW ns q := fun q hq => by
      rw [List.mem_singleton] at hq
      subst hq
      exact d1 _ hm
    have er := read_ok S s1 (by simp)
    rw [show linesT [r] = lineT r by unfold linesT; rw [TL.join_eq]; rfl] at er
    rw [er]
    simp only [PR.opt_some, PR.bind_ok]
    rw [roll_is_ok S (fun q hq => (s1 q hq).1) (fun q hq => (s1 q hq).1) (by simp) (by simp) fun _ => rfl]
    rfl]
  simp only [thenO_nx]
  exact Hp.ret rfl
end Wk
namespace Wk
open PySem PySem.Spec PyProof.Rows L2 Dn Tn
theorem plain (is : List Int) (hl : is.length ≤ 63) (hb : ∀ z ∈ is, Builtin.Int.intBits z ≤ 1048576) : ∃ e, d_law [.im (.scr is)] = .ok (.im (.bl true)) e := law_plain (s_law_i (XF := XFT) is) (law hl hb)
end Wk
namespace Wk
open PySem PySem.Spec PyProof.Rows L2 Dn
def dd__law_mix : He.DefD := ⟨("_law_mix", none), "_law_mix", "_law_mix", defArgs s__law_mix, defBody s__law_mix, defScope s__law_mix, [], []⟩
def dd__law_draw : He.DefD := ⟨("_law_draw", none), "_law_draw", "_law_draw", defArgs s__law_draw, defBody s__law_draw, defScope s__law_draw, [], []⟩
def dd__law_word : He.DefD := ⟨("_law_word", none), "_law_word", "_law_word", defArgs s__law_word, defBody s__law_word, defScope s__law_word, [], []⟩
def dd__law_names : He.DefD := ⟨("_law_names", none), "_law_names", "_law_names", defArgs s__law_names, defBody s__law_names, defScope s__law_names, [], []⟩
def dd__law_cell : He.DefD := ⟨("_law_cell", none), "_law_cell", "_law_cell", defArgs s__law_cell, defBody s__law_cell, defScope s__law_cell, [], []⟩
def dd__law_pool : He.DefD := ⟨("_law_pool", none), "_law_pool", "_law_pool", defArgs s__law_pool, defBody s__law_pool, defScope s__law_pool, [], []⟩
def dd__law_choice : He.DefD := ⟨("_law_choice", none), "_law_choice", "_law_choice", defArgs s__law_choice, defBody s__law_choice, defScope s__law_choice, [], []⟩
def dd__law_kin : He.DefD := ⟨("_law_kin", none), "_law_kin", "_law_kin", defArgs s__law_kin, defBody s__law_kin, defScope s__law_kin, [], []⟩
def dd__law_ballot : He.DefD := ⟨("_law_ballot", none), "_law_ballot", "_law_ballot", defArgs s__law_ballot, defBody s__law_ballot, defScope s__law_ballot, [], []⟩
def dd__law_line_rows : He.DefD := ⟨("_law_line_rows", none), "_law_line_rows", "_law_line_rows", defArgs s__law_line_rows, defBody s__law_line_rows, defScope s__law_line_rows, [], []⟩
def dd__law_ballot_text : He.DefD := ⟨("_law_ballot_text", none), "_law_ballot_text", "_law_ballot_text", defArgs s__law_ballot_text, defBody s__law_ballot_text, defScope s__law_ballot_text, [], []⟩
def dd__law_lines : He.DefD := ⟨("_law_lines", none), "_law_lines", "_law_lines", defArgs s__law_lines, defBody s__law_lines, defScope s__law_lines, [], []⟩
def dd__law_same : He.DefD := ⟨("_law_same", none), "_law_same", "_law_same", defArgs s__law_same, defBody s__law_same, defScope s__law_same, [], []⟩
def dd__law_sum_of : He.DefD := ⟨("_law_sum_of", none), "_law_sum_of", "_law_sum_of", defArgs s__law_sum_of, defBody s__law_sum_of, defScope s__law_sum_of, [], []⟩
def dd__law_ahead : He.DefD := ⟨("_law_ahead", none), "_law_ahead", "_law_ahead", defArgs s__law_ahead, defBody s__law_ahead, defScope s__law_ahead, [], []⟩
def dd__law_ordered : He.DefD := ⟨("_law_ordered", none), "_law_ordered", "_law_ordered", defArgs s__law_ordered, defBody s__law_ordered, defScope s__law_ordered, [], []⟩
def dd__law_roll_is : He.DefD := ⟨("_law_roll_is", none), "_law_roll_is", "_law_roll_is", defArgs s__law_roll_is, defBody s__law_roll_is, defScope s__law_roll_is, [], []⟩
def dd_is_name : He.DefD := ⟨("is_name", none), "is_name", "is_name", defArgs s_is_name, defBody s_is_name, defScope s_is_name, [], []⟩
def dd_checked_names : He.DefD := ⟨("checked_names", none), "checked_names", "checked_names", defArgs s_checked_names, defBody s_checked_names, defScope s_checked_names, [], []⟩
def dd_checked_ballot : He.DefD := ⟨("checked_ballot", none), "checked_ballot", "checked_ballot", defArgs s_checked_ballot, defBody s_checked_ballot, defScope s_checked_ballot, [], []⟩
def dd_sorted_rows : He.DefD := ⟨("sorted_rows", none), "sorted_rows", "sorted_rows", defArgs s_sorted_rows, defBody s_sorted_rows, defScope s_sorted_rows, [], []⟩
def dd_is_number : He.DefD := ⟨("is_number", none), "is_number", "is_number", defArgs s_is_number, defBody s_is_number, defScope s_is_number, [], []⟩
def dd_is_ballot_text : He.DefD := ⟨("is_ballot_text", none), "is_ballot_text", "is_ballot_text", defArgs s_is_ballot_text, defBody s_is_ballot_text, defScope s_is_ballot_text, [], []⟩
def dd_ballot_of : He.DefD := ⟨("ballot_of", none), "ballot_of", "ballot_of", defArgs s_ballot_of, defBody s_ballot_of, defScope s_ballot_of, [], []⟩
def dd_read_line : He.DefD := ⟨("read_line", none), "read_line", "read_line", defArgs s_read_line, defBody s_read_line, defScope s_read_line, [], []⟩
def dd_read_rows : He.DefD := ⟨("read_rows", none), "read_rows", "read_rows", defArgs s_read_rows, defBody s_read_rows, defScope s_read_rows, [], []⟩
def dd_law : He.DefD := ⟨("law", none), "law", "law", defArgs s_law, defBody s_law, defScope s_law, [], []⟩
def dd_Roll___iter__ : He.DefD := ⟨("Roll", some "__iter__"), "__iter__", "Roll.__iter__", defArgs s_Roll___iter__, defBody s_Roll___iter__, defScope s_Roll___iter__, [], []⟩
def dd_Roll___len__ : He.DefD := ⟨("Roll", some "__len__"), "__len__", "Roll.__len__", defArgs s_Roll___len__, defBody s_Roll___len__, defScope s_Roll___len__, [], []⟩
def dd_Roll___init__ : He.DefD := ⟨("Roll", some "__init__"), "__init__", "Roll.__init__", defArgs s_Roll___init__, defBody s_Roll___init__, defScope s_Roll___init__, [(.adr (He.dflAt ("Roll", some "__init__") 0))], [("largest", (.int 1000000000000))]⟩
def fnL : List He.DefD := [dd__law_mix, dd__law_draw, dd__law_word, dd__law_names, dd__law_cell, dd__law_pool, dd__law_choice, dd__law_kin, dd__law_ballot, dd__law_line_rows, dd__law_ballot_text, dd__law_lines, dd__law_same, dd__law_sum_of, dd__law_ahead, dd__law_ordered, dd__law_roll_is, dd_is_name, dd_checked_names, dd_checked_ballot, dd_sorted_rows, dd_is_number, dd_is_ballot_text, dd_ballot_of, dd_read_line, dd_read_rows, dd_law, dd_Roll___iter__, dd_Roll___len__, dd_Roll___init__]
def faL : List He.Fa := [.glo "_law_mix", .glo "_law_draw", .glo "_law_word", .glo "_law_names", .glo "_law_cell", .glo "_law_pool", .glo "_law_choice", .glo "_law_kin", .glo "_law_ballot", .glo "_law_line_rows", .glo "_law_ballot_text", .glo "_law_lines", .glo "_law_same", .glo "_law_sum_of", .glo "_law_ahead", .glo "_law_ordered", .glo "_law_roll_is", .glo "is_name", .glo "checked_names", .glo "checked_ballot", .glo "sorted_rows", .glo "is_number", .glo "is_ballot_text", .glo "ballot_of", .glo "read_line", .glo "read_rows", .glo "law", .free "all", .free "bool", .free "enumerate", .free "int", .free "isinstance", .free "iter", .free "len", .free "list", .free "min", .free "range", .free "sorted", .free "str", .free "sum", .free "tuple", .str "DIGITS" "0123456789", .int "LARGEST_COUNT" 1000000000000, .str "LETTERS" "abcdefghijklmnopqrstuvwxyz", .int "LONGEST_NAME" 12, .int "MOST_DIGITS" 13, .int "MOST_NAMES" 5, .glo "Roll", .free "super"]
abbrev RR : PySem.W.OpenRow := PySem.W.OpenLaw.row PySem.Challenge.rw_ballotturns_k15_texts_read
abbrev rcL : List Str := []
def fx0 : List Fx := (exT.map fun p => Fx.exm p.1.1 p.1.2 p.2)
def fx1 : List Fx := (kiT.map fun p => Fx.kit p.1.1 p.1.2 p.2)
def fx2 : List Fx := (ktT.map fun p => Fx.kitT p.1.1 p.1.2 p.2)
def fx3 : List Fx := rcL.map Fx.exc
def fx4 : List Fx := oexL.map Fx.oex
def fx5 : List Fx := oexL.map Fx.ini
def fx6 : List Fx := []
def fb_cm_Roll_read : Fg → Bool := (fun K => cmetB K (He.ga K "Roll") "read")
def fb_fd_names : Fg → Bool := (fun K => fldB K "names" fl_names)
def fb_cl_Roll : Fg → Bool := (fun K => clsB K "Roll")
def fb_fd__rows : Fg → Bool := (fun K => fldB K "_rows" fl__rows)
def fb_fi_Roll_iter : Fg → Bool := (fun K => fndB K (.ref (He.ga K "Roll")) "__iter__" (some (.ref (He.ma K (He.ga K "Roll") "__iter__"))))
def fb_ff_Roll_iter : Fg → Bool := (fun K => PySem.W.isFn K (.ref (He.ma K (He.ga K "Roll") "__iter__")))
def fb_fi_Roll_len : Fg → Bool := (fun K => fndB K (.ref (He.ga K "Roll")) "__len__" (some (.ref (He.ma K (He.ga K "Roll") "__len__"))))
def fb_ff_Roll_len : Fg → Bool := (fun K => PySem.W.isFn K (.ref (He.ma K (He.ga K "Roll") "__len__")))
def fb_dv_Roll___init___rows : Fg → Bool := (fun K => tupB K (He.dflAt ("Roll", some "__init__") 0 K) [])
def fb_mk_Roll : Fg → Bool := (fun K => (He.Fa.mkr "Roll").ok K)
def fb_ois : Fg → Bool := (fun K => kisB K oiT oiU)
def fxN : List Fx := [.any fb_cm_Roll_read, .any fb_fd_names, .any fb_cl_Roll, .any fb_fd__rows, .any fb_fi_Roll_iter, .any fb_ff_Roll_iter, .any fb_fi_Roll_len, .any fb_ff_Roll_len, .any fb_dv_Roll___init___rows, .any fb_mk_Roll, .any fb_ois]
def fxL : List Fx := fxN ++ (fx0 ++ (fx1 ++ (fx2 ++ (fx3 ++ (fx4 ++ (fx5 ++ fx6))))))
def fsL : List FnS := [⟨"Roll", "read", "Roll.read", defArgs s_Roll_read, defBody s_Roll_read, defScope s_Roll_read, 2⟩]
def nmL : List Str := ["Roll", "_law_ahead", "_law_ballot", "_law_ballot_text", "_law_cell", "_law_choice", "_law_draw", "_law_kin", "_law_line_rows", "_law_lines", "_law_mix", "_law_names", "_law_ordered", "_law_pool", "_law_roll_is", "_law_same", "_law_sum_of", "_law_word", "ballot_of", "checked_ballot", "checked_names", "is_ballot_text", "is_name", "is_number", "law", "read_line", "read_rows", "sorted_rows"]
abbrev hk : PySem.W.Hook := hookY nmL 4 mfP faL fnL fxL fsL
def ob (s : PySem.W.SharedT) : AlX := obsYG nmL 4 mfP faL fnL fxL fsL (HandSHeadRun.getT s)
theorem ob_eq (s : PySem.W.SharedT) : ob s = hk.obs s.abs := obsYG_eq (HandSHeadRun.getT_eq s)
def looseL : List Str := (["_wall", "TurnError", "BadName", "SameName", "UnknownName", "TwiceRanked", "BadNumber", "OtherNames", "Missing", "BadLine", "is_name", "checked_names", "checked_ballot", "is_number", "is_ballot_text", "ballot_of", "ballot_text", "read_line", "read_rows", "write_rows", "sorted_rows", "Roll", "_law_cell", "_law_mix", "_law_pool", "_law_draw", "_law_word", "_law_names", "_law_choice", "_law_ballot"] : List Str) ++ (["_law_same", "_law_ahead", "_law_sum_of", "_law_ordered", "_law_roll_is", "_law_ballot_text", "_law_kin", "_law_line_rows", "_law_lines", "LETTERS", "LONGEST_NAME", "MOST_NAMES", "LARGEST_COUNT", "DIGITS", "MOST_DIGITS"] : List Str)
theorem run (w : World) : HandSHeadRun.RunEq RR (PySem.W.view RR.prog [50]) hk ob 6600 looseL w := by
  intro os
  kernel_rfl
theorem kiS : ∀ p ∈ kiT, p.1.1 ∈ rcL := by decide
theorem ktS : ∀ p ∈ ktT, p.1.1 ∈ rcL := by decide
theorem facts {K : Fg} [WD K] {w : World} {h : Heap} {mg : Str → Option Value} (X : K.In h) (G : h.Ns mainGlobals mg) (x : SaysX mfP faL fnL fxL fsL K) (hw : WD.P K = PySem.Challenge.pw_ballotturns_k15_texts_read ∧ WD.w K = w) : TX PySem.Challenge.pw_ballotturns_k15_texts_read w K mg :=
  have c := x.dd
  ⟨hw,
  c.def_ 0 (d := dd__law_mix) rfl,
  He.glo_ok X G (c.fact 0 (f := .glo "_law_mix") rfl),
  c.def_ 1 (d := dd__law_draw) rfl,
  He.glo_ok X G (c.fact 1 (f := .glo "_law_draw") rfl),
  c.def_ 2 (d := dd__law_word) rfl,
  He.glo_ok X G (c.fact 2 (f := .glo "_law_word") rfl),
  c.def_ 3 (d := dd__law_names) rfl,
  He.glo_ok X G (c.fact 3 (f := .glo "_law_names") rfl),
  c.def_ 4 (d := dd__law_cell) rfl,
  He.glo_ok X G (c.fact 4 (f := .glo "_law_cell") rfl),
  c.def_ 5 (d := dd__law_pool) rfl,
  He.glo_ok X G (c.fact 5 (f := .glo "_law_pool") rfl),
  c.def_ 6 (d := dd__law_choice) rfl,
  He.glo_ok X G (c.fact 6 (f := .glo "_law_choice") rfl),
  c.def_ 7 (d := dd__law_kin) rfl,
  He.glo_ok X G (c.fact 7 (f := .glo "_law_kin") rfl),
  c.def_ 8 (d := dd__law_ballot) rfl,
  He.glo_ok X G (c.fact 8 (f := .glo "_law_ballot") rfl),
  c.def_ 9 (d := dd__law_line_rows) rfl,
  He.glo_ok X G (c.fact 9 (f := .glo "_law_line_rows") rfl),
  c.def_ 10 (d := dd__law_ballot_text) rfl,
  He.glo_ok X G (c.fact 10 (f := .glo "_law_ballot_text") rfl),
  c.def_ 11 (d := dd__law_lines) rfl,
  He.glo_ok X G (c.fact 11 (f := .glo "_law_lines") rfl),
  c.def_ 12 (d := dd__law_same) rfl,
  He.glo_ok X G (c.fact 12 (f := .glo "_law_same") rfl),
  c.def_ 13 (d := dd__law_sum_of) rfl,
  He.glo_ok X G (c.fact 13 (f := .glo "_law_sum_of") rfl),
  c.def_ 14 (d := dd__law_ahead) rfl,
  He.glo_ok X G (c.fact 14 (f := .glo "_law_ahead") rfl),
  c.def_ 15 (d := dd__law_ordered) rfl,
  He.glo_ok X G (c.fact 15 (f := .glo "_law_ordered") rfl),
  c.def_ 16 (d := dd__law_roll_is) rfl,
  He.glo_ok X G (c.fact 16 (f := .glo "_law_roll_is") rfl),
  c.def_ 17 (d := dd_is_name) rfl,
  He.glo_ok X G (c.fact 17 (f := .glo "is_name") rfl),
  c.def_ 18 (d := dd_checked_names) rfl,
  He.glo_ok X G (c.fact 18 (f := .glo "checked_names") rfl),
  c.def_ 19 (d := dd_checked_ballot) rfl,
  He.glo_ok X G (c.fact 19 (f := .glo "checked_ballot") rfl),
  c.def_ 20 (d := dd_sorted_rows) rfl,
  He.glo_ok X G (c.fact 20 (f := .glo "sorted_rows") rfl),
  c.def_ 21 (d := dd_is_number) rfl,
  He.glo_ok X G (c.fact 21 (f := .glo "is_number") rfl),
  c.def_ 22 (d := dd_is_ballot_text) rfl,
  He.glo_ok X G (c.fact 22 (f := .glo "is_ballot_text") rfl),
  c.def_ 23 (d := dd_ballot_of) rfl,
  He.glo_ok X G (c.fact 23 (f := .glo "ballot_of") rfl),
  c.def_ 24 (d := dd_read_line) rfl,
  He.glo_ok X G (c.fact 24 (f := .glo "read_line") rfl),
  c.def_ 25 (d := dd_read_rows) rfl,
  He.glo_ok X G (c.fact 25 (f := .glo "read_rows") rfl),
  c.def_ 26 (d := dd_law) rfl,
  He.glo_ok X G (c.fact 26 (f := .glo "law") rfl),
  c.def_ 27 (d := dd_Roll___iter__) rfl,
  c.def_ 28 (d := dd_Roll___len__) rfl,
  c.def_ 29 (d := dd_Roll___init__) rfl,
  x.getter 0 (d := ⟨"Roll", "read", "Roll.read", defArgs s_Roll_read, defBody s_Roll_read, defScope s_Roll_read, 2⟩) rfl rfl,
  He.free_ok X G (c.fact 27 (f := .free "all") rfl),
  He.free_ok X G (c.fact 28 (f := .free "bool") rfl),
  He.free_ok X G (c.fact 29 (f := .free "enumerate") rfl),
  He.free_ok X G (c.fact 30 (f := .free "int") rfl),
  He.free_ok X G (c.fact 31 (f := .free "isinstance") rfl),
  He.free_ok X G (c.fact 32 (f := .free "iter") rfl),
  He.free_ok X G (c.fact 33 (f := .free "len") rfl),
  He.free_ok X G (c.fact 34 (f := .free "list") rfl),
  He.free_ok X G (c.fact 35 (f := .free "min") rfl),
  He.free_ok X G (c.fact 36 (f := .free "range") rfl),
  He.free_ok X G (c.fact 37 (f := .free "sorted") rfl),
  He.free_ok X G (c.fact 38 (f := .free "str") rfl),
  He.free_ok X G (c.fact 39 (f := .free "sum") rfl),
  He.free_ok X G (c.fact 40 (f := .free "tuple") rfl),
  He.glo_ok X G (c.fact 47 (f := .glo "Roll") rfl),
  ((x.fact 0 (f := .any fb_cm_Roll_read) rfl)),
  (fldB_ok (x.fact 1 (f := .any fb_fd_names) rfl)),
  (He.cls_ok (x.fact 2 (f := .any fb_cl_Roll) rfl)),
  (fldB_ok (x.fact 3 (f := .any fb_fd__rows) rfl)),
  (fndB_ok (x.fact 4 (f := .any fb_fi_Roll_iter) rfl)),
  ((x.fact 5 (f := .any fb_ff_Roll_iter) rfl)),
  (fndB_ok (x.fact 6 (f := .any fb_fi_Roll_len) rfl)),
  ((x.fact 7 (f := .any fb_ff_Roll_len) rfl)),
  (tupB_ok (x.fact 8 (f := .any fb_dv_Roll___init___rows) rfl)),
  (He.mkr_ok (x.fact 9 (f := .any fb_mk_Roll) rfl)),
  (kisB_ok (x.fact 10 (f := .any fb_ois) rfl)),
  (have ⟨t, e⟩ := He.str_ok X G (c.fact 41 (f := .str "DIGITS" "0123456789") rfl); ⟨_, e, t, rfl⟩),
  (have ⟨t, e⟩ := He.int_ok X G (c.fact 42 (f := .int "LARGEST_COUNT" 1000000000000) rfl); ⟨_, e, t, rfl⟩),
  (have ⟨t, e⟩ := He.str_ok X G (c.fact 43 (f := .str "LETTERS" "abcdefghijklmnopqrstuvwxyz") rfl); ⟨_, e, t, rfl⟩),
  (have ⟨t, e⟩ := He.int_ok X G (c.fact 44 (f := .int "LONGEST_NAME" 12) rfl); ⟨_, e, t, rfl⟩),
  (have ⟨t, e⟩ := He.int_ok X G (c.fact 45 (f := .int "MOST_DIGITS" 13) rfl); ⟨_, e, t, rfl⟩),
  (have ⟨t, e⟩ := He.int_ok X G (c.fact 46 (f := .int "MOST_NAMES" 5) rfl); ⟨_, e, t, rfl⟩),
  beq_self_eq_true _,
  by kernel_rfl,
  He.free_ok X G (c.fact 48 (f := .free "super") rfl),
  fun p hp => of_decide_eq_true (x.mem (List.mem_append_right _ (List.mem_append_left _ (List.mem_map_of_mem (f := fun p : (Str × Str) × Bool => Fx.exm p.1.1 p.1.2 p.2) hp)))),
  fun p hp => ⟨(excCB_ok (x.mem (List.mem_append_right _ (List.mem_append_right _ (List.mem_append_right _ (List.mem_append_right _ (List.mem_append_left _ (List.mem_map_of_mem (f := Fx.exc) (kiS p hp))))))))).1, of_decide_eq_true (x.mem (List.mem_append_right _ (List.mem_append_right _ (List.mem_append_left _ (List.mem_map_of_mem (f := fun p : (Str × Str) × Bool => Fx.kit p.1.1 p.1.2 p.2) hp)))))⟩,
  fun p hp => ⟨(excCB_ok (x.mem (List.mem_append_right _ (List.mem_append_right _ (List.mem_append_right _ (List.mem_append_right _ (List.mem_append_left _ (List.mem_map_of_mem (f := Fx.exc) (ktS p hp))))))))).1, of_decide_eq_true (x.mem (List.mem_append_right _ (List.mem_append_right _ (List.mem_append_right _ (List.mem_append_left _ (List.mem_map_of_mem (f := fun p : (Str × String) × Bool => Fx.kitT p.1.1 p.1.2 p.2) hp))))))⟩,
  fun p hp => oexSB_ok (x.mem (List.mem_append_right _ (List.mem_append_right _ (List.mem_append_right _ (List.mem_append_right _ (List.mem_append_right _ (List.mem_append_left _ (List.mem_map_of_mem (f := Fx.oex) hp)))))))),
  fun p hp => (fun z => ⟨of_decide_eq_true (He.ba z).1, of_decide_eq_true (He.ba z).2⟩) (x.mem (List.mem_append_right _ (List.mem_append_right _ (List.mem_append_right _ (List.mem_append_right _ (List.mem_append_right _ (List.mem_append_right _ (List.mem_append_left _ (List.mem_map_of_mem (f := Fx.ini) hp)))))))))⟩
end Wk
open PySem PySem.W PySem.Calls PyProof.Rows
theorem PySem.Challenge.cw_ballotturns_k15_texts_read_holds : PySem.Challenge.rw_ballotturns_k15_texts_read.Holds := by
  w_on; o_law
  refine HandSHeadRun.head_any (r := OpenLaw.row PySem.Challenge.rw_ballotturns_k15_texts_read) (q := view (OpenLaw.row PySem.Challenge.rw_ballotturns_k15_texts_read).prog [50]) (H := Wk.hk) (ob := Wk.ob) (M := 6600) (loose := Wk.looseL) (d := HandSHeadRun.topDef (OpenLaw.row PySem.Challenge.rw_ballotturns_k15_texts_read).prog 50) (kwd := []) Wk.ob_eq
    (by kernel_rfl) (fun s => by kernel_rfl) Wk.run (by kernel_rfl) (by kernel_rfl) (by kernel_rfl) (by rfl) (by first | assumption | decide +kernel) (by decide +kernel) ⟨rfl, rfl, rfl, rfl, rfl, by decide +kernel⟩ ?hw ?hc
  case hw => w_witness2
  case hc =>
    refine Dn.walk_ofEB (l := PySem.Challenge.rw_ballotturns_k15_texts_read) (n := 63) (k := 10) (x := "_law_script") (CX := L2.CX0) rfl (by decide) (by kernel_rfl) ⟨rfl, by decide, by decide⟩ ?F (fun _ _ _ _ z => z)
    intro w mg fa h Y G hmg0
    obtain ⟨K, KX, c⟩ := Y
    have hmg : mg ("law" : PySem.Str) = some (.ref fa) := by
      have e : (HandSHeadRun.topDef (OpenLaw.row PySem.Challenge.rw_ballotturns_k15_texts_read).prog 50).name = ("law" : PySem.Str) := by kernel_rfl
      rw [← e]
      exact hmg0
    letI : Dn.WD K := ⟨(PySem.Challenge.rw_ballotturns_k15_texts_read).prog, w⟩
    have T := Wk.facts KX G c ⟨rfl, rfl⟩
    obtain ⟨fd, F⟩ := T.F_law
    have eg := hmg.symm.trans T.g_law
    cases eg
    have b := L2.FunD.bindsA (ps := ["_law_script"]) F fun _ _ _ _ _ _ us hl => match us, hl with | [_], _ => rfl
    refine ⟨K, fd, Dn.spD K Wk.d_law, KX, fun s v => b s [v] rfl, fun H a ns hl hb _ hS => Dn.law_spD hS (Wk.plain ns hl hb).choose_spec, fun base _ _ => Wk.ok_law (P := (PySem.Challenge.rw_ballotturns_k15_texts_read).prog) (w := w) (base := base) T F⟩
