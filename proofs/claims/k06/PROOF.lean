import PyProof.Rows.All
import Wide.All
import OpenK.AllK
import Wide.FinOn
import HandS.Base
import HandS.Call
import HandS.List
import HandS.Comp
import HandS.Ends
import HandS.Dict
import HandS.Iter
import HandS.Text
import HandS.Words
import HandS.Exc
import HandS.HeadHook1
import HandS.TupAny
import HandS.IsInst
import PyProof.ListStr
import PyProof.StrOps2
import PyProof.NoPylong
import PyProof.Fits
import Flt.Len
import HandS.Deep
import HandS.Defaults
import HandS.EndBits
import HandS.Head0
import HandS.Head1
import HandS.Head2
import HandS.HeadEnd
import HandS.HeadHook2
import KE.GoesMore
import KE.KRevSl
import HandS.More
import HandS.Nested
import HandS.ExcInit
import HandS.ExcField
import HandS.ExcIs
import HandS.TryMany
import HandS.Property
import KE.KExcSuper
import KE.KSuper
import HandS.WordsExc
import HandS.Small
import HandS.CallSlots
import HandS.Strs
import HandS.Star
import HandS.OwnEq
import KE.KOpsOwn
import KE.KCallOwn
import HandS.ClsMeth
import HandS.Style
import HandS.MakeKw
import HandS.MakeKwOnly
import HandS.Gcd
import KE.KMathGC
import HandS.Flow
import KE.SortData
import HandS.OwnIter
import HandS.IterVal
import PyProof.WalksMore
import PyProof.CollectWalk
import KE.KStateDown
import PySem.Challenge.RW_ballotturns_k06_roll_rows
set_option Elab.async false
set_option linter.all false
set_option maxRecDepth 100000
set_option maxHeartbeats 4000000
/-! Dn: denotations of Python bodies over plain data, shown once to be what the machine does. -/
namespace Dn
open PySem PySem.Spec PyProof.Rows L2

abbrev Fg := PySem.W.Frag
/-- plain data: what never changes -/
inductive D where
  | non | bl (b : Bool) | int (i : Int) | str (x : Str)
  | tup (xs : List D) | lst (xs : List D) | obj (c : Str) (fs : List (Str × D))
  /-- the script | a built-in class | a class of the module -/
  | scr (ns : List Int) | ty (n : String) | cls (c : Str)
  /-- a caught exception | dicts that do not change any more -/
  | exn (c : Str) (fs : List (Str × D)) | dk (kvs : List (Key × D)) | dt (kvs : List (List Key × D))
  /-- a tuple made on the way: nothing is known of its dict -/
  | tupW (xs : List D)
def SqN (K : Fg) (H : Hp) (a : Addr) (xs : List V) : Prop :=
  (∃ o : Obj, H a = some (.frz o (.tup xs)) ∧ o.dict = none) ∨ ∃ (o : Obj) (its : Array Value) (n : Nat), K.lookup a = some o ∧ o.cls = .type "tuple" ∧ o.dict = none ∧ o.data = .seq its n ∧ its.size ≤ sizeLine ∧ Vals xs its.toList
theorem SqN.t {K : Fg} {H : Hp} {a : Addr} {xs : List V} (h : SqN K H a xs) : SqT K H a xs := by
  rcases h with ⟨o, h, _⟩ | ⟨o, its, n, h1, h2, _, h3, h4, h5⟩
  · exact .inl (.inr ⟨o, h⟩)
  · exact .inr ⟨o, its, n, h1, h2, h3, h4, h5⟩
theorem SqN.mono {K : Fg} {H H' : Hp} {a : Addr} {xs : List V} (e : Same H H') (h : SqN K H a xs) : SqN K H' a xs := by
  rcases h with ⟨o, h, z⟩ | h
  · exact .inl ⟨o, e _ _ h, z⟩
  · exact .inr h
/-- an exception object that a suite holds -/
def exw (a : Addr) (cls : Value) (d : Option Addr) : HO := .ext fun h => ∃ (oe : Obj) (vs : Array Value), h.get? a = some oe ∧ oe.cls = cls ∧ oe.dict = d ∧ oe.data = .fields vs

/-- the program and the world that a heap's hashes are of -/
class WD (K : Fg) where
  P : Program
  w : World
abbrev kK (K : Fg) [WD K] : KeyKind (WD.P K) (WD.w K) Key := mixKind (WD.P K) (WD.w K)
/-- an object that is known as it stands -/
def obO (a : Addr) (o : Obj) : HO := .ext fun h => h.get? a = some o
/-- o is a dict with these rows, the keys ints and texts -/
def DkF (K : Fg) [WD K] (a : Addr) (o : Obj) (vs : List (Key × Value)) : Prop := vs.length ≤ sizeLine ∧ (a == sysModules) = false ∧ o.ExactDict ∧ ∃ es ep, o.data = .dict es ep ∧ PySem.KeysOf (kK K) es ∧ Pairs (kK K) es.toList vs ∧ (vs.map (·.1)).Nodup
/-- .. the keys tuples, with their objects -/
def DtF (K : Fg) [WD K] (a : Addr) (o : Obj) (xs : List (List Key × Addr × Value)) : Prop := xs.length ≤ sizeLine ∧ (a == sysModules) = false ∧ o.ExactDict ∧ ∃ es ep, o.data = .dict es ep ∧ es.toList = xs.map (entryOfKey (tupleKind (kK K))) ∧ (xs.map (·.1)).Nodup
mutual
def Rep (K : Fg) [WD K] (M : Hp) : D → V → Prop
  | .non, v => v = .non
  | .bl b, v => v = .bl b
  | .int i, v => v = .int i
  | .str x, v => v = .str x
  | .tup xs, v => ∃ a vs, v = .ref a ∧ SqN K M a vs ∧ Reps K M xs vs
  | .lst xs, v => ∃ a vs, v = .ref a ∧ M a = some (.lst vs) ∧ Reps K M xs vs
  | .scr ns, v => ∃ a, v = .ref a ∧ SqL K M a (ns.map V.int)
  | .ty n, v => v = .ty n
  | .cls c, v => v = .ref (He.ga K c)
  | .obj c fs, v => ∃ a dx fvs, v = .ref a ∧ M a = some (.ins (He.ga K c) dx fvs) ∧ RepF K M fs fvs
  | .exn c fs, v => ∃ (a : Addr) (d : Option Addr), v = .ref a ∧ M a = some (exw a (.ref (He.ga K c)) d) ∧ ((fs = [] ∧ d = none) ∨ (fs ≠ [] ∧ ∃ dx fvs, d = some dx ∧ M dx = some (.xd fvs) ∧ RepF K M fs fvs))
  | .dk kvs, v => ∃ a o vs, v = .ref a ∧ M a = some (obO a o) ∧ DkF K a o vs ∧ RepG K M kvs vs
  | .dt kvs, v => ∃ a o vs, v = .ref a ∧ M a = some (obO a o) ∧ DtF K a o vs ∧ RepH K M kvs vs
  | .tupW xs, v => ∃ a vs, v = .ref a ∧ SqT K M a vs ∧ Reps K M xs vs
def Reps (K : Fg) [WD K] (M : Hp) : List D → List V → Prop
  | [], vs => vs = []
  | x :: xs, vs => ∃ v r, vs = v :: r ∧ Rep K M x v ∧ Reps K M xs r
def RepF (K : Fg) [WD K] (M : Hp) : List (Str × D) → List (Str × V) → Prop
  | [], vs => vs = []
  | (k, x) :: xs, vs => ∃ v r, vs = (k, v) :: r ∧ Rep K M x v ∧ RepF K M xs r
def RepG (K : Fg) [WD K] (M : Hp) : List (Key × D) → List (Key × Value) → Prop
  | [], vs => vs = []
  | (k, x) :: xs, vs => ∃ u v r, vs = (k, u) :: r ∧ RelV v u ∧ Rep K M x v ∧ RepG K M xs r
def RepH (K : Fg) [WD K] (M : Hp) : List (List Key × D) → List (List Key × Addr × Value) → Prop
  | [], vs => vs = []
  | (k, x) :: xs, vs => ∃ b u v r, vs = (k, b, u) :: r ∧ SqN K M b (k.map kV) ∧ RelV v u ∧ Rep K M x v ∧ RepH K M xs r
end

theorem sqT_mono {K : Fg} {H H' : Hp} {a : Addr} {xs : List V} (e : Same H H') (h : SqT K H a xs) : SqT K H' a xs := by
  rcases h with (h | ⟨o, h⟩) | h
  · exact .inl (.inl (e _ _ h))
  · exact .inl (.inr ⟨o, e _ _ h⟩)
  · exact .inr h
mutual
theorem Rep.mono {K : Fg} [WD K] {M M' : Hp} (e : Same M M') : ∀ (d : D) (v : V), Rep K M d v → Rep K M' d v
  | .non, _, h => by simpa [Rep] using h
  | .bl _, _, h => by simpa [Rep] using h
  | .int _, _, h => by simpa [Rep] using h
  | .str _, _, h => by simpa [Rep] using h
  | .tup xs, v, h => by
    simp only [Rep] at h ⊢
    obtain ⟨a, vs, h1, h2, h3⟩ := h
    exact ⟨a, vs, h1, h2.mono e, Reps.mono e xs vs h3⟩
  | .lst xs, v, h => by
    simp only [Rep] at h ⊢
    obtain ⟨a, vs, h1, h2, h3⟩ := h
    exact ⟨a, vs, h1, e _ _ h2, Reps.mono e xs vs h3⟩
  | .scr ns, v, h => by
    simp only [Rep] at h ⊢
    obtain ⟨a, h1, h2⟩ := h
    exact ⟨a, h1, e.seq h2⟩
  | .ty _, _, h => by simpa [Rep] using h
  | .cls _, _, h => by simpa [Rep] using h
  | .obj c fs, v, h => by
    simp only [Rep] at h ⊢
    obtain ⟨a, dx, fvs, h1, h2, h3⟩ := h
    exact ⟨a, dx, fvs, h1, e _ _ h2, RepF.mono e fs fvs h3⟩
  | .exn c fs, v, h => by
    simp only [Rep] at h ⊢
    obtain ⟨a, d, h1, h2, h3⟩ := h
    refine ⟨a, d, h1, e _ _ h2, ?_⟩
    rcases h3 with h3 | ⟨h3, dx, fvs, h4, h5, h6⟩
    · exact .inl h3
    · exact .inr ⟨h3, dx, fvs, h4, e _ _ h5, RepF.mono e fs fvs h6⟩
  | .dk kvs, v, h => by
    simp only [Rep] at h ⊢
    obtain ⟨a, o, vs, h1, h2, h4, h3⟩ := h
    exact ⟨a, o, vs, h1, e _ _ h2, h4, RepG.mono e kvs vs h3⟩
  | .dt kvs, v, h => by
    simp only [Rep] at h ⊢
    obtain ⟨a, o, vs, h1, h2, h4, h3⟩ := h
    exact ⟨a, o, vs, h1, e _ _ h2, h4, RepH.mono e kvs vs h3⟩
  | .tupW xs, v, h => by
    simp only [Rep] at h ⊢
    obtain ⟨a, vs, h1, h2, h3⟩ := h
    exact ⟨a, vs, h1, sqT_mono e h2, Reps.mono e xs vs h3⟩
theorem Reps.mono {K : Fg} [WD K] {M M' : Hp} (e : Same M M') : ∀ (xs : List D) (vs : List V), Reps K M xs vs → Reps K M' xs vs
  | [], _, h => by simpa [Reps] using h
  | x :: xs, vs, h => by
    simp only [Reps] at h ⊢
    obtain ⟨v, r, h1, h2, h3⟩ := h
    exact ⟨v, r, h1, Rep.mono e x v h2, Reps.mono e xs r h3⟩
theorem RepF.mono {K : Fg} [WD K] {M M' : Hp} (e : Same M M') : ∀ (xs : List (Str × D)) (vs : List (Str × V)), RepF K M xs vs → RepF K M' xs vs
  | [], _, h => by simpa [RepF] using h
  | (k, x) :: xs, vs, h => by
    simp only [RepF] at h ⊢
    obtain ⟨v, r, h1, h2, h3⟩ := h
    exact ⟨v, r, h1, Rep.mono e x v h2, RepF.mono e xs r h3⟩
theorem RepG.mono {K : Fg} [WD K] {M M' : Hp} (e : Same M M') : ∀ (xs : List (Key × D)) (vs : List (Key × Value)), RepG K M xs vs → RepG K M' xs vs
  | [], _, h => by simpa [RepG] using h
  | (k, x) :: xs, vs, h => by
    simp only [RepG] at h ⊢
    obtain ⟨u, v, r, h1, h3, h4, h5⟩ := h
    exact ⟨u, v, r, h1, h3, Rep.mono e x v h4, RepG.mono e xs r h5⟩
theorem RepH.mono {K : Fg} [WD K] {M M' : Hp} (e : Same M M') : ∀ (xs : List (List Key × D)) (vs : List (List Key × Addr × Value)), RepH K M xs vs → RepH K M' xs vs
  | [], _, h => by simpa [RepH] using h
  | (k, x) :: xs, vs, h => by
    simp only [RepH] at h ⊢
    obtain ⟨b, u, v, r, h1, h2, h3, h4, h5⟩ := h
    exact ⟨b, u, v, r, h1, h2.mono e, h3, Rep.mono e x v h4, RepH.mono e xs r h5⟩
end
theorem reps_iff {K : Fg} [WD K] {M : Hp} : ∀ {xs : List D} {vs : List V}, Reps K M xs vs ↔ Paired (Rep K M) xs vs
  | [], vs => by
    simp only [Reps]
    exact ⟨fun h => h ▸ .nil, fun h => by cases h; rfl⟩
  | x :: xs, vs => by
    simp only [Reps]
    constructor
    · rintro ⟨v, r, rfl, h1, h2⟩
      exact .cons h1 (reps_iff.mp h2)
    · intro h
      cases h with
      | cons h1 h2 => exact ⟨_, _, rfl, h1, reps_iff.mpr h2⟩
theorem Reps.nil {K : Fg} [WD K] {M : Hp} : Reps K M [] [] := by simp [Reps]
theorem Reps.cons {K : Fg} [WD K] {M : Hp} {x : D} {xs : List D} {v : V} {vs : List V} (h : Rep K M x v) (hs : Reps K M xs vs) : Reps K M (x :: xs) (v :: vs) := by
  simp only [Reps]
  exact ⟨v, vs, rfl, h, hs⟩
theorem Reps.length {K : Fg} [WD K] {M : Hp} {xs : List D} {vs : List V} (h : Reps K M xs vs) : xs.length = vs.length := Paired.length (reps_iff.mp h)
theorem Reps.get {K : Fg} [WD K] {M : Hp} : ∀ {xs : List D} {vs : List V} {i : Nat} {x : D}, Reps K M xs vs → xs[i]? = some x → ∃ v, vs[i]? = some v ∧ Rep K M x v
  | [], vs, i, x, _, e => by simp at e
  | y :: xs, vs, 0, x, h, e => by
    simp only [Reps] at h
    obtain ⟨v, r, rfl, h1, h2⟩ := h
    simp at e; subst e
    exact ⟨v, rfl, h1⟩
  | y :: xs, vs, i + 1, x, h, e => by
    simp only [Reps] at h
    obtain ⟨v, r, rfl, h1, h2⟩ := h
    simp at e
    obtain ⟨u, h3, h4⟩ := Reps.get (i := i) h2 e
    exact ⟨u, by simpa using h3, h4⟩
theorem Reps.get' {K : Fg} [WD K] {M : Hp} {xs : List D} {vs : List V} {i : Nat} {v : V} (h : Reps K M xs vs) (e : vs[i]? = some v) : ∃ x, xs[i]? = some x ∧ Rep K M x v := by
  have hl := h.length
  have hi : i < vs.length := (List.getElem?_eq_some_iff.mp e).1
  have hi' : i < xs.length := by omega
  obtain ⟨u, h1, h2⟩ := h.get (List.getElem?_eq_getElem hi')
  rw [e] at h1
  cases h1
  exact ⟨_, List.getElem?_eq_getElem hi', h2⟩
theorem Reps.append {K : Fg} [WD K] {M : Hp} : ∀ {xs ys : List D} {vs us : List V}, Reps K M xs vs → Reps K M ys us → Reps K M (xs ++ ys) (vs ++ us)
  | [], ys, vs, us, h, h' => by
    simp only [Reps] at h
    subst h
    exact h'
  | x :: xs, ys, vs, us, h, h' => by
    simp only [Reps] at h
    obtain ⟨v, r, rfl, h1, h2⟩ := h
    exact Reps.cons h1 (Reps.append h2 h')
theorem Reps.take {K : Fg} [WD K] {M : Hp} : ∀ (n : Nat) {xs : List D} {vs : List V}, Reps K M xs vs → Reps K M (xs.take n) (vs.take n)
  | 0, xs, vs, _ => by simpa using Reps.nil
  | n + 1, [], vs, h => by
    simp only [Reps] at h
    subst h
    simpa using Reps.nil
  | n + 1, x :: xs, vs, h => by
    simp only [Reps] at h
    obtain ⟨v, r, rfl, h1, h2⟩ := h
    exact Reps.cons h1 (Reps.take n h2)
theorem Reps.drop {K : Fg} [WD K] {M : Hp} : ∀ (n : Nat) {xs : List D} {vs : List V}, Reps K M xs vs → Reps K M (xs.drop n) (vs.drop n)
  | 0, xs, vs, h => h
  | n + 1, [], vs, h => by
    simp only [Reps] at h
    subst h
    simpa using Reps.nil
  | n + 1, x :: xs, vs, h => by
    simp only [Reps] at h
    obtain ⟨v, r, rfl, h1, h2⟩ := h
    exact Reps.drop n h2
theorem Reps.eraseIdx {K : Fg} [WD K] {M : Hp} : ∀ (n : Nat) {xs : List D} {vs : List V}, Reps K M xs vs → Reps K M (xs.eraseIdx n) (vs.eraseIdx n)
  | _, [], vs, h => by
    simp only [Reps] at h
    subst h
    simpa using Reps.nil
  | 0, x :: xs, vs, h => by
    simp only [Reps] at h
    obtain ⟨v, r, rfl, h1, h2⟩ := h
    simpa using h2
  | n + 1, x :: xs, vs, h => by
    simp only [Reps] at h
    obtain ⟨v, r, rfl, h1, h2⟩ := h
    simpa using Reps.cons h1 (Reps.eraseIdx n h2)
theorem Reps.set {K : Fg} [WD K] {M : Hp} {y : D} {u : V} (hy : Rep K M y u) : ∀ (n : Nat) {xs : List D} {vs : List V}, Reps K M xs vs → Reps K M (xs.set n y) (vs.set n u)
  | _, [], vs, h => by
    simp only [Reps] at h
    subst h
    simpa using Reps.nil
  | 0, x :: xs, vs, h => by
    simp only [Reps] at h
    obtain ⟨v, r, rfl, h1, h2⟩ := h
    simpa using Reps.cons hy h2
  | n + 1, x :: xs, vs, h => by
    simp only [Reps] at h
    obtain ⟨v, r, rfl, h1, h2⟩ := h
    simpa using Reps.cons h1 (Reps.set hy n h2)
theorem Reps.reverse {K : Fg} [WD K] {M : Hp} : ∀ {xs : List D} {vs : List V}, Reps K M xs vs → Reps K M xs.reverse vs.reverse
  | [], vs, h => by
    simp only [Reps] at h
    subst h
    simpa using Reps.nil
  | x :: xs, vs, h => by
    simp only [Reps] at h
    obtain ⟨v, r, rfl, h1, h2⟩ := h
    rw [List.reverse_cons, List.reverse_cons]
    exact (Reps.reverse h2).append (Reps.cons h1 Reps.nil)

/-- a row of a dict -/
def RowK (K : Fg) [WD K] (M : Hp) (p : Key × D) (q : Key × Value) : Prop := p.1 = q.1 ∧ ∃ v, RelV v q.2 ∧ Rep K M p.2 v
theorem repG_iff {K : Fg} [WD K] {M : Hp} : ∀ {xs : List (Key × D)} {vs : List (Key × Value)}, RepG K M xs vs ↔ Paired (RowK K M) xs vs
  | [], vs => by
    simp only [RepG]
    exact ⟨fun h => h ▸ .nil, fun h => by cases h; rfl⟩
  | (k, x) :: xs, vs => by
    simp only [RepG]
    constructor
    · rintro ⟨u, v, r, rfl, h2, h3, h4⟩
      exact .cons ⟨rfl, v, h2, h3⟩ (repG_iff.mp h4)
    · intro h
      cases h with
      | cons h1 h2 =>
        rename_i q _
        obtain ⟨k', u⟩ := q
        obtain ⟨e, v, h3, h4⟩ := h1
        cases e
        exact ⟨u, v, _, rfl, h3, h4, repG_iff.mpr h2⟩
/-- a row of a dict with tuples as keys -/
def RowT (K : Fg) [WD K] (M : Hp) (p : List Key × D) (q : List Key × Addr × Value) : Prop := p.1 = q.1 ∧ SqN K M q.2.1 (p.1.map kV) ∧ ∃ v, RelV v q.2.2 ∧ Rep K M p.2 v
theorem repH_iff {K : Fg} [WD K] {M : Hp} : ∀ {xs : List (List Key × D)} {vs : List (List Key × Addr × Value)}, RepH K M xs vs ↔ Paired (RowT K M) xs vs
  | [], vs => by
    simp only [RepH]
    exact ⟨fun h => h ▸ .nil, fun h => by cases h; rfl⟩
  | (k, x) :: xs, vs => by
    simp only [RepH]
    constructor
    · rintro ⟨b, u, v, r, rfl, h1, h2, h3, h4⟩
      exact .cons ⟨rfl, h1, v, h2, h3⟩ (repH_iff.mp h4)
    · intro h
      cases h with
      | cons h1 h2 =>
        rename_i q _
        obtain ⟨k', b, u⟩ := q
        obtain ⟨e, h1, v, h3, h4⟩ := h1
        cases e
        exact ⟨b, u, v, _, rfl, h1, h3, h4, repH_iff.mpr h2⟩
/-! ### what a slot holds -/
/-- an object that its one holder may change -/
inductive OD where
  | lst (xs : List D) | ob (c : Str) (fs : List (Str × D)) | dk (kvs : List (Key × D)) | dt (kvs : List (List Key × D))
theorem Paired.imp {α β : Type} {F G : α → β → Prop} (f : ∀ a b, F a b → G a b) : ∀ {xs : List α} {ys : List β}, Paired F xs ys → Paired G xs ys
  | _, _, .nil => .nil
  | _, _, .cons h t => .cons (f _ _ h) (Paired.imp f t)
abbrev RepK (K : Fg) [WD K] (M : Hp) (kvs : List (Key × D)) (vs : List (Key × Value)) : Prop := Paired (RowK K M) kvs vs
theorem RepK.mono {K : Fg} [WD K] {M M' : Hp} {kvs : List (Key × D)} {vs : List (Key × Value)} (e : Same M M') (h : RepK K M kvs vs) : RepK K M' kvs vs := Paired.imp (fun _ _ ⟨a, v, c, d⟩ => ⟨a, v, c, Rep.mono e _ _ d⟩) h
abbrev RepT (K : Fg) [WD K] (M : Hp) (kvs : List (List Key × D)) (vs : List (List Key × Addr × Value)) : Prop := Paired (RowT K M) kvs vs
theorem RepT.mono {K : Fg} [WD K] {M M' : Hp} {kvs : List (List Key × D)} {vs : List (List Key × Addr × Value)} (e : Same M M') (h : RepT K M kvs vs) : RepT K M' kvs vs := Paired.imp (fun _ _ ⟨a, b, v, c, d⟩ => ⟨a, b.mono e, v, c, Rep.mono e _ _ d⟩) h
def At (K : Fg) [WD K] (M H : Hp) (l : Addr) : OD → Prop
  | .lst xs => ∃ vs, H l = some (.lst vs) ∧ Reps K M xs vs
  | .ob c fs => ∃ dx fvs, H l = some (.ins (He.ga K c) dx fvs) ∧ RepF K M fs fvs
  | .dk kvs => ∃ o vs, H l = some (obO l o) ∧ DkF K l o vs ∧ RepK K M kvs vs
  | .dt kvs => ∃ o vs, H l = some (obO l o) ∧ DtF K l o vs ∧ RepT K M kvs vs
theorem At.there {K : Fg} [WD K] {M H : Hp} {l : Addr} {o : OD} (h : At K M H l o) : ∃ u, H l = some u := by
  cases o with
  | lst xs => obtain ⟨vs, e, _⟩ := h; exact ⟨_, e⟩
  | ob c fs => obtain ⟨_, vs, e, _⟩ := h; exact ⟨_, e⟩
  | dk xs => obtain ⟨_, vs, e, _⟩ := h; exact ⟨_, e⟩
  | dt xs => obtain ⟨_, vs, e, _⟩ := h; exact ⟨_, e⟩
theorem At.mono {K : Fg} [WD K] {M M' H H' : Hp} {l : Addr} {o : OD} (h : At K M H l o) (e : Same M M') (f : ∀ u, H l = some u → H' l = some u) : At K M' H' l o := by
  cases o with
  | lst xs => obtain ⟨vs, e1, e2⟩ := h; exact ⟨vs, f _ e1, Reps.mono e _ _ e2⟩
  | ob c fs => obtain ⟨dx, vs, e1, e2⟩ := h; exact ⟨dx, vs, f _ e1, RepF.mono e _ _ e2⟩
  | dk xs => obtain ⟨o, vs, e1, e3, e2⟩ := h; exact ⟨o, vs, f _ e1, e3, e2.mono e⟩
  | dt xs => obtain ⟨o, vs, e1, e3, e2⟩ := h; exact ⟨o, vs, f _ e1, e3, e2.mono e⟩
inductive Sl where
  | no | im (d : D) | ow (pin : Bool) (o : OD)
  /-- not to be touched: a loop walks it -/
  | hid
def Sl.kind : Sl → Sl
  | .ow p _ => .ow p (.lst [])
  | s => s
def Sl.pinned : Sl → Bool
  | .ow p _ => p
  | .hid => true
  | _ => false
abbrev Ev := List Sl
def SlOk (K : Fg) [WD K] (M H : Hp) (v : Option (Option V)) : Sl → Prop
  | .no => True
  | .hid => True
  | .im d => ∃ u, v = some (some u) ∧ Rep K M d u
  | .ow _ o => ∃ l, v = some (some (V.ref l)) ∧ At K M H l o ∧ M l = none
/-- the slot at i is the holder of the object at l -/
def Own (env : Ev) (σ : L2.St) (l : Addr) : Prop := ∃ (i : Nat) (p : Bool) (o : OD), env[i]? = some (Sl.ow p o) ∧ σ[i]? = some (some (V.ref l))
structure Holds (K : Fg) [WD K] (M : Hp) (env : Ev) (σ : L2.St) (H : Hp) : Prop where
  ex : Same M H
  len : σ.length = env.length
  slot : ∀ (i : Nat) s, env[i]? = some s → SlOk K M H σ[i]? s
  dj : ∀ (i j : Nat) (l : Addr) (p : Bool) (o : OD) (p' : Bool) (o' : OD), i ≠ j → env[i]? = some (Sl.ow p o) → env[j]? = some (Sl.ow p' o') → σ[i]? = some (some (V.ref l)) → σ[j]? = some (some (V.ref l)) → False
structure Grow (M : Hp) (env : Ev) (σ : L2.St) (H : Hp) (M' : Hp) (env' : Ev) (σ' : L2.St) (H' : Hp) : Prop where
  exM : Same M M'
  fr : ∀ l o, H l = some o → ¬ Own env σ l → H' l = some o
  new : ∀ l o, M' l = some o → M l = some o ∨ H l = none ∨ Own env σ l
  own : ∀ l, Own env' σ' l → Own env σ l ∨ H l = none
  pin : ∀ (i : Nat) s, env[i]? = some s → s.pinned = true → σ'[i]? = σ[i]? ∧ ∃ s', env'[i]? = some s' ∧ s'.kind = s.kind
  dom : ∀ l, H' l = none → H l = none
  len : env'.length = env.length
section
variable {K : Fg} [WD K] {M M1 M2 : Hp} {env env1 env2 : Ev} {σ σ1 σ2 : L2.St} {H H1 H2 : Hp}
theorem Holds.notM {l : Addr} (h : Holds K M env σ H) (o : Own env σ l) : M l = none := by
  obtain ⟨i, p, od, e1, e2⟩ := o
  obtain ⟨l', e3, _, e4⟩ := h.slot i _ e1
  rw [e2] at e3
  cases e3
  exact e4
theorem Holds.ownSome {l : Addr} (h : Holds K M env σ H) (o : Own env σ l) : ∃ u, H l = some u := by
  obtain ⟨i, p, od, e1, e2⟩ := o
  obtain ⟨l', e3, e5, e4⟩ := h.slot i _ e1
  rw [e2] at e3
  cases e3
  exact e5.there
theorem kind_pin {s s' : Sl} (h : s'.kind = s.kind) : s'.pinned = s.pinned := by
  cases s <;> cases s' <;> simp [Sl.kind, Sl.pinned] at h ⊢ <;> exact h
theorem Grow.refl : Grow M env σ H M env σ H := ⟨Same.refl M, fun _ _ h _ => h, fun _ _ h => .inl h, fun _ h => .inl h, fun _ s h _ => ⟨rfl, s, h, rfl⟩, fun _ h => h, rfl⟩
theorem Grow.trans (h : Holds K M env σ H) (a : Grow M env σ H M1 env1 σ1 H1) (b : Grow M1 env1 σ1 H1 M2 env2 σ2 H2) : Grow M env σ H M2 env2 σ2 H2 where
  exM := a.exM.trans b.exM
  fr := fun l o e n => b.fr l o (a.fr l o e n) fun z => by
    rcases a.own l z with q | q
    · exact n q
    · rw [e] at q; cases q
  new := fun l o e => by
    rcases b.new l o e with q | q | q
    · exact a.new l o q
    · exact .inr (.inl (a.dom l q))
    · rcases a.own l q with q | q
      · exact .inr (.inr q)
      · exact .inr (.inl q)
  own := fun l z => by
    rcases b.own l z with q | q
    · exact a.own l q
    · exact .inr (a.dom l q)
  pin := fun i s e p => by
    obtain ⟨e1, s1, e2, k1⟩ := a.pin i s e p
    obtain ⟨e3, s2, e4, k2⟩ := b.pin i s1 e2 ((kind_pin k1).trans p)
    exact ⟨e3.trans e1, s2, e4, k2.trans k1⟩
  dom := fun l e => a.dom l (b.dom l e)
  len := b.len.trans a.len
/-- nothing that stands is changed -/
structure Ext (M H M' H' : Hp) : Prop where
  exM : Same M M'
  exH : Same H H'
  new : ∀ l o, M' l = some o → M l = some o ∨ H l = none
  inn : Same M' H'
theorem Ext.refl (e : Same M H) : Ext M H M H := ⟨Same.refl _, Same.refl _, fun _ _ h => .inl h, e⟩
theorem Ext.grow (h : Holds K M env σ H) (e : Ext M H M1 H1) : Grow M env σ H M1 env σ H1 :=
  ⟨e.exM, fun _ _ q _ => e.exH _ _ q, fun l o q => (e.new l o q).imp id .inl, fun _ z => .inl z, fun _ s q _ => ⟨rfl, s, q, rfl⟩, fun l q => e.exH.free q, rfl⟩
theorem Ext.holds (h : Holds K M env σ H) (e : Ext M H M1 H1) : Holds K M1 env σ H1 where
  ex := e.inn
  len := h.len
  slot := fun i s q => by
    have := h.slot i s q
    cases s with
    | no => trivial
    | hid => trivial
    | im d => obtain ⟨u, e1, e2⟩ := this; exact ⟨u, e1, Rep.mono e.exM _ _ e2⟩
    | ow p o =>
      obtain ⟨l, e1, e2, e3⟩ := this
      refine ⟨l, e1, e2.mono e.exM fun u q => e.exH _ _ q, ?_⟩
      cases q2 : M1 l with
      | none => rfl
      | some u =>
        rcases e.new l u q2 with z | z
        · rw [e3] at z; cases z
        · obtain ⟨u2, z2⟩ := e2.there
          rw [z] at z2; cases z2
  dj := h.dj
theorem Ext.trans (a : Ext M H M1 H1) (b : Ext M1 H1 M2 H2) : Ext M H M2 H2 :=
  ⟨a.exM.trans b.exM, a.exH.trans b.exH, fun l o e => by
    rcases b.new l o e with q | q
    · exact a.new l o q
    · exact .inr (a.exH.free q), b.inn⟩
end
end Dn

namespace Dn
open PySem PySem.Spec PyProof.Rows L2
/-! ### what an expression gives -/
/-- plain data; the object that slot i holds; a new object, its own holder -/
inductive X where
  | im (d : D) | sl (i : Nat) | ow (o : OD)
/-- an exception: its class, its fields -/
abbrev Xn := Str × List (Str × D)
inductive RE (α : Type) where
  | ok (x : α) (env : Ev) | exc (e : Xn) (env : Ev) | bad
def Shape (env env' : Ev) : Prop := env'.map Sl.kind = env.map Sl.kind
theorem Shape.refl (env : Ev) : Shape env env := rfl
theorem Shape.trans {a b c : Ev} (h : Shape a b) (h' : Shape b c) : Shape a c := Eq.trans h' h
theorem Shape.ow {a b : Ev} (h : Shape a b) {i : Nat} {p : Bool} {o : OD} (e : a[i]? = some (Sl.ow p o)) : ∃ o', b[i]? = some (Sl.ow p o') := by
  have h1 : (b.map Sl.kind)[i]? = (a.map Sl.kind)[i]? := by rw [show b.map Sl.kind = a.map Sl.kind from h]
  rw [List.getElem?_map, List.getElem?_map, e] at h1
  cases q : b[i]? with
  | none => rw [q] at h1; cases h1
  | some s =>
    rw [q] at h1
    cases s with
    | no => cases h1
    | hid => cases h1
    | im d => cases h1
    | ow p' o' =>
      simp only [Option.map_some, Sl.kind, Option.some.injEq, Sl.ow.injEq, and_true] at h1
      subst h1
      exact ⟨o', rfl⟩
def RepX (K : Fg) [WD K] (M H : Hp) (env : Ev) (σ : L2.St) : X → V → Prop
  | .im d, v => Rep K M d v
  | .sl i, v => (∃ p o, env[i]? = some (Sl.ow p o)) ∧ σ[i]? = some (some v)
  | .ow o, v => ∃ l, v = V.ref l ∧ At K M H l o ∧ M l = none ∧ ¬ Own env σ l
/-- of a new thing, ahead of which M, H stood -/
def RepN (K : Fg) [WD K] (M H : Hp) : X → V → Prop
  | .im d, v => Rep K M d v
  | .sl _, _ => False
  | .ow o, v => ∃ l, v = V.ref l ∧ At K M H l o ∧ M l = none
def RepE (K : Fg) [WD K] (M H : Hp) (e : Xn) (cls : Value) (d : Option Addr) : Prop :=
  cls = .ref (He.ga K e.1) ∧ ((e.2 = [] ∧ d = none) ∨ (e.2 ≠ [] ∧ ∃ dx fvs, d = some dx ∧ M dx = some (.xd fvs) ∧ RepF K M e.2 fvs))
/-- an exception's wish at the slots -/
abbrev WS := L2.St → XK
/-- an outcome that is met: t, at the state, brings about what is wanted -/
def Sat {α β : Type} (K : Fg) [WD K] (W : WS) (M : Hp) (σ : L2.St) (H : Hp) (env : Ev) (r : RE α) (R : Hp → Hp → Hp → Ev → α → β → Prop) (t : (β → Hp → Prop) → Prop) : Prop := match r with
  | .ok x env' => ∀ Q : β → Hp → Prop, (∀ v M' H', Grow M env σ H M' env' σ H' → Shape env env' → Holds K M' env' σ H' → R H M' H' env' x v → Q v H') → t Q
  | .exc e env' => ∀ Q : β → Hp → Prop, (∀ cls d M' H', Grow M env σ H M' env' σ H' → Shape env env' → Holds K M' env' σ H' → RepE K M' H' e cls d → W σ cls d H') → t Q
  | .bad => True
/-- a new object was not there ahead -/
def NewX (H0 : Hp) (x : X) (v : V) : Prop := ∀ o, x = .ow o → ∀ l, v = V.ref l → H0 l = none
/-- of the heap ahead nothing but what is free is said -/
def Back {α β : Type} (R : Hp → Hp → Hp → Ev → α → β → Prop) : Prop := ∀ H0 H1 M' H' env' x v, (∀ l, H1 l = none → H0 l = none) → R H1 M' H' env' x v → R H0 M' H' env' x v
def RX (K : Fg) [WD K] (σ : L2.St) : Hp → Hp → Hp → Ev → X → V → Prop := fun H0 M' H' env' x v => RepX K M' H' env' σ x v ∧ NewX H0 x v
theorem back_x {K : Fg} [WD K] {σ : L2.St} : Back (RX K σ) := fun _ _ _ _ _ _ _ h ⟨a, b⟩ => ⟨a, fun o e l e2 => h l (b o e l e2)⟩
def RB : Hp → Hp → Hp → Ev → Bool → Bool → Prop := fun _ _ _ _ x v => x = v
theorem back_b : Back RB := fun _ _ _ _ _ _ _ _ h => h
def DE (K : Fg) [WD K] (W : WS) (te : TE) (de : Ev → RE X) : Prop := ∀ (M : Hp) (σ : L2.St) (H : Hp) (env : Ev), Holds K M env σ H → Sat K W M σ H env (de env) (RX K σ) (te σ H)
def DT (K : Fg) [WD K] (W : WS) (tt : TT) (dt : Ev → RE Bool) : Prop := ∀ (M : Hp) (σ : L2.St) (H : Hp) (env : Ev), Holds K M env σ H → Sat K W M σ H env (dt env) RB (tt σ H)
def RepXs (K : Fg) [WD K] (M H : Hp) (env : Ev) (σ : L2.St) (xs : List X) (vs : List V) : Prop := Paired (RepX K M H env σ) xs vs
def RA (K : Fg) [WD K] (σ : L2.St) : Hp → Hp → Hp → Ev → List X → List V → Prop := fun H0 M' H' env' xs vs => Paired (RX K σ H0 M' H' env') xs vs
theorem Paired.imp1 {α β : Type} {F G : α → β → Prop} (f : ∀ a b, F a b → G a b) : ∀ {xs : List α} {ys : List β}, Paired F xs ys → Paired G xs ys
  | _, _, .nil => .nil
  | _, _, .cons h t => .cons (f _ _ h) (Paired.imp1 f t)
theorem back_a {K : Fg} [WD K] {σ : L2.St} : Back (RA K σ) := fun H0 H1 M' H' env' xs vs h r => Paired.imp1 (fun x v q => back_x H0 H1 M' H' env' x v h q) r
def DA (K : Fg) [WD K] (W : WS) (ta : TA) (da : Ev → RE (List X)) : Prop := ∀ (M : Hp) (σ : L2.St) (H : Hp) (env : Ev), Holds K M env σ H → Sat K W M σ H env (da env) (RA K σ) (ta σ H)
section
variable {K : Fg} [WD K] {W : WS} {M M' M1 M2 : Hp} {env env' env1 env2 : Ev} {σ : L2.St} {H H' H1 H2 : Hp} {x y : X} {v u : V}
theorem own_shape (h : Shape env env') {l : Addr} : Own env' σ l → Own env σ l := fun ⟨i, p, o, e1, e2⟩ => by
  obtain ⟨o', e3⟩ := Shape.ow (show Shape env' env from Eq.symm h) e1
  exact ⟨i, p, o', e3, e2⟩
/-- what was got stays got -/
theorem RepX.grow (h : Holds K M env σ H) (r : RepX K M H env σ x v) (g : Grow M env σ H M' env' σ H') (s : Shape env env') : RepX K M' H' env' σ x v := by
  cases x with
  | im d => exact Rep.mono g.exM _ _ r
  | sl i =>
    obtain ⟨⟨p, o, e⟩, e2⟩ := r
    obtain ⟨o', e'⟩ := s.ow e
    exact ⟨⟨p, o', e'⟩, e2⟩
  | ow o =>
    obtain ⟨l, rfl, a, n, no⟩ := r
    refine ⟨l, rfl, a.mono g.exM fun u q => g.fr l u q no, ?_, fun z => no (own_shape s z)⟩
    cases q : M' l with
    | none => rfl
    | some u =>
      rcases g.new l u q with z | z | z
      · rw [n] at z; cases z
      · obtain ⟨u2, z2⟩ := a.there
        rw [z] at z2; cases z2
      · exact (no z).elim
theorem RepXs.grow (h : Holds K M env σ H) (g : Grow M env σ H M' env' σ H') (s : Shape env env') {xs : List X} {vs : List V} (r : RepXs K M H env σ xs vs) : RepXs K M' H' env' σ xs vs := Paired.imp (fun _ _ q => RepX.grow h q g s) r
/-- a value that is read: plain data, or an object as it stands -/
def OD.toD : OD → Option D
  | .lst xs => some (.lst xs)
  | .ob c fs => some (.obj c fs)
  | .dk kvs => some (.dk kvs)
  | .dt kvs => some (.dt kvs)
def Rd2 (K : Fg) [WD K] (M H : Hp) (d : D) (v : V) : Prop := Rep K M d v ∨ ∃ l o, v = V.ref l ∧ At K M H l o ∧ o.toD = some d
def rd (env : Ev) : X → Option D
  | .im d => some d
  | .sl i => match env[i]? with
    | some (.ow _ o) => o.toD
    | _ => none
  | .ow o => o.toD
theorem rd_ok (h : Holds K M env σ H) (r : RepX K M H env σ x v) {d : D} (e : rd env x = some d) : Rd2 K M H d v := by
  cases x with
  | im d' =>
    cases e
    exact .inl r
  | sl i =>
    obtain ⟨⟨p, o, e1⟩, e2⟩ := r
    have e3 : o.toD = some d := by
      have e' : (match env[i]? with
        | some (Sl.ow _ o) => o.toD
        | _ => none) = some d := e
      rw [e1] at e'
      exact e'
    obtain ⟨l, e4, a, _⟩ := h.slot i _ e1
    rw [e2] at e4
    cases e4
    exact .inr ⟨l, o, rfl, a, e3⟩
  | ow o =>
    obtain ⟨l, rfl, a, _⟩ := r
    exact .inr ⟨l, o, rfl, a, e⟩
theorem repN_x (h : Holds K M env σ H) (e : Ext M H M1 H1) (hn : ∀ o, x = .ow o → ∀ l, v = V.ref l → H l = none) (r : RepN K M1 H1 x v) : RepX K M1 H1 env σ x v := by
  cases x with
  | im d => exact r
  | sl i => exact r.elim
  | ow o =>
    obtain ⟨l, rfl, a, n⟩ := r
    refine ⟨l, rfl, a, n, fun z => ?_⟩
    obtain ⟨u, q⟩ := h.ownSome z
    rw [hn o rfl l rfl] at q
    cases q
/-- a rule's end: new things made, a value -/
def Fin (K : Fg) [WD K] (M H : Hp) (x : X) (Q : VK) : Prop := ∀ z M' H', Ext M H M' H' → (∀ o, x = .ow o → ∀ l, z = V.ref l → H l = none) → RepN K M' H' x z → Q z H'
def OpOk (K : Fg) [WD K] (r : R2) (f : D → D → Option X) : Prop := ∀ M H dx dy x v u, Same M H → Rd2 K M H dx v → Rd2 K M H dy u → f dx dy = some x → ∀ Q : VK, Fin K M H x Q → r v u H Q
def UnOk (K : Fg) [WD K] (r : V → Hp → VK → Prop) (f : D → Option X) : Prop := ∀ M H dx x v, Same M H → Rd2 K M H dx v → f dx = some x → ∀ Q : VK, Fin K M H x Q → r v H Q
def CallOk (K : Fg) [WD K] (r : List V → Hp → VK → Prop) (f : List D → Option X) : Prop := ∀ M H ds x vs, Same M H → Paired (Rd2 K M H) ds vs → f ds = some x → ∀ Q : VK, Fin K M H x Q → r vs H Q
theorem Fin.im {d : D} {Q : VK} (q : Fin K M H (.im d) Q) {z : V} {M' H' : Hp} (e : Ext M H M' H') (r : Rep K M' d z) : Q z H' := q z M' H' e (fun _ z => nomatch z) r
theorem Fin.im0 {d : D} {Q : VK} (q : Fin K M H (.im d) Q) (h : Same M H) {z : V} (r : Rep K M d z) : Q z H := q.im (Ext.refl h) r
theorem ext_tup (h : Same M H) {p : Addr} {o : HO} (n : H p = none) : Ext M H (upd M p o) (upd H p o) where
  exM := fun a u q => by rw [upd_ne (ne_of_none q (h.free n))]; exact q
  exH := fun a u q => by rw [upd_ne (ne_of_none q n)]; exact q
  new := fun l u q => by
    by_cases e : l = p
    · exact .inr (e ▸ n)
    · rw [upd_ne e] at q; exact .inl q
  inn := fun a u q => by
    by_cases e : a = p
    · subst e; rw [upd_same] at q ⊢; exact q
    · rw [upd_ne e] at q ⊢; exact h a u q
theorem ext_own (h : Same M H) {p : Addr} {o : HO} (n : H p = none) : Ext M H M (upd H p o) where
  exM := Same.refl M
  exH := fun a u q => by rw [upd_ne (ne_of_none q n)]; exact q
  new := fun l u q => .inl q
  inn := fun a u q => by rw [upd_ne (ne_of_none (h a u q) n)]; exact h a u q
theorem Fin.tup {xs : List D} {vs : List V} {Q : VK} (q : Fin K M H (.im (.tup xs)) Q) (h : Same M H) (r : Reps K M xs vs) {p : Addr} {o : Obj} (n : H p = none) (hd : o.dict = none) : Q (.ref p) (upd H p (.frz o (.tup vs))) := by
  have e := ext_tup h (o := .frz o (.tup vs)) n
  refine q.im e ?_
  simp only [Rep]
  exact ⟨p, vs, rfl, .inl ⟨o, upd_same, hd⟩, Reps.mono e.exM _ _ r⟩
theorem Fin.lst {xs : List D} {vs : List V} {Q : VK} (q : Fin K M H (.ow (.lst xs)) Q) (h : Same M H) (r : Reps K M xs vs) {p : Addr} (n : H p = none) : Q (.ref p) (upd H p (.lst vs)) := by
  have e := ext_own h (o := .lst vs) n
  refine q (.ref p) M _ e (fun _ _ l z => by cases z; exact n) ⟨p, rfl, ⟨vs, upd_same, r⟩, h.free n⟩
/-- read shapes -/
theorem Rd2.int {i : Int} (h : Rd2 K M H (.int i) v) : v = .int i := by
  rcases h with h | ⟨l, o, _, _, e⟩
  · simpa [Rep] using h
  · cases o <;> cases e
theorem Rd2.str {i : Str} (h : Rd2 K M H (.str i) v) : v = .str i := by
  rcases h with h | ⟨l, o, _, _, e⟩
  · simpa [Rep] using h
  · cases o <;> cases e
theorem Rd2.bl {i : Bool} (h : Rd2 K M H (.bl i) v) : v = .bl i := by
  rcases h with h | ⟨l, o, _, _, e⟩
  · simpa [Rep] using h
  · cases o <;> cases e
theorem Rd2.non (h : Rd2 K M H .non v) : v = .non := by
  rcases h with h | ⟨l, o, _, _, e⟩
  · simpa [Rep] using h
  · cases o <;> cases e
theorem Rd2.tupN {xs : List D} (h : Rd2 K M H (.tup xs) v) (s : Same M H) : ∃ a vs, v = .ref a ∧ SqN K H a vs ∧ Reps K M xs vs := by
  rcases h with h | ⟨l, o, _, _, e⟩
  · simp only [Rep] at h
    obtain ⟨a, vs, h1, h2, h3⟩ := h
    exact ⟨a, vs, h1, h2.mono s, h3⟩
  · cases o <;> cases e
theorem Rd2.tup {xs : List D} (h : Rd2 K M H (.tup xs) v) (s : Same M H) : ∃ a vs, v = .ref a ∧ SqT K H a vs ∧ Reps K M xs vs := by
  obtain ⟨a, vs, h1, h2, h3⟩ := h.tupN s
  exact ⟨a, vs, h1, h2.t, h3⟩
theorem Rd2.lst {xs : List D} (h : Rd2 K M H (.lst xs) v) (s : Same M H) : ∃ a vs, v = .ref a ∧ H a = some (.lst vs) ∧ Reps K M xs vs := by
  rcases h with h | ⟨l, o, e1, a, e⟩
  · simp only [Rep] at h
    obtain ⟨a, vs, h1, h2, h3⟩ := h
    exact ⟨a, vs, h1, s _ _ h2, h3⟩
  · cases o with
    | lst ys =>
      cases e
      obtain ⟨vs, e2, r⟩ := a
      exact ⟨l, vs, e1, e2, r⟩
    | _ => cases e
theorem Rd2.scr {ns : List Int} (h : Rd2 K M H (.scr ns) v) (s : Same M H) : ∃ a, v = .ref a ∧ SqL K H a (ns.map V.int) := by
  rcases h with h | ⟨l, o, _, _, e⟩
  · simp only [Rep] at h
    obtain ⟨a, h1, h2⟩ := h
    exact ⟨a, h1, s.seq h2⟩
  · cases o <;> cases e
theorem Rd2.ty {n : String} (h : Rd2 K M H (.ty n) v) : v = .ty n := by
  rcases h with h | ⟨l, o, _, _, e⟩
  · simpa [Rep] using h
  · cases o <;> cases e
theorem Rd2.cls {c : Str} (h : Rd2 K M H (.cls c) v) : v = .ref (He.ga K c) := by
  rcases h with h | ⟨l, o, _, _, e⟩
  · simpa [Rep] using h
  · cases o <;> cases e
theorem Rd2.obj {c : Str} {fs : List (Str × D)} (h : Rd2 K M H (.obj c fs) v) (s : Same M H) : ∃ a dx fvs, v = .ref a ∧ H a = some (.ins (He.ga K c) dx fvs) ∧ RepF K M fs fvs := by
  rcases h with h | ⟨l, o, e1, a, e⟩
  · simp only [Rep] at h
    obtain ⟨a, dx, fvs, h1, h2, h3⟩ := h
    exact ⟨a, dx, fvs, h1, s _ _ h2, h3⟩
  · cases o with
    | ob c' fs' =>
      cases e
      obtain ⟨dx, fvs, e2, r⟩ := a
      exact ⟨l, dx, fvs, e1, e2, r⟩
    | _ => cases e
end

/-! ### expressions -/
def dC (d : D) : Ev → RE X := fun env => .ok (.im d) env
def dVar (i : Nat) : Ev → RE X := fun env => match env[i]? with
  | some (.im d) => .ok (.im d) env
  | some (.ow _ _) => .ok (.sl i) env
  | _ => .bad
def RE.bind {α β : Type} (r : RE α) (f : α → Ev → RE β) : RE β := match r with
  | .ok x env => f x env
  | .exc e env => .exc e env
  | .bad => .bad
def opt {α : Type} (o : Option α) (env : Ev) : RE α := match o with
  | some x => .ok x env
  | none => .bad
def dOp (f : D → D → Option X) (da db : Ev → RE X) : Ev → RE X := fun env => (da env).bind fun x e1 => (db e1).bind fun y e2 => opt ((rd e2 x).bind fun dx => (rd e2 y).bind fun dy => f dx dy) e2
def dUn (f : D → Option X) (da : Ev → RE X) : Ev → RE X := fun env => (da env).bind fun x e1 => opt ((rd e1 x).bind f) e1
def dNil : Ev → RE (List X) := fun env => .ok [] env
def dCons (da : Ev → RE X) (dr : Ev → RE (List X)) : Ev → RE (List X) := fun env => (da env).bind fun x e1 => (dr e1).bind fun xs e2 => .ok (x :: xs) e2
def rds (env : Ev) : List X → Option (List D)
  | [] => some []
  | x :: xs => (rd env x).bind fun d => (rds env xs).bind fun ds => some (d :: ds)
def dCB (f : List D → Option X) (da : Ev → RE (List X)) : Ev → RE X := fun env => (da env).bind fun xs e1 => opt ((rds e1 xs).bind f) e1
section
variable {K : Fg} [WD K] {W : WS} {M M' M1 M2 : Hp} {env env' env1 env2 : Ev} {σ : L2.St} {H H' H1 H2 : Hp} {x y : X} {v u : V} {ta tb : TE} {da db : Ev → RE X}
theorem Sat.bind {α β γ δ : Type} {r : RE α} {f : α → Ev → RE γ} {R : Hp → Hp → Hp → Ev → α → β → Prop} {R' : Hp → Hp → Hp → Ev → γ → δ → Prop} {t : (β → Hp → Prop) → Prop} {t' : (δ → Hp → Prop) → Prop} {c : β → Hp → (δ → Hp → Prop) → Prop}
    (bk : Back R') (hh : Holds K M env σ H) (h : Sat K W M σ H env r R t) (ht : ∀ Q, t (fun v H1 => c v H1 Q) → t' Q)
    (hf : ∀ M1 H1 env1 x v, Grow M env σ H M1 env1 σ H1 → Shape env env1 → Holds K M1 env1 σ H1 → R H M1 H1 env1 x v → Sat K W M1 σ H1 env1 (f x env1) R' (c v H1)) : Sat K W M σ H env (r.bind f) R' t' := by
  cases r with
  | bad => trivial
  | exc e env1 => exact fun Q k => ht Q (h _ k)
  | ok x env1 =>
    show Sat K W M σ H env (f x env1) R' t'
    cases e2 : f x env1 with
    | bad => trivial
    | exc e env2 =>
      refine fun Q k => ht Q (h _ fun v M1 H1 g1 s1 hh1 r1 => ?_)
      have h2 := hf M1 H1 env1 x v g1 s1 hh1 r1
      rw [e2] at h2
      exact h2 Q fun cls d M' H' g2 s2 hh2 r2 => k cls d M' H' (g1.trans hh g2) (s1.trans s2) hh2 r2
    | ok y env2 =>
      refine fun Q k => ht Q (h _ fun v M1 H1 g1 s1 hh1 r1 => ?_)
      have h2 := hf M1 H1 env1 x v g1 s1 hh1 r1
      rw [e2] at h2
      exact h2 Q fun v M' H' g2 s2 hh2 r2 => k v M' H' (g1.trans hh g2) (s1.trans s2) hh2 (bk _ _ _ _ _ _ _ g1.dom r2)
theorem Sat.imp {α β : Type} {r : RE α} {R : Hp → Hp → Hp → Ev → α → β → Prop} {t t' : (β → Hp → Prop) → Prop} (h : Sat K W M σ H env r R t) (ht : ∀ Q, t Q → t' Q) : Sat K W M σ H env r R t' := by
  cases r with
  | bad => trivial
  | exc e env1 => exact fun Q k => ht Q (h Q k)
  | ok x env1 => exact fun Q k => ht Q (h Q k)
theorem de_c (d : D) (w : V) (h : ∀ M, Rep K M d w) : DE K W (tC w) (dC d) := fun M σ H env hh Q k => k w M H .refl (.refl _) hh ⟨h M, fun _ z => nomatch z⟩
theorem de_int (i : Int) : DE K W (tC (.int i)) (dC (.int i)) := de_c _ _ fun M => by simp [Rep]
theorem de_bl (i : Bool) : DE K W (tC (.bl i)) (dC (.bl i)) := de_c _ _ fun M => by simp [Rep]
theorem de_str (i : Str) : DE K W (tC (.str i)) (dC (.str i)) := de_c _ _ fun M => by simp [Rep]
theorem de_non : DE K W (tC .non) (dC .non) := de_c _ _ fun M => by simp [Rep]
theorem de_var (i : Nat) : DE K W (tVar i) (dVar i) := fun M σ H env hh => by
  unfold dVar
  cases e : env[i]? with
  | none => trivial
  | some s =>
    cases s with
    | no => trivial
    | hid => trivial
    | im d =>
      intro Q k
      obtain ⟨w, e1, r⟩ := hh.slot i _ e
      exact ⟨w, e1, k w M H .refl (.refl _) hh ⟨r, fun _ z => nomatch z⟩⟩
    | ow p o =>
      intro Q k
      obtain ⟨l, e1, r, _⟩ := hh.slot i _ e
      exact ⟨_, e1, k _ M H .refl (.refl _) hh ⟨⟨⟨p, o, e⟩, e1⟩, fun _ z => nomatch z⟩⟩
/-- a rule's end taken -/
theorem sat_fin {o : Option X} {t : VK → Prop} (hh : Holds K M env σ H) (h : ∀ x, o = some x → ∀ Q : VK, Fin K M H x Q → t Q) : Sat K W M σ H env (opt o env) (RX K σ) t := by
  cases o with
  | none => trivial
  | some x => exact fun Q k => h x rfl Q fun z M' H' e hn r => k z M' H' (e.grow hh) (.refl _) (e.holds hh) ⟨repN_x hh e hn r, hn⟩
theorem de_op {r : R2} {f : D → D → Option X} (ho : OpOk K r f) (ha : DE K W ta da) (hb : DE K W tb db) : DE K W (tOp r ta tb) (dOp f da db) := fun M σ H env hh => by
  refine Sat.bind (c := fun v H1 Q => tb σ H1 fun u H2 => r v u H2 Q) back_x hh (ha M σ H env hh) (fun Q q => q) fun M1 H1 env1 x v g1 s1 hh1 r1 => ?_
  refine Sat.bind (c := fun u H2 Q => r v u H2 Q) back_x hh1 (hb M1 σ H1 env1 hh1) (fun Q q => q) fun M2 H2 env2 y u g2 s2 hh2 r2 => ?_
  refine sat_fin hh2 fun z e Q q => ?_
  obtain ⟨dx, e1, e⟩ := Option.bind_eq_some_iff.mp e
  obtain ⟨dy, e2, e⟩ := Option.bind_eq_some_iff.mp e
  exact ho M2 H2 dx dy z v u hh2.ex (rd_ok hh2 (RepX.grow hh1 r1.1 g2 s2) e1) (rd_ok hh2 r2.1 e2) e Q q
theorem de_un {r : V → Hp → VK → Prop} {f : D → Option X} (ho : UnOk K r f) (ha : DE K W ta da) : DE K W (tUn r ta) (dUn f da) := fun M σ H env hh => by
  refine Sat.bind (c := fun v H1 Q => r v H1 Q) back_x hh (ha M σ H env hh) (fun Q q => q) fun M1 H1 env1 x v g1 s1 hh1 r1 => ?_
  refine sat_fin hh1 fun z e Q q => ?_
  obtain ⟨dx, e1, e⟩ := Option.bind_eq_some_iff.mp e
  exact ho M1 H1 dx z v hh1.ex (rd_ok hh1 r1.1 e1) e Q q
theorem da_nil : DA K W tNil dNil := fun M σ H env hh Q k => k [] M H .refl (.refl _) hh Paired.nil
theorem da_cons {tr : TA} {dr : Ev → RE (List X)} (ha : DE K W ta da) (hr : DA K W tr dr) : DA K W (tCons ta tr) (dCons da dr) := fun M σ H env hh => by
  have h1 := ha M σ H env hh
  unfold dCons
  cases e1 : da env with
  | bad => trivial
  | exc e env1 =>
    rw [e1] at h1
    exact fun Q k => h1 _ k
  | ok x env1 =>
    rw [e1] at h1
    show Sat K W M σ H env ((dr env1).bind fun xs e2 => .ok (x :: xs) e2) (RA K σ) (tCons ta tr σ H)
    cases e2 : dr env1 with
    | bad => trivial
    | exc e env2 =>
      refine fun Q k => h1 _ fun v M1 H1 g1 s1 hh1 r1 => ?_
      have h2 := hr M1 σ H1 env1 hh1
      rw [e2] at h2
      exact h2 _ fun cls d M' H' g2 s2 hh2 r2 => k cls d M' H' (g1.trans hh g2) (s1.trans s2) hh2 r2
    | ok xs env2 =>
      refine fun Q k => h1 _ fun v M1 H1 g1 s1 hh1 r1 => ?_
      have h2 := hr M1 σ H1 env1 hh1
      rw [e2] at h2
      exact h2 _ fun vs M' H' g2 s2 hh2 r2 => k (v :: vs) M' H' (g1.trans hh g2) (s1.trans s2) hh2 (Paired.cons ⟨RepX.grow hh1 r1.1 g2 s2, r1.2⟩ (back_a _ _ _ _ _ _ _ g1.dom r2))
theorem ra_x {H0 M' H' : Hp} {xs : List X} {vs : List V} (r : RA K σ H0 M' H' env' xs vs) : RepXs K M' H' env' σ xs vs := Paired.imp1 (fun _ _ q => q.1) r
theorem rds_ok (hh : Holds K M env σ H) : ∀ {xs : List X} {vs : List V} {ds : List D}, RepXs K M H env σ xs vs → rds env xs = some ds → Paired (Rd2 K M H) ds vs
  | [], _, _, .nil, e => by
    cases e
    exact .nil
  | x :: xs, _, _, .cons r rs, e => by
    obtain ⟨dx, e1, e⟩ := Option.bind_eq_some_iff.mp (show ((rd env x).bind fun d => (rds env xs).bind fun ds => some (d :: ds)) = _ from e)
    obtain ⟨dy, e2, e⟩ := Option.bind_eq_some_iff.mp e
    cases e
    exact .cons (rd_ok hh r e1) (rds_ok hh rs e2)
theorem de_cb {ta : TA} {da : Ev → RE (List X)} {r : List V → Hp → VK → Prop} {f : List D → Option X} (ho : CallOk K r f) (ha : DA K W ta da) : DE K W (tCB r ta) (dCB f da) := fun M σ H env hh => by
  refine Sat.bind (c := fun v H1 Q => r v H1 Q) back_x hh (ha M σ H env hh) (fun Q q => q) fun M1 H1 env1 x v g1 s1 hh1 r1 => ?_
  refine sat_fin hh1 fun z e Q q => ?_
  obtain ⟨dx, e1, e⟩ := Option.bind_eq_some_iff.mp e
  exact ho M1 H1 dx z v hh1.ex (rds_ok hh1 (ra_x r1) e1) e Q q
end
end Dn

namespace Dn
open PySem PySem.Spec PyProof.Rows L2
/-! ### operators -/
def fit (n : Nat) : Bool := decide (n.log2 < 24)
def mulFit (i j : Int) : Bool := decide (i.natAbs.log2 + j.natAbs.log2 < 100000000)
theorem mulFit_ok {i j : Int} (h : mulFit i j = true) : IntMulOk i j := by
  have b : ∀ x : Int, Builtin.Int.intBits x ≤ x.natAbs.log2 + 1 := fun x => by
    unfold Builtin.Int.intBits
    split <;> omega
  have h1 := b i
  have h2 := b j
  have h3 : i.natAbs.log2 + j.natAbs.log2 < 100000000 := of_decide_eq_true h
  have e : bitsLine = 134217728 := by decide
  unfold IntMulOk
  intro z
  rw [Bool.and_eq_true] at z
  have z2 := z.2
  unfold Builtin.Int.intTooBig at z2
  have z3 := of_decide_eq_true z2
  rw [e] at z3
  omega
/-- ints: a partial function of both -/
def rII (g : Int → Int → Option V) : R2 := fun x y H Q => ∃ i j v, x = .int i ∧ y = .int j ∧ g i j = some v ∧ Q v H
section
variable {X : Cx}
theorem opII {f : Value → Value → Sem Value} {g : Int → Int → Option V}
    (h : ∀ {i j v} (t u : Tok) (s : Shared) (Q : Value → Shared → Prop), g i j = some v → (∀ w tk, RelV v w → Q w { s with toks := tk }) → wpAny (model X.prog X.w) X.A (f (.int i t) (.int j u)) Q X.xe s) : OpR X f (rII g) := by
  intro pins s σ H x y v u Q I rx ry q
  obtain ⟨i, j, w, rfl, rfl, e, q⟩ := q
  obtain ⟨t, rfl⟩ := rx
  obtain ⟨t', rfl⟩ := ry
  exact h t t' s _ e fun z tk r => ⟨w, H, I.tok tk, r, q⟩
def gMul (i j : Int) : Option V := if mulFit i j then some (.int (i * j)) else none
def gDiv (i j : Int) : Option V := if 0 < j ∧ j.natAbs.log2 < 9000 then some (.int (i / j)) else none
theorem op_mulG : OpR X (binaryOp .Mult) (rII gMul) := opII fun t u s Q e k => by
  unfold gMul at e
  split at e
  · rename_i h
    cases e
    exact mul_int (k _ _ ⟨_, rfl⟩) (mulFit_ok h)
  · cases e
theorem op_divG : OpR X (binaryOp .FloorDiv) (rII gDiv) := opII fun {i j v} t u s Q e k => by
  unfold gDiv at e
  split at e
  · rename_i h
    cases e
    have h1 : (0 : Int) < j := h.1
    exact floordiv_int (by omega) (by rw [Int.fdiv_eq_ediv_of_nonneg i (by omega)]; exact k _ _ ⟨_, rfl⟩) (.inl (PyProof.noPylong_of_log2 h.2))
  · cases e
/-- a text times an int -/
def repS (z : Str) (n : Nat) : Str := ⟨(List.replicate n z.cps.toList).flatten.toArray⟩
theorem repS_len (z : Str) (n : Nat) : (repS z n).length = n * z.length := by
  unfold repS Str.length
  simp [List.length_flatten, List.map_replicate, List.sum_replicate_nat]
theorem fold_rep (z : Array Nat) : ∀ (n : Nat) (acc : Array Nat), (List.replicate n z).foldl (fun x y => x ++ y) acc = acc ++ (List.replicate n z.toList).flatten.toArray
  | 0, acc => by simp
  | n + 1, acc => by
    rw [List.replicate_succ, List.foldl_cons, fold_rep z n, List.replicate_succ, List.flatten_cons]
    apply Array.toList_inj.mp
    simp
def rMulS : R2 := fun x y H Q => ∃ z i, x = .str z ∧ y = .int i ∧ 0 ≤ i ∧ i ≤ 1000 ∧ z.length ≤ 1000 ∧ Q (.str (repS z i.toNat)) H
theorem op_mulS : OpR X (binaryOp .Mult) rMulS := by
  intro pins s σ H x y v u Q I rx ry h
  obtain ⟨z, i, rfl, rfl, h0, h1, h2, q⟩ := h
  obtain ⟨t, rfl⟩ := rx
  obtain ⟨t', rfl⟩ := ry
  have lim : sizeLine = 16777216 := sizeLine_eq
  have hlen : z.length * i.toNat ≤ 1000000 := Nat.le_trans (Nat.mul_le_mul h2 (by omega : i.toNat ≤ 1000)) (by decide)
  refine PySem.P.mul_str ?_ (fun h3 h4 => ?_) (fun h3 h4 => ?_) ?_
  · rw [decide_eq_false (by omega), decide_eq_false (by omega)]; rfl
  · have h5 : ((2 : Int) ^ 63 - 1) / i ≥ ((2 : Int) ^ 63 - 1) / 1000 := by
      have : i * (((2 : Int) ^ 63 - 1) / 1000) ≤ 2 ^ 63 - 1 := by
        have h6 : ((2 : Int) ^ 63 - 1) / 1000 = 9223372036854775 := by decide
        rw [h6]
        have h7 : i * 9223372036854775 ≤ 1000 * 9223372036854775 := Int.mul_le_mul_of_nonneg_right h1 (by decide)
        omega
      exact (Int.le_ediv_iff_mul_le (by omega)).mpr (by rw [Int.mul_comm]; exact this)
    have h6 : ((2 : Int) ^ 63 - 1) / 1000 = 9223372036854775 := by decide
    rw [h6] at h5
    have h2' : (z.length : Int) ≤ 1000 := by omega
    omega
  · show decide (z.length * i.toNat > sizeLine) = false
    rw [decide_eq_false (by omega)]
  · have fin : ∀ (w : Str) (tk : Nat) (tt : Tok), w = repS z i.toNat → EP X pins σ Q (.str w tt) { s with toks := tk } := fun w tk tt e => ⟨.str _, H, I.tok tk, ⟨tt, by rw [e]⟩, q⟩
    by_cases hn : i < 1
    · rw [if_pos hn]
      refine ⟨by decide, fin _ _ _ ?_⟩
      have : i.toNat = 0 := by omega
      rw [this]
      rfl
    · rw [if_neg hn]
      by_cases h3 : (i == 1 || z.length == 0) = true
      · rw [if_pos h3]
        refine fin z _ _ ?_
        rw [Bool.or_eq_true] at h3
        rcases h3 with h3 | h3
        · have : i.toNat = 1 := by
            have := eq_of_beq h3
            omega
          rw [this]
          unfold repS
          simp
        · have hz : z.cps = #[] := Array.eq_empty_of_size_eq_zero (eq_of_beq h3)
          obtain ⟨c⟩ := z
          cases hz
          unfold repS
          simp
      · rw [if_neg h3]
        refine ⟨?_, fin _ _ _ ?_⟩
        · rw [fold_rep]
          show ((#[] : Array Nat) ++ (List.replicate i.toNat z.cps.toList).flatten.toArray).size ≤ sizeLine
          have e1 : ((#[] : Array Nat) ++ (List.replicate i.toNat z.cps.toList).flatten.toArray).size = i.toNat * z.length := by
            have := repS_len z i.toNat
            unfold repS Str.length at this
            simpa [Str.length] using this
          rw [e1, Nat.mul_comm]
          omega
        · rw [fold_rep]
          unfold repS
          simp
end

def pAdd : D → D → Option X
  | .int i, .int j => some (.im (.int (i + j)))
  | .str i, .str j => if fit (i.length + j.length) then some (.im (.str (i ++ j))) else none
  | .tup xs, .tup ys => if fit (xs.length + ys.length) then some (.im (.tup (xs ++ ys))) else none
  | .lst xs, .lst ys => if fit (xs.length + ys.length) then some (.ow (.lst (xs ++ ys))) else none
  | _, _ => none
def pSub : D → D → Option X
  | .int i, .int j => some (.im (.int (i - j)))
  | _, _ => none
def pMul : D → D → Option X
  | .int i, .int j => if mulFit i j then some (.im (.int (i * j))) else none
  | .str z, .int i => if 0 ≤ i ∧ i ≤ 1000 ∧ z.length ≤ 1000 then some (.im (.str (repS z i.toNat))) else none
  | .lst xs, .int i => if 0 ≤ i ∧ i ≤ 1000 ∧ xs.length ≤ 1000 then some (.ow (.lst (List.replicate i.toNat xs).flatten)) else none
  | _, _ => none
def pDiv : D → D → Option X
  | .int i, .int j => if 0 < j ∧ j.natAbs.log2 < 9000 then some (.im (.int (i / j))) else none
  | _, _ => none
def pMod : D → D → Option X
  | .int i, .int j => if 0 < j then some (.im (.int (i % j))) else none
  | _, _ => none
def pPow : D → D → Option X
  | .int i, .int j => if 0 ≤ j ∧ j ≤ 1000 ∧ i.natAbs < 1000 then some (.im (.int (i ^ j.toNat))) else none
  | _, _ => none
def pNeg : D → Option X
  | .int i => some (.im (.int (-i)))
  | _ => none
/-- t + u, slices, displays, tuple(..): new tuples without a dict -/
abbrev tupOb (its : List Value) : Obj := { cls := .type "tuple", data := .seq its.toArray }
section
variable {X : Cx} {pins : List (Addr × Obj)} {σ : L2.St} {H : Hp} {s : Shared}
theorem _root_.L2.Inv.newTup (I : Inv X pins σ H s) {vs : List V} {us : List Value} (r : Vals vs us) (z : vs.length ≤ sizeLine) : Inv X pins σ (upd H s.heap.objs.size (.frz (tupOb us) (.tup vs))) { s with heap := s.heap.push (tupOb us) } :=
  I.laid (t' := s.toks) (fun _ _ q => Heap.get?_push_of_some _ q) (Nat.le_refl _) (show ObjOk X.prog X.w _ _ _ (.frz _ (.tup vs)) from ⟨Heap.get?_push_size _ rfl, z, us, r, IsTup.new _ _⟩)
end
def rCatN (K : Fg) : R2 := fun x y H Q => ∃ a b xs ys, x = .ref a ∧ y = .ref b ∧ SqT K H a xs ∧ SqT K H b ys ∧ xs.length + ys.length ≤ sizeLine ∧
  (xs = [] → Q (.ref b) H) ∧ (xs ≠ [] → ys = [] → Q (.ref a) H) ∧ (xs ≠ [] → ys ≠ [] → ∀ p (o : Obj), H p = none → o.dict = none → Q (.ref p) (upd H p (.frz o (.tup (xs ++ ys)))))
theorem op_catN {X : Cx} : OpR X (binaryOp .Add) (rCatN X.K) := by
  intro pins s σ H x y v u Q I rx ry h
  obtain ⟨a, b, xs, ys, rfl, rfl, ha, hb, hz, q0, q1, q2⟩ := h
  cases rx
  cases ry
  obtain ⟨its, r1, p1, _⟩ := I.tuple ha
  obtain ⟨its2, r2, p2, _⟩ := I.tuple hb
  by_cases hx : xs = []
  · subst hx
    cases r1
    exact L2.cat_tup0 p1 p2 ⟨.ref b, H, I, rfl, q0 rfl⟩
  · refine HT.cat_tup p1 p2 (fun z => hx (r1.nil_iff.mp z)) (fun z => ⟨.ref a, H, I, rfl, q1 hx (r2.nil_iff.mp z)⟩) (fun z => ?_) (by rw [← r1.length, ← r2.length]; exact hz)
    exact ⟨.ref s.heap.objs.size, _, I.newTup (r1.append r2) (by rw [List.length_append]; exact hz), rfl, q2 hx (fun w => z (r2.nil_iff.mpr w)) _ _ (I.hok.fresh (Nat.le_refl _)) rfl⟩
abbrev rAddU (K : Fg) : R2 := fun x y H Q => (rI0 fun i j => .int (i + j)) x y H Q ∨ (∃ i j, x = .str i ∧ y = .str j ∧ i.length + j.length ≤ sizeLine ∧ Q (.str (i ++ j)) H) ∨ rCatN K x y H Q ∨ rCat x y H Q
abbrev rMulU : R2 := fun x y H Q => rII gMul x y H Q ∨ rMulS x y H Q ∨ rRep x y H Q
section
variable {X : Cx}
theorem op_addU : OpR X (binaryOp .Add) (rAddU X.K) := op_add.or (op_add_str.or (op_catN.or op_cat))
theorem op_mulU : OpR X (binaryOp .Mult) rMulU := op_mulG.or (op_mulS.or op_rep)
end
section
variable {K : Fg} [WD K]
theorem rep_int {M : Hp} {i : Int} : Rep K M (.int i) (.int i) := by simp [Rep]
theorem rep_str {M : Hp} {i : Str} : Rep K M (.str i) (.str i) := by simp [Rep]
theorem rep_bl {M : Hp} {i : Bool} : Rep K M (.bl i) (.bl i) := by simp [Rep]
theorem rep_non {M : Hp} : Rep K M .non .non := by simp [Rep]
theorem rep_tup {M : Hp} {a : Addr} {xs : List D} {vs : List V} (h : SqN K M a vs) (r : Reps K M xs vs) : Rep K M (.tup xs) (.ref a) := by
  simp only [Rep]
  exact ⟨a, vs, rfl, h, r⟩
theorem rep_tupW {M : Hp} {a : Addr} {xs : List D} {vs : List V} (h : SqT K M a vs) (r : Reps K M xs vs) : Rep K M (.tupW xs) (.ref a) := by
  simp only [Rep]
  exact ⟨a, vs, rfl, h, r⟩
/-- what is read of a tuple is itself there -/
theorem Rd2.tupR {M H : Hp} {v : V} {xs : List D} (h : Rd2 K M H (.tup xs) v) : Rep K M (.tup xs) v := by
  rcases h with h | ⟨l, o, _, _, e⟩
  · exact h
  · cases o <;> cases e
theorem reps_nil_iff {M : Hp} {xs : List D} {vs : List V} (h : Reps K M xs vs) : vs = [] ↔ xs = [] := by
  have := h.length
  constructor <;> intro e <;> subst e
  · exact List.eq_nil_of_length_eq_zero (by simpa using this)
  · exact List.eq_nil_of_length_eq_zero (by simpa using this.symm)
theorem fit_ok {n : Nat} (h : fit n = true) : n ≤ sizeLine := by
  have h1 : n.log2 < 24 := of_decide_eq_true h
  by_cases z : n = 0
  · subst z; exact Nat.zero_le _
  · have h2 := (Nat.log2_lt z).mp h1
    rw [sizeLine_eq]
    exact Nat.le_of_lt h2
theorem ok_add : OpOk K (rAddU K) pAdd := by
  intro M H dx dy x v u e hx hy hf Q q
  unfold pAdd at hf
  split at hf
  · cases hf
    rw [hx.int, hy.int]
    exact .inl ⟨_, _, rfl, rfl, q.im0 e rep_int⟩
  · split at hf
    · rename_i h
      cases hf
      rw [hx.str, hy.str]
      exact .inr (.inl ⟨_, _, rfl, rfl, fit_ok h, q.im0 e rep_str⟩)
    · cases hf
  · split at hf
    · rename_i xs ys h
      cases hf
      obtain ⟨a, vs, rfl, h1, h2⟩ := hx.tup e
      obtain ⟨b, us, rfl, h3, h4⟩ := hy.tup e
      refine .inr (.inr (.inl ⟨a, b, vs, us, rfl, rfl, h1, h3, by rw [← h2.length, ← h4.length]; exact fit_ok h, fun z => ?_, fun _ z => ?_, fun _ _ p o n hd => ?_⟩))
      · have : xs = [] := (reps_nil_iff h2).mp z
        subst this
        exact q.im0 e hy.tupR
      · have : ys = [] := (reps_nil_iff h4).mp z
        subst this
        rw [List.append_nil] at q
        exact q.im0 e hx.tupR
      · exact q.tup e (h2.append h4) n hd
    · cases hf
  · split at hf
    · rename_i xs ys h
      cases hf
      obtain ⟨a, vs, rfl, h1, h2⟩ := hx.lst e
      obtain ⟨b, us, rfl, h3, h4⟩ := hy.lst e
      exact .inr (.inr (.inr ⟨a, b, vs, us, rfl, rfl, h1, h3, by rw [← h2.length, ← h4.length]; exact fit_ok h, fun p n => q.lst e (h2.append h4) n⟩))
    · cases hf
  · cases hf
theorem ok_sub : OpOk K (rI0 fun i j => .int (i - j)) pSub := by
  intro M H dx dy x v u e hx hy hf Q q
  unfold pSub at hf
  split at hf
  · cases hf
    rw [hx.int, hy.int]
    exact ⟨_, _, rfl, rfl, q.im0 e rep_int⟩
  · cases hf
theorem Reps.rep {M : Hp} {xs : List D} {vs : List V} (h : Reps K M xs vs) : ∀ k : Nat, Reps K M (List.replicate k xs).flatten (List.replicate k vs).flatten
  | 0 => by simpa using Reps.nil
  | k + 1 => by
    rw [List.replicate_succ, List.flatten_cons, List.replicate_succ, List.flatten_cons]
    exact h.append (Reps.rep h k)
theorem ok_mul : OpOk K rMulU pMul := by
  intro M H dx dy x v u e hx hy hf Q q
  unfold pMul at hf
  split at hf
  · split at hf
    · rename_i i j h
      cases hf
      rw [hx.int, hy.int]
      exact .inl ⟨_, _, _, rfl, rfl, if_pos h, q.im0 e rep_int⟩
    · cases hf
  · split at hf
    · rename_i z i h
      cases hf
      rw [hx.str, hy.int]
      exact .inr (.inl ⟨_, _, rfl, rfl, h.1, h.2.1, h.2.2, q.im0 e rep_str⟩)
    · cases hf
  · split at hf
    · rename_i xs i h
      cases hf
      obtain ⟨a, vs, rfl, h1, h2⟩ := hx.lst e
      rw [hy.int]
      have hl := h2.length
      have lim : sizeLine = 16777216 := sizeLine_eq
      have hm : vs.length * i.toNat ≤ 1000 * 1000 := Nat.mul_le_mul (by omega) (by omega)
      exact .inr (.inr ⟨a, i, vs, rfl, rfl, h1, by omega, by omega, by omega, fun p n => q.lst e (h2.rep _) n⟩)
    · cases hf
  · cases hf
theorem ok_div : OpOk K (rII gDiv) pDiv := by
  intro M H dx dy x v u e hx hy hf Q q
  unfold pDiv at hf
  split at hf
  · split at hf
    · rename_i i j h
      cases hf
      rw [hx.int, hy.int]
      exact ⟨_, _, _, rfl, rfl, if_pos h, q.im0 e rep_int⟩
    · cases hf
  · cases hf
theorem ok_mod : OpOk K (rI (fun _ j => 0 < j) fun i j => .int (i % j)) pMod := by
  intro M H dx dy x v u e hx hy hf Q q
  unfold pMod at hf
  split at hf
  · split at hf
    · rename_i i j h
      cases hf
      rw [hx.int, hy.int]
      exact ⟨_, _, rfl, rfl, h, q.im0 e rep_int⟩
    · cases hf
  · cases hf
theorem ok_pow : OpOk K (rI CPow fun i j => .int (i ^ j.toNat)) pPow := by
  intro M H dx dy x v u e hx hy hf Q q
  unfold pPow at hf
  split at hf
  · split at hf
    · rename_i i j h
      cases hf
      rw [hx.int, hy.int]
      exact ⟨_, _, rfl, rfl, ⟨h.1, by omega, Nat.lt_trans h.2.2 (by decide)⟩, q.im0 e rep_int⟩
    · cases hf
  · cases hf
theorem ok_neg : UnOk K (rU fun i => .int (-i)) pNeg := by
  intro M H dx x v e hx hf Q q
  unfold pNeg at hf
  split at hf
  · cases hf
    rw [hx.int]
    exact ⟨_, rfl, q.im0 e rep_int⟩
  · cases hf
/-! ### comparisons -/
def pCmp (p : Int → Int → Bool) : D → D → Option X
  | .int i, .int j => some (.im (.bl (p i j)))
  | _, _ => none
theorem ok_cmp (p : Int → Int → Bool) : OpOk K (rI0 fun i j => .bl (p i j)) (pCmp p) := by
  intro M H dx dy x v u e hx hy hf Q q
  unfold pCmp at hf
  split at hf
  · cases hf
    rw [hx.int, hy.int]
    exact ⟨_, _, rfl, rfl, q.im0 e rep_bl⟩
  · cases hf
end
mutual
/-- data as the library compares it -/
def D.py : D → Option PyData
  | .non => some .none
  | .bl b => some (.bool b)
  | .int i => some (.int i)
  | .str x => some (.str x)
  | .tup xs => (pys xs).map .tuple
  | .lst xs => (pys xs).map .list
  | _ => none
def pys : List D → Option (List PyData)
  | [] => some []
  | x :: xs => x.py.bind fun d => (pys xs).bind fun ds => some (d :: ds)
end
def D.scal : D → Option V
  | .non => some .non
  | .bl b => some (.bl b)
  | .int i => some (.int i)
  | .str x => some (.str x)
  | _ => none
def pEqB (x y : D) : Option Bool := match x.scal, y.scal with
  | some a, some b => if L2.scal a b then some (decide (a = b)) else none
  | _, _ => match x.py, y.py with
    | some a, some b => if SeqAt.shaped a && SeqAt.shaped b then some (PyData.eqv a b) else none
    | _, _ => none
def pEq (x y : D) : Option X := (pEqB x y).map fun b => .im (.bl b)
def pNe (x y : D) : Option X := (pEqB x y).map fun b => .im (.bl (!b))
section
variable {K : Fg} [WD K]
mutual
theorem dp_of {M : Hp} : ∀ (d : D) (p : PyData) (v : V), d.py = some p → Rep K M d v → Dp K M v p
  | .non, p, v, e, h => by
    cases e
    rw [show v = .non by simpa [Rep] using h]
    exact .non
  | .bl b, p, v, e, h => by
    cases e
    rw [show v = .bl b by simpa [Rep] using h]
    exact .bl b
  | .int b, p, v, e, h => by
    cases e
    rw [show v = .int b by simpa [Rep] using h]
    exact .int b
  | .str b, p, v, e, h => by
    cases e
    rw [show v = .str b by simpa [Rep] using h]
    exact .str b
  | .tup xs, p, v, e, h => by
    simp only [D.py] at e
    obtain ⟨ps, e1, e2⟩ := Option.map_eq_some_iff.mp e
    cases e2
    simp only [Rep] at h
    obtain ⟨a, vs, rfl, h1, h2⟩ := h
    exact .tup h1.t (dpAll_of xs ps vs e1 h2)
  | .lst xs, p, v, e, h => by
    simp only [D.py] at e
    obtain ⟨ps, e1, e2⟩ := Option.map_eq_some_iff.mp e
    cases e2
    simp only [Rep] at h
    obtain ⟨a, vs, rfl, h1, h2⟩ := h
    exact .lst (SqL.of h1) (dpAll_of xs ps vs e1 h2)
  | .obj _ _, p, v, e, h => by cases e
  | .scr _, p, v, e, h => by cases e
  | .ty _, p, v, e, h => by cases e
  | .cls _, p, v, e, h => by cases e
  | .exn _ _, p, v, e, h => by cases e
  | .dk _, p, v, e, h => by cases e
  | .dt _, p, v, e, h => by cases e
theorem dpAll_of {M : Hp} : ∀ (xs : List D) (ps : List PyData) (vs : List V), pys xs = some ps → Reps K M xs vs → DpAll K M vs ps
  | [], ps, vs, e, h => by
    simp only [pys] at e
    cases e
    simp only [Reps] at h
    subst h
    exact .nil
  | x :: xs, ps, vs, e, h => by
    simp only [pys] at e
    obtain ⟨d, e1, e⟩ := Option.bind_eq_some_iff.mp e
    obtain ⟨ds, e2, e⟩ := Option.bind_eq_some_iff.mp e
    cases e
    simp only [Reps] at h
    obtain ⟨v, r, rfl, h1, h2⟩ := h
    exact .cons (dp_of x d v e1 h1) (dpAll_of xs ds r e2 h2)
end
mutual
theorem Dp.up {M H : Hp} (e : Same M H) : ∀ {p : PyData} {v : V}, Dp K M v p → Dp K H v p
  | _, _, .non => .non
  | _, _, .bl b => .bl b
  | _, _, .int i => .int i
  | _, _, .str x => .str x
  | _, _, .lst h a => .lst (e.seq h) (DpAll.up e a)
  | _, _, .tup h a => .tup (sqT_mono e h) (DpAll.up e a)
theorem DpAll.up {M H : Hp} (e : Same M H) : ∀ {ps : List PyData} {vs : List V}, DpAll K M vs ps → DpAll K H vs ps
  | _, _, .nil => .nil
  | _, _, .cons h t => .cons (Dp.up e h) (DpAll.up e t)
end
theorem dp_rd {M H : Hp} {d : D} {p : PyData} {v : V} (e : Same M H) (h : Rd2 K M H d v) (hp : d.py = some p) : Dp K H v p := by
  rcases h with h | ⟨l, o, rfl, a, eo⟩
  · exact Dp.up e (dp_of d p v hp h)
  · cases o with
    | lst xs =>
      cases eo
      simp only [D.py] at hp
      obtain ⟨ps, e1, e2⟩ := Option.map_eq_some_iff.mp hp
      cases e2
      obtain ⟨vs, h1, h2⟩ := a
      exact .lst (SqL.of h1) (DpAll.up e (dpAll_of xs ps vs e1 h2))
    | ob c fs => cases eo; cases hp
    | dk _ => cases eo; cases hp
    | dt _ => cases eo; cases hp
theorem scal_rd {M H : Hp} {d : D} {a v : V} (h : Rd2 K M H d v) (e : d.scal = some a) : v = a := by
  cases d with
  | non => cases e; exact h.non
  | bl b => cases e; exact h.bl
  | int i => cases e; exact h.int
  | str x => cases e; exact h.str
  | _ => cases e
abbrev rEqU (K : Fg) : R2 := fun x y H Q => rEq x y H Q ∨ rEqD K x y H Q
abbrev rNeU (K : Fg) : R2 := fun x y H Q => rNe x y H Q ∨ rNeD K x y H Q
theorem op_eqU {X : Cx} (hu : X.A.units + 64 < cLine) : OpR X (compareOp .Eq) (rEqU X.K) := op_eq.or (op_eqD hu)
theorem op_neU {X : Cx} (hu : X.A.units + 64 < cLine) : OpR X (compareOp .NotEq) (rNeU X.K) := op_ne.or (op_neD hu)
theorem eqB_cases {x y : D} {b : Bool} (h : pEqB x y = some b) : (∃ a c, x.scal = some a ∧ y.scal = some c ∧ L2.scal a c = true ∧ b = decide (a = c)) ∨
    ∃ p q, x.py = some p ∧ y.py = some q ∧ SeqAt.shaped p = true ∧ SeqAt.shaped q = true ∧ b = PyData.eqv p q := by
  unfold pEqB at h
  split at h
  · split at h
    · cases h
      exact .inl ⟨_, _, by assumption, by assumption, by assumption, rfl⟩
    · cases h
  · split at h
    · split at h
      · rename_i hs
        cases h
        rw [Bool.and_eq_true] at hs
        exact .inr ⟨_, _, by assumption, by assumption, hs.1, hs.2, rfl⟩
      · cases h
    · cases h
theorem ok_eq : OpOk K (rEqU K) pEq := by
  intro M H dx dy x v u e hx hy hf Q q
  obtain ⟨b, hb, rfl⟩ := Option.map_eq_some_iff.mp hf
  rcases eqB_cases hb with ⟨a, c, h1, h2, h3, rfl⟩ | ⟨a, c, h1, h2, h3, h4, rfl⟩
  · rw [scal_rd hx h1, scal_rd hy h2]
    exact .inl ⟨h3, q.im0 e rep_bl⟩
  · exact .inr ⟨a, c, dp_rd e hx h1, dp_rd e hy h2, h3, h4, q.im0 e rep_bl⟩
theorem ok_ne : OpOk K (rNeU K) pNe := by
  intro M H dx dy x v u e hx hy hf Q q
  obtain ⟨b, hb, rfl⟩ := Option.map_eq_some_iff.mp hf
  rcases eqB_cases hb with ⟨a, c, h1, h2, h3, rfl⟩ | ⟨a, c, h1, h2, h3, h4, rfl⟩
  · rw [scal_rd hx h1, scal_rd hy h2]
    exact .inl ⟨h3, q.im0 e rep_bl⟩
  · exact .inr ⟨a, c, dp_rd e hx h1, dp_rd e hy h2, h3, h4, q.im0 e rep_bl⟩
/-! ### is None -/
def D.isNon : D → Bool
  | .non => true
  | _ => false
theorem isNon_rd {M H : Hp} {d : D} {v : V} (h : Rd2 K M H d v) : decide (v = .non) = d.isNon := by
  rcases h with h | ⟨l, o, rfl, a, eo⟩
  · cases d with
    | non => rw [show v = .non by simpa [Rep] using h]; rfl
    | bl b => rw [show v = .bl b by simpa [Rep] using h]; rfl
    | int b => rw [show v = .int b by simpa [Rep] using h]; rfl
    | str b => rw [show v = .str b by simpa [Rep] using h]; rfl
    | ty b => rw [show v = .ty b by simpa [Rep] using h]; rfl
    | cls b => rw [show v = .ref (He.ga K b) by simpa [Rep] using h]; rfl
    | tup xs => simp only [Rep] at h; obtain ⟨a, vs, rfl, _⟩ := h; rfl
    | tupW xs => simp only [Rep] at h; obtain ⟨a, vs, rfl, _⟩ := h; rfl
    | lst xs => simp only [Rep] at h; obtain ⟨a, vs, rfl, _⟩ := h; rfl
    | scr xs => simp only [Rep] at h; obtain ⟨a, rfl, _⟩ := h; rfl
    | obj c xs => simp only [Rep] at h; obtain ⟨a, dx, fvs, rfl, _⟩ := h; rfl
    | exn c xs => simp only [Rep] at h; obtain ⟨a, dx, rfl, _⟩ := h; rfl
    | dk xs => simp only [Rep] at h; obtain ⟨a, o, vs, rfl, _⟩ := h; rfl
    | dt xs => simp only [Rep] at h; obtain ⟨a, o, vs, rfl, _⟩ := h; rfl
  · cases o with
    | lst xs => cases eo; rfl
    | ob c fs => cases eo; rfl
    | dk _ => cases eo; rfl
    | dt _ => cases eo; rfl
end
def pIsN (x y : D) : Option X := if y.isNon then some (.im (.bl x.isNon)) else none
def pNotN (x y : D) : Option X := if y.isNon then some (.im (.bl (!x.isNon))) else none
section
variable {K : Fg} [WD K]
theorem non_of {M H : Hp} {d : D} {v : V} (h : Rd2 K M H d v) (e : d.isNon = true) : v = .non := by
  have := isNon_rd h
  rw [e] at this
  exact of_decide_eq_true this
theorem ok_isN : OpOk K (fun x y H Q => y = .non ∧ Q (.bl (decide (x = .non))) H) pIsN := by
  intro M H dx dy x v u e hx hy hf Q q
  unfold pIsN at hf
  split at hf
  · rename_i h
    cases hf
    exact ⟨non_of hy h, by rw [isNon_rd hx]; exact q.im0 e rep_bl⟩
  · cases hf
theorem ok_notN : OpOk K (fun x y H Q => y = .non ∧ Q (.bl (!decide (x = .non))) H) pNotN := by
  intro M H dx dy x v u e hx hy hf Q q
  unfold pNotN at hf
  split at hf
  · rename_i h
    cases hf
    exact ⟨non_of hy h, by rw [isNon_rd hx]; exact q.im0 e rep_bl⟩
  · cases hf
end
end Dn

namespace Dn
open PySem PySem.Spec PyProof.Rows L2
/-! ### in -/
def scals : List D → Option (List V)
  | [] => some []
  | x :: xs => x.scal.bind fun v => (scals xs).bind fun vs => some (v :: vs)
def items : D → Option (List D)
  | .lst xs => some xs
  | .tup xs => some xs
  | _ => none
def pInB (x y : D) : Option Bool := match y with
  | .str z => match x with
    | .str c => if c.cps.size = 1 then some (decide (c.cps.getD 0 0 ∈ z.cps.toList)) else none
    | _ => none
  | .lst ys => match x.scal, scals ys with
    | some a, some vs => some (inV a vs)
    | _, _ => match x.py, pys ys with
      | some d, some ds => if SeqAt.shaped d && SeqAt.shaped (.list ds) then some (ds.any fun z => PyData.eqv z d) else none
      | _, _ => none
  | .tup ys => match x.scal, scals ys with
    | some a, some vs => some (inV a vs)
    | _, _ => none
  | _ => none
def pIn (x y : D) : Option X := (pInB x y).map fun b => .im (.bl b)
def pNotIn (x y : D) : Option X := (pInB x y).map fun b => .im (.bl (!b))
abbrev rInU (K : Fg) : R2 := fun x y H Q => rIn K false x y H Q ∨ (∃ (c : Nat) (z : Str), x = .str ⟨#[c]⟩ ∧ y = .str z ∧ Q (.bl (decide (c ∈ z.cps.toList))) H) ∨ rInD K x y H Q
abbrev rNotInU (K : Fg) : R2 := fun x y H Q => rIn K true x y H Q ∨ (∃ (c : Nat) (z : Str), x = .str ⟨#[c]⟩ ∧ y = .str z ∧ Q (.bl (!decide (c ∈ z.cps.toList))) H) ∨ rNotInD K x y H Q
theorem op_inU {X : Cx} (hu : X.A.units + 65 < cLine) : OpR X (compareOp .In) (rInU X.K) := op_in_seq.or (op_in_sign.or (op_inD hu))
theorem op_notInU {X : Cx} (hu : X.A.units + 65 < cLine) : OpR X (compareOp .NotIn) (rNotInU X.K) := op_notIn_seq.or (op_notIn_sign.or (op_notInD hu))
section
variable {K : Fg} [WD K]
theorem scal_flat {d : D} {a : V} (e : d.scal = some a) : flatV a = true := by
  cases d <;> cases e <;> rfl
theorem scal_rep {M : Hp} {d : D} {a v : V} (h : Rep K M d v) (e : d.scal = some a) : v = a := by
  cases d <;> cases e <;> simpa [Rep] using h
theorem scals_rep {M : Hp} : ∀ {xs : List D} {vs us : List V}, Reps K M xs vs → scals xs = some us → vs = us ∧ us.all flatV = true
  | [], vs, us, h, e => by
    simp only [Reps] at h
    simp only [scals] at e
    cases e
    exact ⟨h, rfl⟩
  | x :: xs, vs, us, h, e => by
    simp only [Reps] at h
    obtain ⟨v, r, rfl, h1, h2⟩ := h
    simp only [scals] at e
    obtain ⟨a, e1, e⟩ := Option.bind_eq_some_iff.mp e
    obtain ⟨as, e2, e⟩ := Option.bind_eq_some_iff.mp e
    cases e
    obtain ⟨q1, q2⟩ := scals_rep h2 e2
    rw [scal_rep h1 e1, q1]
    exact ⟨rfl, by rw [List.all_cons, scal_flat e1, q2]; rfl⟩
theorem one_sign {c : Str} (h : c.cps.size = 1) : c = ⟨#[c.cps.getD 0 0]⟩ := by
  obtain ⟨a⟩ := c
  have h' : a.size = 1 := h
  congr 1
  apply Array.ext
  · rw [h']; rfl
  · intro i h1 h2
    have : i = 0 := by omega
    subst this
    simp [Array.getD, h']
theorem ok_inB {M H : Hp} {dx dy : D} {v u : V} {b : Bool} (e : Same M H) (hx : Rd2 K M H dx v) (hy : Rd2 K M H dy u) (hf : pInB dx dy = some b) :
    (∃ p xs, u = .ref p ∧ (SqL K H p xs ∨ SqT K H p xs) ∧ flatV v = true ∧ xs.all flatV = true ∧ b = inV v xs) ∨
    (∃ (c : Nat) (z : Str), v = .str ⟨#[c]⟩ ∧ u = .str z ∧ b = decide (c ∈ z.cps.toList)) ∨
    (∃ d ds, Dp K H v d ∧ Dp K H u (.list ds) ∧ SeqAt.shaped d = true ∧ SeqAt.shaped (.list ds) = true ∧ b = ds.any fun z => PyData.eqv z d) := by
  unfold pInB at hf
  split at hf
  · split at hf
    · split at hf
      · rename_i h
        cases hf
        refine .inr (.inl ⟨_, _, ?_, hy.str, rfl⟩)
        rw [hx.str]
        exact congrArg V.str (one_sign h)
      · cases hf
    · cases hf
  · rename_i ys
    split at hf
    · rename_i a vs h1 h2
      cases hf
      obtain ⟨p, us, rfl, h3, h4⟩ := hy.lst e
      obtain ⟨h5, h6⟩ := scals_rep h4 h2
      subst h5
      rw [scal_rd hx h1]
      exact .inl ⟨p, us, rfl, .inl (SqL.of h3), scal_flat h1, h6, rfl⟩
    · split at hf
      · split at hf
        · rename_i d ds h1 h2 h3
          cases hf
          rw [Bool.and_eq_true] at h3
          exact .inr (.inr ⟨d, ds, dp_rd e hx h1, dp_rd e hy (by simp only [D.py]; rw [h2]; rfl), h3.1, h3.2, rfl⟩)
        · cases hf
      · cases hf
  · rename_i ys
    split at hf
    · rename_i a vs h1 h2
      cases hf
      obtain ⟨p, us, rfl, h3, h4⟩ := hy.tup e
      obtain ⟨h5, h6⟩ := scals_rep h4 h2
      subst h5
      rw [scal_rd hx h1]
      exact .inl ⟨p, us, rfl, .inr h3, scal_flat h1, h6, rfl⟩
    · cases hf
  · cases hf
theorem ok_in : OpOk K (rInU K) pIn := by
  intro M H dx dy x v u e hx hy hf Q q
  obtain ⟨b, hb, rfl⟩ := Option.map_eq_some_iff.mp hf
  have k := q.im0 e (rep_bl (K := K))
  rcases ok_inB e hx hy hb with ⟨p, xs, h1, h2, h3, h4, rfl⟩ | ⟨c, z, h1, h2, rfl⟩ | ⟨d, ds, h1, h2, h3, h4, rfl⟩
  · exact .inl ⟨p, xs, h1, h2, h3, h4, k⟩
  · exact .inr (.inl ⟨c, z, h1, h2, k⟩)
  · exact .inr (.inr ⟨d, ds, h1, h2, h3, h4, k⟩)
theorem ok_notIn : OpOk K (rNotInU K) pNotIn := by
  intro M H dx dy x v u e hx hy hf Q q
  obtain ⟨b, hb, rfl⟩ := Option.map_eq_some_iff.mp hf
  have k := q.im0 e (rep_bl (K := K))
  rcases ok_inB e hx hy hb with ⟨p, xs, h1, h2, h3, h4, rfl⟩ | ⟨c, z, h1, h2, rfl⟩ | ⟨d, ds, h1, h2, h3, h4, rfl⟩
  · exact .inl ⟨p, xs, h1, h2, h3, h4, k⟩
  · exact .inr (.inl ⟨c, z, h1, h2, k⟩)
  · exact .inr (.inr ⟨d, ds, h1, h2, h3, h4, k⟩)
end
/-! ### an item, a slice -/
def pIx : D → D → Option X
  | .lst xs, .int i => (atI xs i).map X.im
  | .tup xs, .int i => (atI xs i).map X.im
  | .scr ns, .int i => (atI ns i).map fun n => X.im (.int n)
  | .str z, .int i => if fit z.length then (atI z.cps.toList i).map fun c => X.im (.str ⟨#[c]⟩) else none
  | _, _ => none
def cutD {α : Type} (xs : List α) (lo hi : Option Int) : List α := (xs.drop (HT.sIx xs.length 0 lo)).take (HT.sIx xs.length xs.length hi - HT.sIx xs.length 0 lo)
def pSl : D → Option Int → Option Int → Option X
  | .lst xs, lo, hi => some (.ow (.lst (cutD xs lo hi)))
  | .tup xs, lo, hi => some (.im (.tup (cutD xs lo hi)))
  | .str z, lo, hi => if fit z.length then some (.im (.str (cutS z lo hi))) else none
  | _, _, _ => none
section
variable {K : Fg} [WD K]
theorem atI_rep {M : Hp} {xs : List D} {vs : List V} {i : Int} {x : D} (r : Reps K M xs vs) (h : atI xs i = some x) : ∃ v, atI vs i = some v ∧ Rep K M x v := by
  unfold atI at h ⊢
  rw [← r.length]
  obtain ⟨j, h1, h2⟩ := Option.bind_eq_some_iff.mp h
  obtain ⟨v, h3, h4⟩ := r.get h2
  exact ⟨v, by rw [h1]; exact h3, h4⟩
theorem ok_ix : OpOk K (rIx K) pIx := by
  intro M H dx dy x v u e hx hy hf Q q
  unfold pIx at hf
  split at hf
  · obtain ⟨d, h, rfl⟩ := Option.map_eq_some_iff.mp hf
    obtain ⟨a, vs, rfl, h1, h2⟩ := hx.lst e
    obtain ⟨w, h3, h4⟩ := atI_rep h2 h
    rw [hy.int]
    exact .inl ⟨a, vs, _, w, rfl, rfl, SqL.of h1, h3, q.im0 e h4⟩
  · obtain ⟨d, h, rfl⟩ := Option.map_eq_some_iff.mp hf
    obtain ⟨a, vs, rfl, h1, h2⟩ := hx.tup e
    obtain ⟨w, h3, h4⟩ := atI_rep h2 h
    rw [hy.int]
    exact .inr (.inl ⟨a, vs, _, w, rfl, rfl, h1, h3, q.im0 e h4⟩)
  · obtain ⟨d, h, rfl⟩ := Option.map_eq_some_iff.mp hf
    obtain ⟨a, rfl, h1⟩ := hx.scr e
    rw [hy.int]
    refine .inl ⟨a, _, _, .int d, rfl, rfl, h1, ?_, q.im0 e rep_int⟩
    unfold atI at h ⊢
    obtain ⟨j, h1, h2⟩ := Option.bind_eq_some_iff.mp h
    rw [List.length_map, h1]
    show (_ : List V)[j]? = _
    rw [List.getElem?_map, h2]
    rfl
  · split at hf
    · rename_i hz
      obtain ⟨d, h, rfl⟩ := Option.map_eq_some_iff.mp hf
      rw [hx.str, hy.int]
      exact .inr (.inr ⟨_, _, d, rfl, rfl, fit_ok hz, h, q.im0 e rep_str⟩)
    · cases hf
  · cases hf
theorem Reps.cut {M : Hp} {xs : List D} {vs : List V} (r : Reps K M xs vs) (lo hi : Option Int) : Reps K M (cutD xs lo hi) (cutV vs lo hi) := by
  unfold cutD cutV
  rw [r.length]
  exact (r.drop _).take _
theorem cutD_whole {α : Type} (xs : List α) (lo hi : Option Int) (h : HT.sIx xs.length 0 lo = 0 ∧ HT.sIx xs.length xs.length hi = xs.length) : cutD xs lo hi = xs := by
  unfold cutD
  rw [h.1, h.2]
  simp
def rSlN (K : Fg) : V → Option Int → Option Int → Hp → VK → Prop := fun x lo hi H Q => ∃ a xs, x = .ref a ∧ SqT K H a xs ∧
  (HT.sIx xs.length 0 lo = 0 ∧ HT.sIx xs.length xs.length hi = xs.length → Q (.ref a) H) ∧ (¬ (HT.sIx xs.length 0 lo = 0 ∧ HT.sIx xs.length xs.length hi = xs.length) → ∀ p (o : Obj), H p = none → o.dict = none → Q (.ref p) (upd H p (.frz o (.tup (cutV xs lo hi)))))
theorem sl_tupN {X : Cx} : SlR X (rSlN X.K) := by
  intro pins s σ H x v vl vu lo hi sl Q I rx hs pl pu h
  obtain ⟨a, xs, rfl, hx, q1, q2⟩ := h
  cases rx
  obtain ⟨its, r, ht, hz⟩ := I.tuple hx
  have hlen : its.toArray.size = xs.length := by rw [List.size_toArray]; exact r.length.symm
  refine ⟨"tuple", _, PyProof.Rows.slot_tuple_getitem.lookup, ht.typeIs, ?_⟩
  by_cases hw : HT.sIx xs.length 0 lo = 0 ∧ HT.sIx xs.length xs.length hi = xs.length
  · exact L2.getItem_tuple_whole ht hs pl pu (by rw [hlen]; exact hw) ⟨.ref a, H, I, rfl, q1 hw⟩
  · refine HT.getItem_tuple_cut ht hs pl pu (by rw [hlen]; exact hw) ?_ (by rw [hlen]; exact hz)
    rw [hlen]
    exact ⟨.ref s.heap.objs.size, _, I.newTup ((r.drop (HT.sIx xs.length 0 lo)).take (HT.sIx xs.length xs.length hi - HT.sIx xs.length 0 lo)) (Nat.le_trans (cutV_length xs lo hi) hz), rfl, q2 hw _ _ (I.hok.fresh (Nat.le_refl _)) rfl⟩
abbrev rSlU (K : Fg) : V → Option Int → Option Int → Hp → VK → Prop := fun x lo hi H Q => rSlL K x lo hi H Q ∨ rSlN K x lo hi H Q ∨ rSlS x lo hi H Q
theorem sl_U {X : Cx} : SlR X (rSlU X.K) := sl_list.or (sl_tupN.or sl_str)
theorem ok_sl {M H : Hp} {dx : D} {x : X} {v : V} {lo hi : Option Int} (e : Same M H) (hx : Rd2 K M H dx v) (hf : pSl dx lo hi = some x) {Q : VK} (q : Fin K M H x Q) : rSlU K v lo hi H Q := by
  unfold pSl at hf
  split at hf
  · cases hf
    obtain ⟨a, vs, rfl, h1, h2⟩ := hx.lst e
    exact .inl ⟨a, vs, rfl, SqL.of h1, fun p n => q.lst e (h2.cut _ _) n⟩
  · cases hf
    obtain ⟨a, vs, rfl, h1, h2⟩ := hx.tup e
    refine .inr (.inl ⟨a, vs, rfl, h1, fun hw => ?_, fun hw p o n hd => q.tup e (h2.cut _ _) n hd⟩)
    rw [cutD_whole _ _ _ (by rw [h2.length]; exact hw)] at q
    exact q.im0 e hx.tupR
  · split at hf
    · rename_i hz
      cases hf
      rw [hx.str]
      exact .inr (.inr ⟨_, rfl, fit_ok hz, q.im0 e rep_str⟩)
    · cases hf
  · cases hf
end
end Dn

namespace Dn
open PySem PySem.Spec PyProof.Rows L2
/-! ### new objects, for good -/
def frz : X → Option D
  | .im d => some d
  | .ow o => o.toD
  | .sl _ => none
def frzs : List X → Option (List D)
  | [] => some []
  | x :: xs => (frz x).bind fun d => (frzs xs).bind fun ds => some (d :: ds)
section
variable {K : Fg} [WD K] {W : WS} {M M' M1 M2 : Hp} {env env' env1 env2 : Ev} {σ σ' : L2.St} {H H' H1 H2 : Hp} {x y : X} {v u : V} {ta tb tc te : TE} {da db dc de : Ev → RE X}
open Classical in
/-- what is new and nobody's own is plain data from now on -/
noncomputable def frzM (M' H H' : Hp) (env' : Ev) (σ' : L2.St) : Hp := fun a => if M' a = none ∧ H a = none ∧ ¬ Own env' σ' a then H' a else M' a
theorem frzM_old {a : Addr} {o : HO} (e : M' a = some o) : frzM M' H H' env' σ' a = some o := by
  unfold frzM
  rw [if_neg (by rw [e]; intro z; exact nomatch z.1), e]
theorem frzM_new {a : Addr} (h1 : M' a = none) (h2 : H a = none) (h3 : ¬ Own env' σ' a) : frzM M' H H' env' σ' a = H' a := if_pos ⟨h1, h2, h3⟩
theorem frzM_of {a : Addr} {o : HO} (e : frzM M' H H' env' σ' a = some o) : M' a = some o ∨ (M' a = none ∧ H a = none ∧ ¬ Own env' σ' a ∧ H' a = some o) := by
  unfold frzM at e
  split at e
  · rename_i h
    exact .inr ⟨h.1, h.2.1, h.2.2, e⟩
  · exact .inl e
theorem frzM_grow (g : Grow M env σ H M' env' σ' H') : Grow M env σ H (frzM M' H H' env' σ') env' σ' H' where
  exM := fun a o e => frzM_old (g.exM a o e)
  fr := g.fr
  new := fun l o e => by
    rcases frzM_of e with q | q
    · exact g.new l o q
    · exact .inr (.inl q.2.1)
  own := g.own
  pin := g.pin
  dom := g.dom
  len := g.len
theorem frzM_same : Same M' (frzM M' H H' env' σ') := fun a o e => frzM_old e
theorem frzM_holds (h : Holds K M' env' σ' H') : Holds K (frzM M' H H' env' σ') env' σ' H' where
  ex := fun a o e => by
    rcases frzM_of e with q | q
    · exact h.ex a o q
    · exact q.2.2.2
  len := h.len
  slot := fun i s q => by
    have := h.slot i s q
    cases s with
    | no => trivial
    | hid => trivial
    | im d => obtain ⟨u, e1, e2⟩ := this; exact ⟨u, e1, Rep.mono frzM_same _ _ e2⟩
    | ow p o =>
      obtain ⟨l, e1, e2, e3⟩ := this
      refine ⟨l, e1, e2.mono frzM_same fun _ q => q, ?_⟩
      cases q2 : frzM M' H H' env' σ' l with
      | none => rfl
      | some u =>
        rcases frzM_of q2 with z | z
        · rw [e3] at z; cases z
        · exact (z.2.2.1 ⟨i, p, o, q, e1⟩).elim
  dj := h.dj
theorem frz_rep (r : RX K σ H M' H' env' x v) {d : D} (e : frz x = some d) : Rep K (frzM M' H H' env' σ) d v := by
  obtain ⟨r, n⟩ := r
  cases x with
  | im d' =>
    cases e
    exact Rep.mono frzM_same _ _ r
  | sl i => cases e
  | ow o =>
    obtain ⟨l, rfl, a, m, no⟩ := r
    have hn := frzM_new (H' := H') m (n o rfl l rfl) no
    cases o with
    | lst xs =>
      cases e
      obtain ⟨vs, e1, e2⟩ := a
      simp only [Rep]
      exact ⟨l, vs, rfl, hn.trans e1, Reps.mono frzM_same _ _ e2⟩
    | ob c fs =>
      cases e
      obtain ⟨dx, fvs, e1, e2⟩ := a
      simp only [Rep]
      exact ⟨l, dx, fvs, rfl, hn.trans e1, RepF.mono frzM_same _ _ e2⟩
    | dk kvs =>
      cases e
      obtain ⟨o, vs, e1, e3, e2⟩ := a
      simp only [Rep]
      exact ⟨l, o, vs, rfl, hn.trans e1, e3, repG_iff.mpr (RepK.mono frzM_same e2)⟩
    | dt kvs =>
      cases e
      obtain ⟨o, vs, e1, e3, e2⟩ := a
      simp only [Rep]
      exact ⟨l, o, vs, rfl, hn.trans e1, e3, repH_iff.mpr (RepT.mono frzM_same e2)⟩
theorem frzs_rep : ∀ {xs : List X} {vs : List V} {ds : List D}, RA K σ H M' H' env' xs vs → frzs xs = some ds → Reps K (frzM M' H H' env' σ) ds vs
  | [], _, _, .nil, e => by
    cases e
    exact Reps.nil
  | x :: xs, _, _, .cons r rs, e => by
    obtain ⟨dx, e1, e⟩ := Option.bind_eq_some_iff.mp (show ((frz x).bind fun d => (frzs xs).bind fun ds => some (d :: ds)) = _ from e)
    obtain ⟨dy, e2, e⟩ := Option.bind_eq_some_iff.mp e
    cases e
    exact Reps.cons (frz_rep r e1) (frzs_rep rs e2)
theorem rx_im {d : D} {H0 : Hp} (r : Rep K M d v) : RX K σ H0 M H env (.im d) v := ⟨r, fun _ z => nomatch z⟩
def dFrz (de : Ev → RE X) : Ev → RE X := fun env => (de env).bind fun x e1 => opt ((frz x).map X.im) e1
theorem de_frz (h : DE K W te de) : DE K W te (dFrz de) := fun M σ H env hh => by
  have h1 := h M σ H env hh
  unfold dFrz
  cases e1 : de env with
  | bad => trivial
  | exc e env1 => rw [e1] at h1; exact h1
  | ok x env1 =>
    rw [e1] at h1
    show Sat K W M σ H env (opt ((frz x).map X.im) env1) (RX K σ) (te σ H)
    cases e2 : frz x with
    | none => trivial
    | some d => exact fun Q k => h1 Q fun v M' H' g s hh' r => k v _ H' (frzM_grow g) s (frzM_holds hh') (rx_im (frz_rep r e2))
def dTup (da : Ev → RE (List X)) : Ev → RE X := fun env => (da env).bind fun xs e1 => opt ((frzs xs).bind fun ds => if fit ds.length then some (X.im (.tup ds)) else none) e1
def dLst (da : Ev → RE (List X)) : Ev → RE X := fun env => (da env).bind fun xs e1 => opt ((frzs xs).bind fun ds => if fit ds.length then some (X.ow (.lst ds)) else none) e1
def tTupN (t : TA) : TE := fun σ H Q => t σ H fun xs H1 => xs.length ≤ sizeLine ∧ ∀ p (o : Obj), H1 p = none → o.dict = none → Q (.ref p) (upd H1 p (.frz o (.tup xs)))
theorem pe_tupN {X : Cx} {es : List Expr} {pos : Pos} {t : TA} {x1} (h : PA X es t) : PE X (.Tuple es x1 pos) (tTupN t) := by
  refine ⟨fun pins s σ H Q I hq => ?_⟩
  refine wpAny_Tuple_spliced (thn (h.run pos pins s σ H _ I hq) fun us s1 ⟨xs, H1, I1, r, z, q⟩ => ⟨by rw [← r.length]; exact z, ?_⟩)
  exact ⟨.ref s1.heap.objs.size, _, I1.newTup r z, rfl, q _ _ (I1.hok.fresh (Nat.le_refl _)) rfl⟩
theorem de_tup {ta : TA} {da : Ev → RE (List X)} (h : DA K W ta da) : DE K W (tTupN ta) (dTup da) := fun M σ H env hh => by
  have h1 := h M σ H env hh
  unfold dTup
  cases e1 : da env with
  | bad => trivial
  | exc e env1 => rw [e1] at h1; exact fun Q k => h1 _ k
  | ok xs env1 =>
    rw [e1] at h1
    show Sat K W M σ H env (opt ((frzs xs).bind fun ds => if fit ds.length then some (X.im (.tup ds)) else none) env1) (RX K σ) (tTupN ta σ H)
    cases e2 : frzs xs with
    | none => trivial
    | some ds =>
      show Sat K W M σ H env (opt (if fit ds.length then some (X.im (.tup ds)) else none) env1) (RX K σ) (tTupN ta σ H)
      cases e3 : fit ds.length with
      | false => trivial
      | true =>
        refine fun Q k => h1 _ fun vs M' H' g s hh' r => ?_
        have r2 := frzs_rep r e2
        have g2 := frzM_grow g
        have hh2 := frzM_holds (H := H) hh'
        refine ⟨by rw [← r2.length]; exact fit_ok e3, fun p o n hd => ?_⟩
        have e := ext_tup hh2.ex (o := .frz o (.tup vs)) n
        exact k _ _ _ (g2.trans hh (e.grow hh2)) s (e.holds hh2) (rx_im (rep_tup (.inl ⟨o, upd_same, hd⟩) (Reps.mono e.exM _ _ r2)))
theorem de_lst {ta : TA} {da : Ev → RE (List X)} (h : DA K W ta da) : DE K W (tLst ta) (dLst da) := fun M σ H env hh => by
  have h1 := h M σ H env hh
  unfold dLst
  cases e1 : da env with
  | bad => trivial
  | exc e env1 => rw [e1] at h1; exact fun Q k => h1 _ k
  | ok xs env1 =>
    rw [e1] at h1
    show Sat K W M σ H env (opt ((frzs xs).bind fun ds => if fit ds.length then some (X.ow (.lst ds)) else none) env1) (RX K σ) (tLst ta σ H)
    cases e2 : frzs xs with
    | none => trivial
    | some ds =>
      show Sat K W M σ H env (opt (if fit ds.length then some (X.ow (.lst ds)) else none) env1) (RX K σ) (tLst ta σ H)
      cases e3 : fit ds.length with
      | false => trivial
      | true =>
        refine fun Q k => h1 _ fun vs M' H' g s hh' r => ?_
        have r2 := frzs_rep r e2
        have g2 := frzM_grow g
        have hh2 := frzM_holds (H := H) hh'
        refine ⟨by rw [← r2.length]; exact fit_ok e3, fun p n => ?_⟩
        have e := ext_own hh2.ex (o := .lst vs) n
        refine k _ _ _ (g2.trans hh (e.grow hh2)) s (e.holds hh2) ⟨⟨p, rfl, ⟨vs, upd_same, r2⟩, hh2.ex.free n, fun z => ?_⟩, fun o _ l z => by cases z; exact g.dom _ n⟩
        obtain ⟨u, q⟩ := hh2.ownSome z
        rw [n] at q
        cases q
/-! ### slices -/
def RO : Hp → Hp → Hp → Ev → Option Int → Option Int → Prop := fun _ _ _ _ x v => x = v
theorem back_o : Back RO := fun _ _ _ _ _ _ _ _ h => h
def DO (K : Fg) [WD K] (W : WS) (t : TO) (d : Ev → RE (Option Int)) : Prop := ∀ (M : Hp) (σ : L2.St) (H : Hp) (env : Ev), Holds K M env σ H → Sat K W M σ H env (d env) RO (t σ H)
def dNone : Ev → RE (Option Int) := fun env => .ok none env
def dSome (de : Ev → RE X) : Ev → RE (Option Int) := fun env => (de env).bind fun x e1 => match rd e1 x with
  | some (.int i) => .ok (some i) e1
  | _ => .bad
def dSl (da : Ev → RE X) (dl dh : Ev → RE (Option Int)) : Ev → RE X := fun env => (da env).bind fun x e1 => (dl e1).bind fun lo e2 => (dh e2).bind fun hi e3 => opt ((rd e3 x).bind fun d => pSl d lo hi) e3
theorem do_none : DO K W tNoPart dNone := fun M σ H env hh Q k => k none M H .refl (.refl _) hh rfl
theorem do_some (h : DE K W te de) : DO K W (tPart te) (dSome de) := fun M σ H env hh => by
  refine Sat.bind (c := fun v H1 Q => ∃ i, v = V.int i ∧ Q (some i) H1) back_o hh (h M σ H env hh) (fun Q q => q) fun M1 H1 env1 x v g1 s1 hh1 r1 => ?_
  cases e : rd env1 x with
  | none => trivial
  | some d =>
    cases d with
    | int i => exact fun Q k => ⟨i, (rd_ok hh1 r1.1 e).int, k (some i) M1 H1 .refl (.refl _) hh1 rfl⟩
    | _ => trivial
theorem de_sl {dl dh : Ev → RE (Option Int)} {tl th : TO} (ha : DE K W ta da) (hl : DO K W tl dl) (hh' : DO K W th dh) : DE K W (tSl (rSlU K) ta tl th) (dSl da dl dh) := fun M σ H env hh => by
  refine Sat.bind (c := fun v H1 Q => tl σ H1 fun l H2 => th σ H2 fun u H3 => rSlU K v l u H3 Q) back_x hh (ha M σ H env hh) (fun Q q => q) fun M1 H1 env1 x v g1 s1 hh1 r1 => ?_
  refine Sat.bind (c := fun l H2 Q => th σ H2 fun u H3 => rSlU K v l u H3 Q) back_x hh1 (hl M1 σ H1 env1 hh1) (fun Q q => q) fun M2 H2 env2 lo lo' g2 s2 hh2 r2 => ?_
  cases (show lo = lo' from r2)
  refine Sat.bind (c := fun u H3 Q => rSlU K v lo u H3 Q) back_x hh2 (hh' M2 σ H2 env2 hh2) (fun Q q => q) fun M3 H3 env3 hi hi' g3 s3 hh3 r3 => ?_
  cases (show hi = hi' from r3)
  refine sat_fin hh3 fun z e Q q => ?_
  obtain ⟨dx, e1, e⟩ := Option.bind_eq_some_iff.mp e
  exact ok_sl hh3.ex (rd_ok hh3 (RepX.grow hh2 (RepX.grow hh1 r1.1 g2 s2) g3 s3) e1) e q
/-! ### tests -/
variable {tt tu : TT} {dt du : Ev → RE Bool}
def dTest (de : Ev → RE X) : Ev → RE Bool := fun env => (de env).bind fun x e1 => match rd e1 x with
  | some (.bl b) => .ok b e1
  | _ => .bad
theorem dt_test (h : DE K W te de) : DT K W (tTest te) (dTest de) := fun M σ H env hh => by
  refine Sat.bind (c := fun v H1 Q => ∃ k, v = V.bl k ∧ Q k H1) back_b hh (h M σ H env hh) (fun Q q => q) fun M1 H1 env1 x v g1 s1 hh1 r1 => ?_
  cases e : rd env1 x with
  | none => trivial
  | some d =>
    cases d with
    | bl i => exact fun Q k => ⟨i, (rd_ok hh1 r1.1 e).bl, k i M1 H1 .refl (.refl _) hh1 rfl⟩
    | _ => trivial
theorem dt_B (h : DE K W te de) : DT K W (tB te) (dTest de) := dt_test h
def dtAnd (a b : Ev → RE Bool) : Ev → RE Bool := fun env => (a env).bind fun c e1 => if c = true then b e1 else .ok false e1
def dtOr (a b : Ev → RE Bool) : Ev → RE Bool := fun env => (a env).bind fun c e1 => if c = true then .ok true e1 else b e1
def dtNot (a : Ev → RE Bool) : Ev → RE Bool := fun env => (a env).bind fun c e1 => .ok (!c) e1
theorem dt_and (ha : DT K W tt dt) (hb : DT K W tu du) : DT K W (tAnd tt tu) (dtAnd dt du) := fun M σ H env hh => by
  refine Sat.bind (c := fun c H1 Q => if c = true then tu σ H1 Q else Q false H1) back_b hh (ha M σ H env hh) (fun Q q => q) fun M1 H1 env1 x v g1 s1 hh1 r1 => ?_
  cases (show x = v from r1)
  cases x with
  | true => exact hb M1 σ H1 env1 hh1
  | false => exact fun Q k => k false M1 H1 .refl (.refl _) hh1 rfl
theorem dt_or (ha : DT K W tt dt) (hb : DT K W tu du) : DT K W (tOr tt tu) (dtOr dt du) := fun M σ H env hh => by
  refine Sat.bind (c := fun c H1 Q => if c = true then Q true H1 else tu σ H1 Q) back_b hh (ha M σ H env hh) (fun Q q => q) fun M1 H1 env1 x v g1 s1 hh1 r1 => ?_
  cases (show x = v from r1)
  cases x with
  | false => exact hb M1 σ H1 env1 hh1
  | true => exact fun Q k => k true M1 H1 .refl (.refl _) hh1 rfl
theorem dt_not (ha : DT K W tt dt) : DT K W (tNot tt) (dtNot dt) := fun M σ H env hh => by
  refine Sat.bind (c := fun c H1 Q => Q (!c) H1) back_b hh (ha M σ H env hh) (fun Q q => q) fun M1 H1 env1 x v g1 s1 hh1 r1 => ?_
  cases (show x = v from r1)
  exact fun Q k => k (!x) M1 H1 .refl (.refl _) hh1 rfl
def dAndV (da db : Ev → RE X) : Ev → RE X := fun env => (dTest da env).bind fun c e1 => if c = true then db e1 else .ok (.im (.bl false)) e1
def dOrV (da db : Ev → RE X) : Ev → RE X := fun env => (dTest da env).bind fun c e1 => if c = true then .ok (.im (.bl true)) e1 else db e1
def dNotV (da : Ev → RE X) : Ev → RE X := fun env => (dTest da env).bind fun c e1 => .ok (.im (.bl (!c))) e1
def dIf (dt : Ev → RE Bool) (da db : Ev → RE X) : Ev → RE X := fun env => (dt env).bind fun c e1 => if c = true then da e1 else db e1
theorem de_andV (ha : DE K W ta da) (hb : DE K W tb db) : DE K W (tAndV ta tb) (dAndV da db) := fun M σ H env hh => by
  refine Sat.bind (c := fun c H1 Q => if c = true then tb σ H1 Q else Q (.bl false) H1) back_x hh (dt_test ha M σ H env hh) (fun Q q => q) fun M1 H1 env1 x v g1 s1 hh1 r1 => ?_
  cases (show x = v from r1)
  cases x with
  | true => exact hb M1 σ H1 env1 hh1
  | false => exact fun Q k => k _ M1 H1 .refl (.refl _) hh1 (rx_im rep_bl)
theorem de_orV (ha : DE K W ta da) (hb : DE K W tb db) : DE K W (tOrV ta tb) (dOrV da db) := fun M σ H env hh => by
  refine Sat.bind (c := fun c H1 Q => if c = true then Q (.bl true) H1 else tb σ H1 Q) back_x hh (dt_test ha M σ H env hh) (fun Q q => q) fun M1 H1 env1 x v g1 s1 hh1 r1 => ?_
  cases (show x = v from r1)
  cases x with
  | false => exact hb M1 σ H1 env1 hh1
  | true => exact fun Q k => k _ M1 H1 .refl (.refl _) hh1 (rx_im rep_bl)
theorem de_notV (ha : DE K W ta da) : DE K W (tNotV ta) (dNotV da) := fun M σ H env hh => by
  refine Sat.bind (c := fun c H1 Q => Q (.bl (!c)) H1) back_x hh (dt_test ha M σ H env hh) (fun Q q => q) fun M1 H1 env1 x v g1 s1 hh1 r1 => ?_
  cases (show x = v from r1)
  exact fun Q k => k _ M1 H1 .refl (.refl _) hh1 (rx_im rep_bl)
theorem de_if (ht : DT K W tt dt) (ha : DE K W ta da) (hb : DE K W tb db) : DE K W (tIf tt ta tb) (dIf dt da db) := fun M σ H env hh => by
  refine Sat.bind (c := fun c H1 Q => if c = true then ta σ H1 Q else tb σ H1 Q) back_x hh (ht M σ H env hh) (fun Q q => q) fun M1 H1 env1 x v g1 s1 hh1 r1 => ?_
  cases (show x = v from r1)
  cases x with
  | true => exact ha M1 σ H1 env1 hh1
  | false => exact hb M1 σ H1 env1 hh1
/-- a < b < c of ints -/
def dChain (p q : Int → Int → Bool) (da db dc : Ev → RE X) : Ev → RE X := fun env => (da env).bind fun x e1 => (db e1).bind fun y e2 => match rd e2 x, rd e2 y with
  | some (.int i), some (.int j) => if p i j = true then (dc e2).bind fun z e3 => match rd e3 z with
      | some (.int k) => .ok (.im (.bl (q j k))) e3
      | _ => .bad
    else .ok (.im (.bl false)) e2
  | _, _ => .bad
theorem de_chain {p q : Int → Int → Bool} (ha : DE K W ta da) (hb : DE K W tb db) (hc : DE K W tc dc) : DE K W (tChain (rI0 fun i j => .bl (p i j)) (rI0 fun i j => .bl (q i j)) ta tb tc) (dChain p q da db dc) := fun M σ H env hh => by
  refine Sat.bind (c := fun v H1 Q => tb σ H1 fun y H2 => (rI0 fun i j => .bl (p i j)) v y H2 fun z H3 => ∃ k, z = .bl k ∧ (if k = true then tc σ H3 fun w' H4 => (rI0 fun i j => .bl (q i j)) y w' H4 Q else Q (.bl false) H3)) back_x hh (ha M σ H env hh) (fun Q q => q) fun M1 H1 env1 x v g1 s1 hh1 r1 => ?_
  refine Sat.bind (c := fun y H2 Q => (rI0 fun i j => .bl (p i j)) v y H2 fun z H3 => ∃ k, z = .bl k ∧ (if k = true then tc σ H3 fun w' H4 => (rI0 fun i j => .bl (q i j)) y w' H4 Q else Q (.bl false) H3)) back_x hh1 (hb M1 σ H1 env1 hh1) (fun Q q => q) fun M2 H2 env2 y u g2 s2 hh2 r2 => ?_
  cases e1 : rd env2 x with
  | none => trivial
  | some dx =>
    cases e2 : rd env2 y with
    | none => cases dx <;> trivial
    | some dy =>
      cases dx with
      | int i =>
        cases dy with
        | int j =>
          have hx := (rd_ok hh2 (RepX.grow hh1 r1.1 g2 s2) e1).int
          have hy := (rd_ok hh2 r2.1 e2).int
          show Sat K W M2 σ H2 env2 (if p i j = true then _ else _) (RX K σ) _
          cases e3 : p i j with
          | true =>
            show Sat K W M2 σ H2 env2 ((dc env2).bind _) (RX K σ) _
            refine Sat.bind (c := fun w' H4 Q => (rI0 fun i j => .bl (q i j)) u w' H4 Q) back_x hh2 (hc M2 σ H2 env2 hh2) (fun Q k => ⟨i, j, hx, hy, true, by show V.bl (p i j) = _; rw [e3], by rw [if_pos rfl]; exact k⟩) fun M3 H3 env3 z w g3 s3 hh3 r3 => ?_
            cases e4 : rd env3 z with
            | none => trivial
            | some dz =>
              cases dz with
              | int k =>
                have hz := (rd_ok hh3 r3.1 e4).int
                exact fun Q kk => ⟨j, k, hy, hz, kk _ M3 H3 .refl (.refl _) hh3 (rx_im rep_bl)⟩
              | _ => trivial
          | false =>
            exact fun Q k => ⟨i, j, hx, hy, false, by show V.bl (p i j) = _; rw [e3], by rw [if_neg (by decide)]; exact k _ M2 H2 .refl (.refl _) hh2 (rx_im rep_bl)⟩
        | _ => trivial
      | _ => cases dy <;> trivial
end
end Dn

namespace Dn
open PySem PySem.Spec PyProof.Rows L2
/-! ### statements -/
inductive RS where
  | nx (env : Ev) | rt (x : X) (env : Ev) | bk (env : Ev) | ct (env : Ev) | exc (e : Xn) (env : Ev) | bad
def SatS (K : Fg) [WD K] (W : WS) (M : Hp) (σ : L2.St) (H : Hp) (env : Ev) (r : RS) (t : Ends → Prop) : Prop := match r with
  | .nx env' => ∀ D : Ends, (∀ σ' M' H', Grow M env σ H M' env' σ' H' → Holds K M' env' σ' H' → D.nx σ' H') → t D
  | .rt x env' => ∀ D : Ends, (∀ v σ' M' H', Grow M env σ H M' env' σ' H' → Holds K M' env' σ' H' → RX K σ' H M' H' env' x v → D.rt v H') → t D
  | .bk env' => ∀ D : Ends, (∀ σ' M' H', Grow M env σ H M' env' σ' H' → Holds K M' env' σ' H' → D.bk σ' H') → t D
  | .ct env' => ∀ D : Ends, (∀ σ' M' H', Grow M env σ H M' env' σ' H' → Holds K M' env' σ' H' → D.ct σ' H') → t D
  | .exc e env' => ∀ D : Ends, (∀ cls d σ' M' H', Grow M env σ H M' env' σ' H' → Holds K M' env' σ' H' → RepE K M' H' e cls d → W σ' cls d H') → t D
  | .bad => True
def DS (K : Fg) [WD K] (W : WS) (ts : TS) (ds : Ev → RS) : Prop := ∀ (M : Hp) (σ : L2.St) (H : Hp) (env : Ev), Holds K M env σ H → SatS K W M σ H env (ds env) (fun D => ts D σ H)
/-- an expression's outcome, then a statement's -/
def RE.stm {α : Type} (r : RE α) (f : α → Ev → RS) : RS := match r with
  | .ok x env => f x env
  | .exc e env => .exc e env
  | .bad => .bad
def RS.seq (r : RS) (f : Ev → RS) : RS := match r with
  | .nx env => f env
  | r => r
section
variable {K : Fg} [WD K] {W : WS} {M M' M1 M2 : Hp} {env env' env1 env2 : Ev} {σ σ' σ1 : L2.St} {H H' H1 H2 : Hp} {x y : X} {v u : V} {ta tb tc te : TE} {da db dc de : Ev → RE X} {ts tu : TS} {ds du : Ev → RS} {tt : TT} {dt : Ev → RE Bool}
/-- from later on to the end -/
theorem SatS.later {r : RS} {t : Ends → Prop} (hh : Holds K M env σ H) (g : Grow M env σ H M1 env1 σ1 H1) (h : SatS K W M1 σ1 H1 env1 r t) : SatS K W M σ H env r t := by
  cases r with
  | bad => trivial
  | nx env' => exact fun D k => h D fun σ' M' H' g2 hh2 => k σ' M' H' (g.trans hh g2) hh2
  | bk env' => exact fun D k => h D fun σ' M' H' g2 hh2 => k σ' M' H' (g.trans hh g2) hh2
  | ct env' => exact fun D k => h D fun σ' M' H' g2 hh2 => k σ' M' H' (g.trans hh g2) hh2
  | rt x env' => exact fun D k => h D fun v σ' M' H' g2 hh2 r => k v σ' M' H' (g.trans hh g2) hh2 (back_x _ _ _ _ _ _ _ g.dom r)
  | exc e env' => exact fun D k => h D fun c d σ' M' H' g2 hh2 r => k c d σ' M' H' (g.trans hh g2) hh2 r
theorem SatS.imp {r : RS} {t t' : Ends → Prop} (h : SatS K W M σ H env r t) (i : ∀ D, t D → t' D) : SatS K W M σ H env r t' := by
  cases r with
  | bad => trivial
  | nx env' => exact fun D k => i D (h D k)
  | bk env' => exact fun D k => i D (h D k)
  | ct env' => exact fun D k => i D (h D k)
  | rt x env' => exact fun D k => i D (h D k)
  | exc e env' => exact fun D k => i D (h D k)
/-- an expression, then what follows -/
theorem Sat.stm {α β : Type} {r : RE α} {R : Hp → Hp → Hp → Ev → α → β → Prop} {f : α → Ev → RS} {t : (β → Hp → Prop) → Prop} {t' : Ends → Prop} {c : β → Hp → Ends → Prop} (hh : Holds K M env σ H) (h : Sat K W M σ H env r R t)
    (ht : ∀ D, t (fun v H1 => c v H1 D) → t' D) (hf : ∀ M1 H1 env1 x v, Grow M env σ H M1 env1 σ H1 → Shape env env1 → Holds K M1 env1 σ H1 → R H M1 H1 env1 x v → SatS K W M σ H env (f x env1) (c v H1)) : SatS K W M σ H env (r.stm f) t' := by
  cases r with
  | bad => trivial
  | exc e env1 => exact fun D k => ht D (h _ fun cls d M' H' g s hh' r => k cls d σ M' H' g hh' r)
  | ok x env1 =>
    show SatS K W M σ H env (f x env1) t'
    have key : ∀ (r2 : RS) (e2 : f x env1 = r2), (∀ D, (∀ v H1, (SatS K W M σ H env r2 (c v H1)) → c v H1 D) → t' D) → True := fun _ _ _ => trivial
    cases e2 : f x env1 with
    | bad => trivial
    | nx env' => exact fun D k => ht D (h _ fun v M' H' g s hh' r => (by have := hf M' H' env1 x v g s hh' r; rw [e2] at this; exact this D k))
    | bk env' => exact fun D k => ht D (h _ fun v M' H' g s hh' r => (by have := hf M' H' env1 x v g s hh' r; rw [e2] at this; exact this D k))
    | ct env' => exact fun D k => ht D (h _ fun v M' H' g s hh' r => (by have := hf M' H' env1 x v g s hh' r; rw [e2] at this; exact this D k))
    | rt y env' => exact fun D k => ht D (h _ fun v M' H' g s hh' r => (by have := hf M' H' env1 x v g s hh' r; rw [e2] at this; exact this D k))
    | exc e env' => exact fun D k => ht D (h _ fun v M' H' g s hh' r => (by have := hf M' H' env1 x v g s hh' r; rw [e2] at this; exact this D k))
def dNext : Ev → RS := fun env => .nx env
def dSeq (a b : Ev → RS) : Ev → RS := fun env => (a env).seq b
theorem ds_next : DS K W tNext dNext := fun M σ H env hh D k => k σ M H .refl hh
theorem ds_seq (ha : DS K W ts ds) (hb : DS K W tu du) : DS K W (tSeq ts tu) (dSeq ds du) := fun M σ H env hh => by
  have h1 := ha M σ H env hh
  unfold dSeq
  cases e1 : ds env with
  | bad => trivial
  | rt x env' => rw [e1] at h1; exact fun D k => h1 { D with nx := tu D } k
  | bk env' => rw [e1] at h1; exact fun D k => h1 { D with nx := tu D } k
  | ct env' => rw [e1] at h1; exact fun D k => h1 { D with nx := tu D } k
  | exc e env' => rw [e1] at h1; exact fun D k => h1 { D with nx := tu D } k
  | nx env1 =>
    rw [e1] at h1
    show SatS K W M σ H env (du env1) _
    cases e2 : du env1 with
    | bad => trivial
    | nx env' => exact fun D k => h1 { D with nx := tu D } fun σ1 M1 H1 g hh1 => (by have := SatS.later hh g (hb M1 σ1 H1 env1 hh1); rw [e2] at this; exact this D k)
    | bk env' => exact fun D k => h1 { D with nx := tu D } fun σ1 M1 H1 g hh1 => (by have := SatS.later hh g (hb M1 σ1 H1 env1 hh1); rw [e2] at this; exact this D k)
    | ct env' => exact fun D k => h1 { D with nx := tu D } fun σ1 M1 H1 g hh1 => (by have := SatS.later hh g (hb M1 σ1 H1 env1 hh1); rw [e2] at this; exact this D k)
    | rt y env' => exact fun D k => h1 { D with nx := tu D } fun σ1 M1 H1 g hh1 => (by have := SatS.later hh g (hb M1 σ1 H1 env1 hh1); rw [e2] at this; exact this D k)
    | exc e env' => exact fun D k => h1 { D with nx := tu D } fun σ1 M1 H1 g hh1 => (by have := SatS.later hh g (hb M1 σ1 H1 env1 hh1); rw [e2] at this; exact this D k)
def X.slot : X → Option Sl
  | .im d => some (.im d)
  | .ow o => some (.ow false o)
  | .sl _ => none
/-- a slot set -/
def setSl (i : Nat) (x : X) (env : Ev) : Option Ev := match env[i]? with
  | none => none
  | some (.ow true _) => none
  | some .hid => none
  | some _ => x.slot.map fun s => env.set i s
theorem setSl_ok {i : Nat} (hh : Holds K M env σ H) (r : RX K σ H0 M H env x v) (e : setSl i x env = some env') :
    Holds K M env' (σ.set i (some v)) H ∧ (∀ l, Own env' (σ.set i (some v)) l → Own env σ l ∨ H0 l = none) ∧ env'.length = env.length ∧ (∀ (j : Nat) s, env[j]? = some s → s.pinned = true → (σ.set i (some v))[j]? = σ[j]? ∧ ∃ s', env'[j]? = some s' ∧ s'.kind = s.kind) := by
  unfold setSl at e
  have hex : ∃ s, env[i]? = some s ∧ s.pinned = false := by
    cases q : env[i]? with
    | none => rw [q] at e; cases e
    | some s =>
      refine ⟨s, rfl, ?_⟩
      rw [q] at e
      cases s with
      | no => rfl
      | im d => rfl
      | hid => cases e
      | ow p o =>
        cases p with
        | true => cases e
        | false => rfl
  obtain ⟨s, hs, hp⟩ := hex
  have hi : i < env.length := (List.getElem?_eq_some_iff.mp hs).1
  have hiσ : i < σ.length := by rw [hh.len]; exact hi
  have e' : (x.slot.map fun s => env.set i s) = some env' := by
    rw [hs] at e
    cases s with
    | no => exact e
    | im d => exact e
    | hid => cases e
    | ow p o =>
      cases p with
      | true => cases hp
      | false => exact e
  obtain ⟨s', hs', rfl⟩ := Option.map_eq_some_iff.mp e'
  have hpin : ∀ (j : Nat) s, env[j]? = some s → s.pinned = true → j ≠ i := fun j s2 q p z => by
    subst z
    rw [hs] at q
    cases q
    rw [hp] at p
    cases p
  have hown : ∀ l, Own (env.set i s') (σ.set i (some v)) l → Own env σ l ∨ (∃ o, x = .ow o ∧ v = V.ref l) := fun l ⟨j, p, o, q1, q2⟩ => by
    by_cases hj : j = i
    · subst hj
      rw [List.getElem?_set_self hi] at q1
      rw [List.getElem?_set_self hiσ] at q2
      cases q1
      cases x with
      | im d => cases hs'
      | sl _ => cases hs'
      | ow o2 =>
        cases q2
        exact .inr ⟨o2, rfl, rfl⟩
    · rw [List.getElem?_set_ne (Ne.symm hj)] at q1 q2
      exact .inl ⟨j, p, o, q1, q2⟩
  refine ⟨⟨hh.ex, by simpa using hh.len, fun j t q => ?_, fun j k l p o p' o' hjk q1 q2 q3 q4 => ?_⟩, fun l z => ?_, by simp, fun j s2 q p => ?_⟩
  · by_cases hj : j = i
    · subst hj
      rw [List.getElem?_set_self hi] at q
      rw [List.getElem?_set_self hiσ]
      cases q
      cases x with
      | im d => cases hs'; exact ⟨v, rfl, r.1⟩
      | sl _ => cases hs'
      | ow o2 =>
        cases hs'
        obtain ⟨l, rfl, a, m, _⟩ := r.1
        exact ⟨l, rfl, a, m⟩
    · rw [List.getElem?_set_ne (Ne.symm hj)] at q ⊢
      exact hh.slot j t q
  · -- one object, one holder
    have one : ∀ (a b : Nat) (pa pb : Bool) (oa ob : OD), a = i → b ≠ i → (env.set i s')[a]? = some (Sl.ow pa oa) → (env.set i s')[b]? = some (Sl.ow pb ob) → (σ.set i (some v))[a]? = some (some (V.ref l)) → (σ.set i (some v))[b]? = some (some (V.ref l)) → False := by
      intro a b pa pb oa ob ha hb t1 t2 t3 t4
      subst ha
      rw [List.getElem?_set_self hi] at t1
      rw [List.getElem?_set_self hiσ] at t3
      rw [List.getElem?_set_ne (Ne.symm hb)] at t2 t4
      cases t1
      cases x with
      | im d => cases hs'
      | sl _ => cases hs'
      | ow o2 =>
        obtain ⟨l2, e2, _, _, no⟩ := r.1
        cases t3
        cases e2
        exact no ⟨b, pb, ob, t2, t4⟩
    by_cases hj : j = i
    · by_cases hk : k = i
      · exact hjk (hj.trans hk.symm)
      · exact one j k p p' o o' hj hk q1 q2 q3 q4
    · by_cases hk : k = i
      · exact one k j p' p o' o hk hj q2 q1 q4 q3
      · rw [List.getElem?_set_ne (Ne.symm hj)] at q1 q3
        rw [List.getElem?_set_ne (Ne.symm hk)] at q2 q4
        exact hh.dj j k l p o p' o' hjk q1 q2 q3 q4
  · rcases hown l z with q | ⟨o, e1, e2⟩
    · exact .inl q
    · exact .inr (r.2 o e1 l e2)
  · have hj := hpin j s2 q p
    exact ⟨List.getElem?_set_ne (Ne.symm hj), s2, by rw [List.getElem?_set_ne (Ne.symm hj)]; exact q, rfl⟩
theorem setSl_grow {i : Nat} (hh0 : Holds K M env σ H) (g : Grow M env σ H M1 env1 σ H1) (hh : Holds K M1 env1 σ H1) (r : RX K σ H M1 H1 env1 x v) (e : setSl i x env1 = some env') :
    Grow M env σ H M1 env' (σ.set i (some v)) H1 ∧ Holds K M1 env' (σ.set i (some v)) H1 := by
  obtain ⟨h1, h2, h3, h4⟩ := setSl_ok hh r e
  refine ⟨⟨g.exM, g.fr, g.new, fun l z => ?_, fun j s q p => ?_, g.dom, h3.trans g.len⟩, h1⟩
  · rcases h2 l z with q | q
    · exact g.own l q
    · exact .inr q
  · obtain ⟨e1, s1, e2, k1⟩ := g.pin j s q p
    obtain ⟨e3, s2, e4, k2⟩ := h4 j s1 e2 ((kind_pin k1).trans p)
    exact ⟨e3.trans e1, s2, e4, k2.trans k1⟩
def optS (o : Option Ev) : RS := match o with
  | some env => .nx env
  | none => .bad
def dAsg (i : Nat) (de : Ev → RE X) : Ev → RS := fun env => (de env).stm fun x e1 => optS (setSl i x e1)
theorem ds_asg {i : Nat} (h : DE K W te de) : DS K W (tAsg te (gName i)) (dAsg i de) := fun M σ H env hh => by
  refine Sat.stm (c := fun v H1 D => D.nx (σ.set i (some v)) H1) hh (h M σ H env hh) (fun D q => q) fun M1 H1 env1 x v g s hh1 r => ?_
  cases e : setSl i x env1 with
  | none => trivial
  | some env' =>
    obtain ⟨g2, hh2⟩ := setSl_grow hh g hh1 r e
    exact fun D k => k _ _ _ g2 hh2
def dDrop (de : Ev → RE X) : Ev → RS := fun env => (de env).stm fun _ e1 => .nx e1
theorem ds_drop (h : DE K W te de) : DS K W (tDrop te) (dDrop de) := fun M σ H env hh => by
  refine Sat.stm (c := fun v H1 D => D.nx σ H1) hh (h M σ H env hh) (fun D q => q) fun M1 H1 env1 x v g s hh1 r => ?_
  exact fun D k => k _ _ _ g hh1
def dRet (de : Ev → RE X) : Ev → RS := fun env => (de env).stm fun x e1 => .rt x e1
theorem ds_ret (h : DE K W te de) : DS K W (tRet te) (dRet de) := fun M σ H env hh => by
  refine Sat.stm (c := fun v H1 D => D.rt v H1) hh (h M σ H env hh) (fun D q => q) fun M1 H1 env1 x v g s hh1 r => ?_
  exact fun D k => k _ _ _ _ g hh1 r
theorem ds_retN : DS K W tRetN (dRet (dC .non)) := fun M σ H env hh D k => k _ _ _ _ .refl hh (rx_im rep_non)
def dIfS (dt : Ev → RE Bool) (a b : Ev → RS) : Ev → RS := fun env => (dt env).stm fun c e1 => if c = true then a e1 else b e1
theorem ds_if (ht : DT K W tt dt) (ha : DS K W ts ds) (hb : DS K W tu du) : DS K W (tIfS tt ts tu) (dIfS dt ds du) := fun M σ H env hh => by
  refine Sat.stm (c := fun c H1 D => if c = true then ts D σ H1 else tu D σ H1) hh (ht M σ H env hh) (fun D q => q) fun M1 H1 env1 x v g s hh1 r => ?_
  cases (show x = v from r)
  cases x with
  | true => exact SatS.later hh g (ha M1 σ H1 env1 hh1)
  | false => exact SatS.later hh g (hb M1 σ H1 env1 hh1)
def dBreak : Ev → RS := fun env => .bk env
def dCont : Ev → RS := fun env => .ct env
def dNever : Ev → RS := fun _ => .bad
theorem ds_break : DS K W tBreak dBreak := fun M σ H env hh D k => k σ M H .refl hh
theorem ds_cont : DS K W tCont dCont := fun M σ H env hh D k => k σ M H .refl hh
theorem ds_never : DS K W tNever dNever := fun M σ H env hh => trivial
theorem de_never {t : TE} : DE K W t (fun _ => .bad) := fun M σ H env hh => trivial
/-! ### targets -/
/-- plain data into a target -/
def DG (K : Fg) [WD K] (g : TG) (dg : D → Ev → Option Ev) : Prop := ∀ (M : Hp) (σ : L2.St) (H : Hp) (env env' : Ev) (d : D) (v : V), Holds K M env σ H → Rep K M d v → dg d env = some env' → ∀ Q : L2.St → Hp → Prop, (∀ σ', Grow M env σ H M env' σ' H → Holds K M env' σ' H → Q σ' H) → g v σ H Q
def DGs (K : Fg) [WD K] (g : TGs) (dg : List D → Ev → Option Ev) : Prop := ∀ (M : Hp) (σ : L2.St) (H : Hp) (env env' : Ev) (ds : List D) (vs : List V), Holds K M env σ H → Reps K M ds vs → dg ds env = some env' → ∀ Q : L2.St → Hp → Prop, (∀ σ', Grow M env σ H M env' σ' H → Holds K M env' σ' H → Q σ' H) → g vs σ H Q
def dgName (i : Nat) : D → Ev → Option Ev := fun d env => setSl i (.im d) env
theorem dg_name (i : Nat) : DG K (gName i) (dgName i) := fun M σ H env env' d v hh r e Q k => by
  obtain ⟨g, h⟩ := setSl_grow hh .refl hh (rx_im r) e
  exact k _ g h
def dgNil : List D → Ev → Option Ev := fun ds env => match ds with
  | [] => some env
  | _ => none
def dgCons (a : D → Ev → Option Ev) (b : List D → Ev → Option Ev) : List D → Ev → Option Ev := fun ds env => match ds with
  | d :: r => (a d env).bind (b r)
  | _ => none
def dgTup (n : Nat) (a : List D → Ev → Option Ev) : D → Ev → Option Ev := fun d env => match d with
  | .tup xs => if xs.length = n then a xs env else none
  | .tupW xs => if xs.length = n then a xs env else none
  | _ => none
theorem dg_nil : DGs K gNil dgNil := fun M σ H env env' ds vs hh r e Q k => by
  cases ds with
  | cons d ds => cases e
  | nil =>
    cases e
    simp only [Reps] at r
    exact ⟨r, k σ .refl hh⟩
theorem dg_cons {g : TG} {gs : TGs} {a : D → Ev → Option Ev} {b : List D → Ev → Option Ev} (ha : DG K g a) (hb : DGs K gs b) : DGs K (gCons g gs) (dgCons a b) := fun M σ H env env' ds vs hh r e Q k => by
  cases ds with
  | nil => cases e
  | cons d ds =>
    simp only [Reps] at r
    obtain ⟨v, r', rfl, h1, h2⟩ := r
    obtain ⟨env1, e1, e2⟩ := Option.bind_eq_some_iff.mp (show (a d env).bind (b ds) = some env' from e)
    exact ⟨v, r', rfl, ha M σ H env env1 d v hh h1 e1 _ fun σ1 g1 hh1 => hb M σ1 H env1 env' ds r' hh1 h2 e2 _ fun σ2 g2 hh2 => k σ2 (g1.trans hh g2) hh2⟩
theorem dg_tup {gs : TGs} {a : List D → Ev → Option Ev} {n : Nat} (ha : DGs K gs a) : DG K (gTup K n gs) (dgTup n a) := fun M σ H env env' d v hh r e Q k => by
  cases d with
  | tup xs =>
    have e' : (if xs.length = n then a xs env else none) = some env' := e
    by_cases hn : xs.length = n
    · rw [if_pos hn] at e'
      simp only [Rep] at r
      obtain ⟨b, vs, rfl, h1, h2⟩ := r
      exact ⟨b, vs, rfl, sqT_mono hh.ex h1.t, by rw [← h2.length]; exact hn, ha M σ H env env' xs vs hh h2 e' Q k⟩
    · rw [if_neg hn] at e'
      cases e'
  | tupW xs =>
    have e' : (if xs.length = n then a xs env else none) = some env' := e
    by_cases hn : xs.length = n
    · rw [if_pos hn] at e'
      simp only [Rep] at r
      obtain ⟨b, vs, rfl, h1, h2⟩ := r
      exact ⟨b, vs, rfl, sqT_mono hh.ex h1, by rw [← h2.length]; exact hn, ha M σ H env env' xs vs hh h2 e' Q k⟩
    · rw [if_neg hn] at e'
      cases e'
  | _ => cases e
/-- a target of plain data -/
def dAsgG (dg : D → Ev → Option Ev) (de : Ev → RE X) : Ev → RS := fun env => (de env).stm fun x e1 => optS ((frz x).bind fun d => dg d e1)
theorem ds_asgG {g : TG} {dg : D → Ev → Option Ev} (hg : DG K g dg) (h : DE K W te de) : DS K W (tAsg te g) (dAsgG dg de) := fun M σ H env hh => by
  refine Sat.stm (c := fun v H1 D => g v σ H1 D.nx) hh (h M σ H env hh) (fun D q => q) fun M1 H1 env1 x v g1 s hh1 r => ?_
  cases e : (frz x).bind fun d => dg d env1 with
  | none => trivial
  | some env' =>
    obtain ⟨d, e1, e2⟩ := Option.bind_eq_some_iff.mp e
    have g2 := frzM_grow g1
    have hh2 := frzM_holds (H := H) hh1
    exact fun D k => hg _ σ H1 env1 env' d v hh2 (frz_rep r e1) e2 _ fun σ' g3 hh3 => k σ' _ H1 (g2.trans hh g3) hh3
end
end Dn

namespace Dn
open PySem PySem.Spec PyProof.Rows L2
/-! ### what is walked -/
/-- J walks xs while what stands at as stands; H0, M0: when it began -/
structure ItOk (K : Fg) [WD K] (J : It) (as : List Addr) (M0 H0 : Hp) (xs : List D) : Prop where
  go : ∀ M H i d, xs[i]? = some d → Same M0 M → Same M H → (∀ a ∈ as, ∀ o, H0 a = some o → H a = some o) → J.go i H ∧ ∀ v H', J.yld i H v H' → ∃ M', Ext M H M' H' ∧ Rep K M' d v
  stop : ∀ M H, Same M0 M → Same M H → (∀ a ∈ as, ∀ o, H0 a = some o → H a = some o) → J.stop xs.length H
/-- the items, and the slot that is not to be touched meanwhile -/
abbrev Its := List D × Option Nat
def hideE (h : Option Nat) (env : Ev) : Ev := match h with
  | none => env
  | some j => env.set j .hid
/-- ahead of a loop: its items, what of the slots the body may touch -/
def RI (K : Fg) [WD K] (σ : L2.St) : Hp → Hp → Hp → Ev → Its → It → Prop := fun _ M' H' env' xh J => ∃ as, (∀ a ∈ as, ¬ Own (hideE xh.2 env') σ a ∧ ∃ o, H' a = some o) ∧ ItOk K J as M' H' xh.1 ∧ ∀ j, xh.2 = some j → ∃ p o, env'[j]? = some (Sl.ow p o)
def DI (K : Fg) [WD K] (W : WS) (ti : TI) (di : Ev → RE Its) : Prop := ∀ (M : Hp) (σ : L2.St) (H : Hp) (env : Ev), Holds K M env σ H → Sat K W M σ H env (di env) (RI K σ) (ti σ H)
theorem back_i {K : Fg} [WD K] {σ : L2.St} : Back (RI K σ) := fun _ _ _ _ _ _ _ _ h => h
def forGo (dg : D → Ev → Option Ev) (db : Ev → RS) : List D → Ev → RS
  | [], env => .nx env
  | x :: xs, env => match dg x env with
    | none => .bad
    | some e1 => match db e1 with
      | .nx e2 => forGo dg db xs e2
      | .ct e2 => forGo dg db xs e2
      | .bk e2 => .nx e2
      | r => r
def RS.map (r : RS) (f : Ev → Ev) : RS := match r with
  | .nx e => .nx (f e)
  | .rt x e => .rt x (f e)
  | .bk e => .bk (f e)
  | .ct e => .ct (f e)
  | .exc x e => .exc x (f e)
  | .bad => .bad
def unhide (h : Option Nat) (e1 : Ev) (r : RS) : RS := match h with
  | none => r
  | some j => r.map fun e => e.set j (e1.getD j .no)
def dFor (di : Ev → RE Its) (dg : D → Ev → Option Ev) (db : Ev → RS) : Ev → RS := fun env => (di env).stm fun xh e1 => unhide xh.2 e1 (forGo dg db xh.1 (hideE xh.2 e1))
section
variable {K : Fg} [WD K] {W : WS} {M M' M1 M2 : Hp} {env env' env1 env2 : Ev} {σ σ' σ1 : L2.St} {H H' H1 H2 : Hp} {x y : X} {v u : V} {ta tb tc te : TE} {da db dc de : Ev → RE X} {ts tu : TS} {ds du : Ev → RS}
theorem hide_holds {j : Nat} (hh : Holds K M env σ H) : Holds K M (env.set j .hid) σ H where
  ex := hh.ex
  len := by simpa using hh.len
  slot := fun i s q => by
    by_cases hj : i = j
    · subst hj
      have hi : i < env.length := by
        have := (List.getElem?_eq_some_iff.mp q).1
        simpa using this
      rw [List.getElem?_set_self hi] at q
      cases q
      trivial
    · rw [List.getElem?_set_ne (Ne.symm hj)] at q
      exact hh.slot i s q
  dj := fun a b l p o p' o' hab q1 q2 q3 q4 => by
    have f : ∀ (a : Nat) (p : Bool) (o : OD), (env.set j Sl.hid)[a]? = some (Sl.ow p o) → env[a]? = some (Sl.ow p o) := fun a p o q => by
      by_cases hj : a = j
      · subst hj
        have hi : a < env.length := by
          have := (List.getElem?_eq_some_iff.mp q).1
          simpa using this
        rw [List.getElem?_set_self hi] at q
        cases q
      · rwa [List.getElem?_set_ne (Ne.symm hj)] at q
    exact hh.dj a b l p o p' o' hab (f a p o q1) (f b p' o' q2) q3 q4
theorem hide_own {j : Nat} {l : Addr} : Own (env.set j .hid) σ l → ∃ (i : Nat) (p : Bool) (o : OD), i ≠ j ∧ env[i]? = some (Sl.ow p o) ∧ σ[i]? = some (some (V.ref l)) := fun ⟨i, p, o, q1, q2⟩ => by
  by_cases hj : i = j
  · subst hj
    have hi : i < env.length := by
      have := (List.getElem?_eq_some_iff.mp q1).1
      simpa using this
    rw [List.getElem?_set_self hi] at q1
    cases q1
  · rw [List.getElem?_set_ne (Ne.symm hj)] at q1
    exact ⟨i, p, o, hj, q1, q2⟩
/-- the slot is let go again -/
theorem unhide_ok {j : Nat} {p : Bool} {o : OD} (hh : Holds K M env σ H) (e : env[j]? = some (Sl.ow p o)) (g : Grow M (env.set j .hid) σ H M' env' σ' H') (hh' : Holds K M' env' σ' H') :
    Grow M env σ H M' (env'.set j (.ow p o)) σ' H' ∧ Holds K M' (env'.set j (.ow p o)) σ' H' ∧ ∀ (x : X) (v : V), (∀ i, x = .sl i → i ≠ j) → RX K σ' H M' H' env' x v → RX K σ' H M' H' (env'.set j (.ow p o)) x v := by
  have hj : j < env.length := (List.getElem?_eq_some_iff.mp e).1
  have hj' : j < env'.length := by rw [g.len]; simpa using hj
  obtain ⟨l, el, a, m⟩ := hh.slot j _ e
  obtain ⟨es, s', e', k'⟩ := g.pin j .hid (List.getElem?_set_self hj) rfl
  have no : ¬ Own (env.set j .hid) σ l := fun z => by
    obtain ⟨i, p2, o2, hi, q1, q2⟩ := hide_own z
    exact hh.dj i j l p2 o2 p o hi q1 e q2 el
  obtain ⟨u, hu⟩ := a.there
  have no' : ¬ Own env' σ' l := fun z => by
    rcases g.own l z with q | q
    · exact no q
    · rw [hu] at q; cases q
  have a' : At K M' H' l o := a.mono g.exM fun u q => g.fr l u q no
  have m' : M' l = none := by
    cases q : M' l with
    | none => rfl
    | some u2 =>
      rcases g.new l u2 q with z | z | z
      · rw [m] at z; cases z
      · rw [hu] at z; cases z
      · exact (no z).elim
  have own2 : ∀ l2, Own (env'.set j (.ow p o)) σ' l2 → l2 = l ∨ Own env' σ' l2 := fun l2 ⟨i, p2, o2, q1, q2⟩ => by
    by_cases hi : i = j
    · subst hi
      rw [es, el] at q2
      cases q2
      exact .inl rfl
    · rw [List.getElem?_set_ne (Ne.symm hi)] at q1
      exact .inr ⟨i, p2, o2, q1, q2⟩
  refine ⟨⟨g.exM, fun l2 u2 q n => g.fr l2 u2 q fun z => n ?_, fun l2 u2 q => (g.new l2 u2 q).imp id (Or.imp id fun z => let ⟨i, p2, o2, _, q1, q2⟩ := hide_own z; ⟨i, p2, o2, q1, q2⟩), fun l2 z => ?_, fun i s q pn => ?_, g.dom, ?_⟩, ⟨hh'.ex, by simpa using hh'.len, fun i s q => ?_, fun i k l2 p1 o1 p2 o2 hik q1 q2 q3 q4 => ?_⟩, fun x v hx r => ?_⟩
  · obtain ⟨i, p2, o2, _, q1, q2⟩ := hide_own z
    exact ⟨i, p2, o2, q1, q2⟩
  · rcases own2 l2 z with rfl | z
    · exact .inl ⟨j, p, o, e, el⟩
    · rcases g.own l2 z with q | q
      · obtain ⟨i, p2, o2, _, q1, q2⟩ := hide_own q
        exact .inl ⟨i, p2, o2, q1, q2⟩
      · exact .inr q
  · by_cases hi : i = j
    · subst hi
      rw [e] at q
      cases q
      exact ⟨es, _, List.getElem?_set_self hj', rfl⟩
    · obtain ⟨e1, s1, e2, k1⟩ := g.pin i s (by rw [List.getElem?_set_ne (Ne.symm hi)]; exact q) pn
      exact ⟨e1, s1, by rw [List.getElem?_set_ne (Ne.symm hi)]; exact e2, k1⟩
  · rw [List.length_set, g.len, List.length_set]
  · by_cases hi : i = j
    · subst hi
      rw [List.getElem?_set_self hj'] at q
      cases q
      exact ⟨l, es.trans el, a', m'⟩
    · rw [List.getElem?_set_ne (Ne.symm hi)] at q
      exact hh'.slot i s q
  · by_cases hi : i = j
    · subst hi
      have q3' := q3
      rw [es, el] at q3'
      cases q3'
      rw [List.getElem?_set_ne hik] at q2
      exact no' ⟨k, p2, o2, q2, q4⟩
    · by_cases hk : k = j
      · subst hk
        have q4' := q4
        rw [es, el] at q4'
        cases q4'
        rw [List.getElem?_set_ne (Ne.symm hi)] at q1
        exact no' ⟨i, p1, o1, q1, q3⟩
      · rw [List.getElem?_set_ne (Ne.symm hi)] at q1
        rw [List.getElem?_set_ne (Ne.symm hk)] at q2
        exact hh'.dj i k l2 p1 o1 p2 o2 hik q1 q2 q3 q4
  · refine ⟨?_, r.2⟩
    obtain ⟨r, n⟩ := r
    cases x with
    | im d => exact r
    | sl i =>
      obtain ⟨⟨p2, o2, q⟩, q2⟩ := r
      exact ⟨⟨p2, o2, by rw [List.getElem?_set_ne (Ne.symm (hx i rfl))]; exact q⟩, q2⟩
    | ow o2 =>
      obtain ⟨l2, rfl, a2, m2, n2⟩ := r
      refine ⟨l2, rfl, a2, m2, fun z => ?_⟩
      rcases own2 l2 z with rfl | z
      · rw [n o2 rfl l2 rfl] at hu; cases hu
      · exact n2 z
/-- the loop itself -/
theorem for_go {J : It} {as : List Addr} {xs : List D} {g : TG} {dg : D → Ev → Option Ev} {db : Ev → RS} {tb : TS} (hg : DG K g dg) (hb : DS K W tb db) (hh : Holds K M env σ H) (hi : ItOk K J as M H xs) (hn : ∀ a ∈ as, ¬ Own env σ a ∧ ∃ o, H a = some o) :
    SatS K W M σ H env (forGo dg db xs env) (fun D => ∃ Wd : Nat → Nat → L2.St → Hp → Prop, (∃ m, Wd 0 m σ H) ∧ ∀ i m σ H, Wd i m σ H →
      (J.stop i H ∧ D.nx σ H) ∨ (J.go i H ∧ ∃ N : L2.St → Hp → Prop, (∀ σ' H', N σ' H' → ∃ m', m' < m ∧ Wd (i + 1) m' σ' H') ∧ ∀ x H', J.yld i H x H' → g x σ H' fun σ2 H2 => tb { D with nx := N, ct := N, bk := D.nx } σ2 H2)) := by
  -- whatever the end is, the turns bring it about
  have key : ∀ (fin : RS) (D : Ends), forGo dg db xs env = fin → fin ≠ .bad →
      (∀ e σ' M' H', fin = .nx e → Grow M env σ H M' e σ' H' → Holds K M' e σ' H' → D.nx σ' H') →
      (∀ x e v σ' M' H', fin = .rt x e → Grow M env σ H M' e σ' H' → Holds K M' e σ' H' → RX K σ' H M' H' e x v → D.rt v H') →
      (∀ x e cls d σ' M' H', fin = .exc x e → Grow M env σ H M' e σ' H' → Holds K M' e σ' H' → RepE K M' H' x cls d → W σ' cls d H') →
      ∃ Wd : Nat → Nat → L2.St → Hp → Prop, (∃ m, Wd 0 m σ H) ∧ ∀ i m σ H, Wd i m σ H →
      (J.stop i H ∧ D.nx σ H) ∨ (J.go i H ∧ ∃ N : L2.St → Hp → Prop, (∀ σ' H', N σ' H' → ∃ m', m' < m ∧ Wd (i + 1) m' σ' H') ∧ ∀ x H', J.yld i H x H' → g x σ H' fun σ2 H2 => tb { D with nx := N, ct := N, bk := D.nx } σ2 H2) := by
    intro fin D hf hnb kn kr ke
    refine ⟨fun i m σ' H' => m = xs.length - i ∧ i ≤ xs.length ∧ ∃ M' e, forGo dg db (xs.drop i) e = fin ∧ Grow M env σ H M' e σ' H' ∧ Holds K M' e σ' H', ⟨xs.length, by simp, Nat.zero_le _, M, env, hf, .refl, hh⟩, ?_⟩
    rintro i m σ1 H1 ⟨rfl, hi1, M1, e1, f1, g1, hh1⟩
    have src : ∀ a ∈ as, ∀ o, H a = some o → H1 a = some o := fun a ha o q => g1.fr a o q (hn a ha).1
    cases q : xs[i]? with
    | none =>
      have hl : i = xs.length := by
        have := List.getElem?_eq_none_iff.mp q
        omega
      subst hl
      rw [List.drop_length] at f1
      exact .inl ⟨hi.stop M1 H1 g1.exM hh1.ex src, kn e1 σ1 M1 H1 f1.symm g1 hh1⟩
    | some d =>
      obtain ⟨go, yl⟩ := hi.go M1 H1 i d q g1.exM hh1.ex src
      have hlt : i < xs.length := (List.getElem?_eq_some_iff.mp q).1
      have hd : xs.drop i = d :: xs.drop (i + 1) := by
        rw [List.drop_eq_getElem_cons hlt]
        rw [List.getElem?_eq_getElem hlt] at q
        cases q
        rfl
      rw [hd] at f1
      refine .inr ⟨go, fun σ' H' => ∃ M' e, forGo dg db (xs.drop (i + 1)) e = fin ∧ Grow M env σ H M' e σ' H' ∧ Holds K M' e σ' H', fun σ' H' h => ⟨xs.length - (i + 1), by omega, rfl, hlt, h⟩, fun w H2 hy => ?_⟩
      obtain ⟨M2, ex, rp⟩ := yl w H2 hy
      have g2 := g1.trans hh (ex.grow hh1)
      have hh2 := ex.holds hh1
      cases q1 : dg d e1 with
      | none =>
        exfalso
        apply hnb
        rw [← f1]
        show (match dg d e1 with | none => RS.bad | some e1 => _) = _
        rw [q1]
      | some e2 =>
        have f2 : (match db e2 with
          | .nx e2 => forGo dg db (xs.drop (i + 1)) e2
          | .ct e2 => forGo dg db (xs.drop (i + 1)) e2
          | .bk e2 => .nx e2
          | r => r) = fin := by
          rw [← f1]
          show _ = (match dg d e1 with | none => RS.bad | some e1 => _)
          rw [q1]
        refine hg M2 σ1 H2 e1 e2 d w hh2 rp q1 _ fun σ3 g3 hh3 => ?_
        have g4 := g2.trans hh g3
        have hb1 := hb M2 σ3 H2 e2 hh3
        cases q2 : db e2 with
        | bad =>
          rw [q2] at f2
          exact (hnb f2.symm).elim
        | nx e3 =>
          rw [q2] at f2 hb1
          exact hb1 _ fun σ' M' H' g5 hh5 => ⟨M', e3, f2, g4.trans hh g5, hh5⟩
        | ct e3 =>
          rw [q2] at f2 hb1
          exact hb1 _ fun σ' M' H' g5 hh5 => ⟨M', e3, f2, g4.trans hh g5, hh5⟩
        | bk e3 =>
          rw [q2] at f2 hb1
          exact hb1 _ fun σ' M' H' g5 hh5 => kn e3 σ' M' H' f2.symm (g4.trans hh g5) hh5
        | rt y e3 =>
          rw [q2] at f2 hb1
          exact hb1 _ fun v σ' M' H' g5 hh5 r => kr y e3 v σ' M' H' f2.symm (g4.trans hh g5) hh5 (back_x _ _ _ _ _ _ _ g4.dom r)
        | exc y e3 =>
          rw [q2] at f2 hb1
          exact hb1 _ fun cls dd σ' M' H' g5 hh5 r => ke y e3 cls dd σ' M' H' f2.symm (g4.trans hh g5) hh5 r
  cases hf : forGo dg db xs env with
  | bad => trivial
  | nx e => exact fun D k => key _ D hf (fun z => nomatch z) (fun e' σ' M' H' z g h => by cases z; exact k σ' M' H' g h) (fun _ _ _ _ _ _ z => nomatch z) (fun _ _ _ _ _ _ _ z => nomatch z)
  | rt x e => exact fun D k => key _ D hf (fun z => nomatch z) (fun _ _ _ _ z => nomatch z) (fun x' e' v σ' M' H' z g h r => by cases z; exact k v σ' M' H' g h r) (fun _ _ _ _ _ _ _ z => nomatch z)
  | exc x e => exact fun D k => key _ D hf (fun z => nomatch z) (fun _ _ _ _ z => nomatch z) (fun _ _ _ _ _ _ z => nomatch z) (fun x' e' c d σ' M' H' z g h r => by cases z; exact k c d σ' M' H' g h r)
  | bk e => exact fun D k => key _ D hf (fun z => nomatch z) (fun _ _ _ _ z => nomatch z) (fun _ _ _ _ _ _ z => nomatch z) (fun _ _ _ _ _ _ _ z => nomatch z)
  | ct e => exact fun D k => key _ D hf (fun z => nomatch z) (fun _ _ _ _ z => nomatch z) (fun _ _ _ _ _ _ z => nomatch z) (fun _ _ _ _ _ _ _ z => nomatch z)
/-- what is handed out is not the hidden slot -/
def RS.clear (j : Nat) : RS → Prop
  | .rt (.sl i) _ => i ≠ j
  | _ => True
theorem ds_for {wi : TI} {di : Ev → RE Its} {g : TG} {dg : D → Ev → Option Ev} {db : Ev → RS} {tb : TS} (hi : DI K W wi di) (hg : DG K g dg) (hb : DS K W tb db) : DS K W (tFor wi g tb) (dFor di dg db) := fun M σ H env hh => by
  refine Sat.stm (c := fun (J : It) H1 D => ∃ Wd : Nat → Nat → L2.St → Hp → Prop, (∃ m, Wd 0 m σ H1) ∧ ∀ i m σ H, Wd i m σ H →
      (J.stop i H ∧ D.nx σ H) ∨ (J.go i H ∧ ∃ N : L2.St → Hp → Prop, (∀ σ' H', N σ' H' → ∃ m', m' < m ∧ Wd (i + 1) m' σ' H') ∧ ∀ x H', J.yld i H x H' → g x σ H' fun σ2 H2 => tb { D with nx := N, ct := N, bk := D.nx } σ2 H2)) hh (hi M σ H env hh) (fun D q => q) fun M1 H1 env1 xh J g1 s1 hh1 r => ?_
  obtain ⟨xs, h⟩ := xh
  obtain ⟨as, hn, io, hs⟩ := r
  cases h with
  | none =>
    have h1 := for_go hg hb hh1 io hn
    exact SatS.later hh g1 h1
  | some j =>
    obtain ⟨p, o, e⟩ := hs j rfl
    have h1 := for_go hg hb (hide_holds (j := j) hh1) io hn
    have eg : env1.getD j .no = .ow p o := by rw [List.getD_eq_getElem?_getD, e]; rfl
    refine SatS.later hh g1 ?_
    show SatS K W M1 σ H1 env1 ((forGo dg db xs (env1.set j .hid)).map fun e => e.set j (env1.getD j .no)) _
    rw [eg]
    cases hf : forGo dg db xs (env1.set j .hid) with
    | bad => trivial
    | nx e' => rw [hf] at h1; exact fun D k => h1 D fun σ' M' H' g2 hh2 => (fun ⟨a, b, _⟩ => k σ' M' H' a b) (unhide_ok hh1 e g2 hh2)
    | bk e' => rw [hf] at h1; exact fun D k => h1 { D with bk := fun _ _ => True } fun σ' M' H' g2 hh2 => trivial
    | ct e' => rw [hf] at h1; exact fun D k => h1 { D with ct := fun _ _ => True } fun σ' M' H' g2 hh2 => trivial
    | exc x e' => rw [hf] at h1; exact fun D k => h1 D fun cls d σ' M' H' g2 hh2 r => (fun ⟨a, b, _⟩ => k cls d σ' M' H' a b r) (unhide_ok hh1 e g2 hh2)
    | rt x e' =>
      rw [hf] at h1
      refine fun D k => h1 D fun v σ' M' H' g2 hh2 r => (fun ⟨a, b, c⟩ => k v σ' M' H' a b (c x v (fun i hx z => ?_) r)) (unhide_ok hh1 e g2 hh2)
      subst hx z
      obtain ⟨⟨p2, o2, q⟩, _⟩ := r.1
      have hj : i < env1.length := (List.getElem?_eq_some_iff.mp e).1
      obtain ⟨_, s', e', k'⟩ := g2.pin i .hid (List.getElem?_set_self hj) rfl
      rw [q] at e'
      cases e'
      cases k'
end
end Dn

namespace Dn
open PySem PySem.Spec PyProof.Rows L2
/-! ### defs and their calls -/
def sv (vs : List V) : L2.St := vs.map some
/-- a def's promise: its parameters' contents, what it does to them -/
def Post (K : Fg) [WD K] (M : Hp) (ps : Ev) (vs : List V) (H : Hp) (Q : VK) (E : XK) : RE X → Prop
  | .ok x ps' => ∀ v M' H', Grow M ps (sv vs) H M' ps' (sv vs) H' → Shape ps ps' → Holds K M' ps' (sv vs) H' → RX K (sv vs) H M' H' ps' x v → Q v H'
  | .exc e ps' => ∀ cls d M' H', Grow M ps (sv vs) H M' ps' (sv vs) H' → Shape ps ps' → Holds K M' ps' (sv vs) H' → RepE K M' H' e cls d → E cls d H'
  | .bad => False
def spD (K : Fg) [WD K] (m : Ev → RE X) : Sp := fun vs H Q E => ∃ M ps, Holds K M ps (sv vs) H ∧ Post K M ps vs H Q E (m ps)
/-- parameters: plain data, objects lent -/
def Sl.par : Sl → Bool
  | .im _ => true
  | .ow p _ => p
  | _ => false
def backP (ps env : Ev) : Ev := List.zipWith (fun p e => match p with | .ow _ _ => e | _ => p) ps env
def retX (n : Nat) (env : Ev) : X → Option X
  | .im d => some (.im d)
  | .ow o => some (.ow o)
  | .sl i => if i < n then none else match env[i]? with
    | some (.ow _ o) => some (.ow o)
    | _ => none
/-- a def of N names, n of them parameters -/
def finR (n : Nat) (ps : Ev) : RS → RE X
  | .rt x env => opt (retX n env x) (backP ps env)
  | .nx env => .ok (.im .non) (backP ps env)
  | .exc e env => .exc e (backP ps env)
  | _ => .bad
def fnM (N n : Nat) (ds : Ev → RS) : Ev → RE X := fun ps => if ps.length = n ∧ n ≤ N ∧ ps.all Sl.par = true then finR n ps (ds (ps ++ List.replicate (N - n) .no)) else .bad
section
variable {K : Fg} [WD K] {W : WS} {M M' M1 M2 : Hp} {env env' env1 env2 ps : Ev} {σ σ' σ1 : L2.St} {H H' H1 H2 : Hp} {x y : X} {v u : V} {vs : List V}
theorem backP_get {ps env : Ev} {i : Nat} (h : ps.length ≤ env.length) : (backP ps env)[i]? = match ps[i]? with
    | some (.ow _ _) => env[i]?
    | r => r := by
  unfold backP
  rw [List.getElem?_zipWith]
  cases e : ps[i]? with
  | none => rfl
  | some p =>
    have hi : i < ps.length := (List.getElem?_eq_some_iff.mp e).1
    have hi' : i < env.length := by omega
    rw [List.getElem?_eq_getElem hi']
    cases p <;> rfl
theorem body_start {N n : Nat} (hh : Holds K M ps (sv vs) H) (hl : ps.length = n) : Holds K M (ps ++ List.replicate (N - n) .no) (sv vs ++ List.replicate (N - vs.length) none) H := by
  have hv : vs.length = n := by
    have := hh.len
    unfold sv at this
    rw [List.length_map] at this
    omega
  have hlv : (sv vs).length = n := by unfold sv; rw [List.length_map]; exact hv
  refine ⟨hh.ex, by simp [hlv, hl, hv], fun i s q => ?_, fun i j l p o p' o' hij q1 q2 q3 q4 => ?_⟩
  · by_cases hi : i < n
    · rw [List.getElem?_append_left (by omega)] at q ⊢
      exact hh.slot i s q
    · rw [List.getElem?_append_right (by omega)] at q
      have : s = .no := by
        have := List.mem_of_getElem? q
        exact (List.mem_replicate.mp this).2
      subst this
      trivial
  · have f : ∀ (i : Nat) (p : Bool) (o : OD), (ps ++ List.replicate (N - n) Sl.no)[i]? = some (Sl.ow p o) → i < n ∧ ps[i]? = some (Sl.ow p o) := fun i p o q => by
      by_cases hi : i < n
      · rw [List.getElem?_append_left (by omega)] at q
        exact ⟨hi, q⟩
      · rw [List.getElem?_append_right (by omega)] at q
        have := List.mem_of_getElem? q
        cases (List.mem_replicate.mp this).2
    obtain ⟨h1, e1⟩ := f i p o q1
    obtain ⟨h2, e2⟩ := f j p' o' q2
    rw [List.getElem?_append_left (by omega)] at q3 q4
    exact hh.dj i j l p o p' o' hij e1 e2 q3 q4
theorem body_end {N n : Nat} (hh : Holds K M ps (sv vs) H) (hl : ps.length = n) (hN : n ≤ N) (hp : ps.all Sl.par = true) (g : Grow M (ps ++ List.replicate (N - n) .no) (sv vs ++ List.replicate (N - vs.length) none) H M' env' σ' H') (hh' : Holds K M' env' σ' H') :
    Grow M ps (sv vs) H M' (backP ps env') (sv vs) H' ∧ Shape ps (backP ps env') ∧ Holds K M' (backP ps env') (sv vs) H' ∧ ∀ x v y, RX K σ' H M' H' env' x v → retX n env' x = some y → RX K (sv vs) H M' H' (backP ps env') y v := by
  have hv : vs.length = n := by
    have := hh.len
    unfold sv at this
    rw [List.length_map] at this
    omega
  have hlv : (sv vs).length = n := by unfold sv; rw [List.length_map]; exact hv
  have hle : env'.length = N := by rw [g.len]; simp [hl]; omega
  have hlp : ps.length ≤ env'.length := by omega
  have hl2 : (backP ps env').length = ps.length := by unfold backP; rw [List.length_zipWith]; omega
  have par : ∀ (i : Nat) (s : Sl), ps[i]? = some s → s.par = true := fun i s q => List.all_eq_true.mp hp s (List.mem_of_getElem? q)
  -- a lent object's slot
  have lent : ∀ (i : Nat) (p : Bool) (o : OD), ps[i]? = some (Sl.ow p o) → ∃ o', env'[i]? = some (Sl.ow p o') ∧ σ'[i]? = (sv vs)[i]? := fun i p o q => by
    have hi : i < n := by rw [← hl]; exact (List.getElem?_eq_some_iff.mp q).1
    have hp' : p = true := par i _ q
    subst hp'
    obtain ⟨e1, s', e2, k⟩ := g.pin i (.ow true o) (by rw [List.getElem?_append_left (by omega)]; exact q) rfl
    rw [List.getElem?_append_left (by omega)] at e1
    cases s' with
    | ow p' o' =>
      simp only [Sl.kind, Sl.ow.injEq, and_true] at k
      subst k
      exact ⟨o', e2, e1⟩
    | no => cases k
    | im d => cases k
    | hid => cases k
  have bk : ∀ (i : Nat) (p : Bool) (o : OD), (backP ps env')[i]? = some (Sl.ow p o) → ∃ o0, ps[i]? = some (Sl.ow p o0) ∧ env'[i]? = some (Sl.ow p o) ∧ σ'[i]? = (sv vs)[i]? := fun i p o q => by
    rw [backP_get hlp] at q
    cases e : ps[i]? with
    | none => rw [e] at q; cases q
    | some s =>
      rw [e] at q
      cases s with
      | no => cases q
      | im d => cases q
      | hid => cases q
      | ow p0 o0 =>
        obtain ⟨o', e1, e2⟩ := lent i p0 o0 e
        have q' : env'[i]? = some (Sl.ow p o) := q
        rw [e1] at q'
        cases q'
        exact ⟨o0, rfl, e1, e2⟩
  have own0 : ∀ l, Own (ps ++ List.replicate (N - n) Sl.no) (sv vs ++ List.replicate (N - vs.length) none) l → Own ps (sv vs) l := fun l ⟨i, p, o, q1, q2⟩ => by
    by_cases hi : i < n
    · rw [List.getElem?_append_left (by omega)] at q1 q2
      exact ⟨i, p, o, q1, q2⟩
    · rw [List.getElem?_append_right (by omega)] at q1
      have := List.mem_of_getElem? q1
      cases (List.mem_replicate.mp this).2
  have ownB : ∀ l, Own (backP ps env') (sv vs) l → Own env' σ' l := fun l ⟨i, p, o, q1, q2⟩ => by
    obtain ⟨o0, e0, e1, e2⟩ := bk i p o q1
    exact ⟨i, p, o, e1, e2.trans q2⟩
  refine ⟨⟨g.exM, fun l o q nn => g.fr l o q fun z => nn (own0 l z), fun l o q => (g.new l o q).imp id (Or.imp id (own0 l)), fun l ⟨i, p, o, q1, q2⟩ => ?_, fun i s q pn => ?_, g.dom, hl2⟩, ?_, ⟨hh'.ex, by rw [hlv, hl2, hl], fun i s q => ?_, fun i j l p o p' o' hij q1 q2 q3 q4 => ?_⟩, fun x v y r e => ?_⟩
  · obtain ⟨o0, e0, _⟩ := bk i p o q1
    exact .inl ⟨i, p, o0, e0, q2⟩
  · refine ⟨rfl, ?_⟩
    cases s with
    | ow p o =>
      obtain ⟨o', e1, e2⟩ := lent i p o q
      exact ⟨.ow p o', by rw [backP_get hlp, q]; exact e1, rfl⟩
    | no => cases pn
    | im d => cases pn
    | hid => exact nomatch (par i _ q)
  · show (backP ps env').map Sl.kind = ps.map Sl.kind
    apply List.ext_getElem?
    intro i
    rw [List.getElem?_map, List.getElem?_map, backP_get hlp]
    cases e : ps[i]? with
    | none => rfl
    | some s =>
      cases s with
      | ow p o =>
        obtain ⟨o', e1, _⟩ := lent i p o e
        show env'[i]?.map Sl.kind = _
        rw [e1]
        rfl
      | _ => rfl
  · rw [backP_get hlp] at q
    cases e : ps[i]? with
    | none => rw [e] at q; cases q
    | some s0 =>
      rw [e] at q
      cases s0 with
      | no => cases q; trivial
      | hid => cases q; trivial
      | im d =>
        cases q
        obtain ⟨u, e1, e2⟩ := hh.slot i _ e
        exact ⟨u, e1, Rep.mono g.exM _ _ e2⟩
      | ow p0 o0 =>
        obtain ⟨o', e1, e2⟩ := lent i p0 o0 e
        have q' : env'[i]? = some s := q
        have := hh'.slot i s q'
        rw [e2] at this
        exact this
  · obtain ⟨_, _, e1, e2⟩ := bk i p o q1
    obtain ⟨_, _, e3, e4⟩ := bk j p' o' q2
    exact hh'.dj i j l p o p' o' hij e1 e3 (e2.trans q3) (e4.trans q4)
  · obtain ⟨r, nx⟩ := r
    cases x with
    | im d =>
      cases e
      exact ⟨r, fun _ z => nomatch z⟩
    | ow o =>
      cases e
      obtain ⟨l, rfl, a, m, no⟩ := r
      exact ⟨⟨l, rfl, a, m, fun z => no (ownB l z)⟩, nx⟩
    | sl i =>
      have e' : (if i < n then none else match env'[i]? with
        | some (.ow _ o) => some (X.ow o)
        | _ => none) = some y := e
      by_cases hi : i < n
      · rw [if_pos hi] at e'; cases e'
      · rw [if_neg hi] at e'
        obtain ⟨⟨p, o, q1⟩, q2⟩ := r
        rw [q1] at e'
        cases e'
        obtain ⟨l, q3, a, m⟩ := hh'.slot i _ q1
        rw [q2] at q3
        cases q3
        have no : ¬ Own (backP ps env') (sv vs) l := fun ⟨j, p2, o2, t1, t2⟩ => by
          obtain ⟨o0, e0, e1, e2⟩ := bk j p2 o2 t1
          have hj : j < n := by rw [← hl]; exact (List.getElem?_eq_some_iff.mp e0).1
          exact hh'.dj j i l p2 o2 p o (by omega) e1 q1 (e2.trans t2) q2
        refine ⟨⟨l, rfl, a, m, no⟩, fun o2 z l2 e2 => ?_⟩
        cases e2
        rcases g.own l ⟨i, p, o, q1, q2⟩ with z | z
        · obtain ⟨j, p2, o2, t1, t2⟩ := own0 l z
          obtain ⟨o', e1, e2⟩ := lent j p2 o2 t1
          have hj : j < n := by rw [← hl]; exact (List.getElem?_eq_some_iff.mp t1).1
          exact (hh'.dj j i l p2 o' p o (by omega) e1 q1 (e2.trans t2) q2).elim
        · exact z
/-- a body's denotation is what the def does -/
theorem fn_body {N : List Str} {n : Nat} {t : TS} {ds : Ev → RS} {Q : VK} {E : XK} (hd : DS K (fun _ => E) t ds) (hs : spD K (fnM N.length n ds) vs H Q E) : t { nx := fun _ H' => Q .non H', rt := Q } (start N vs) H := by
  obtain ⟨M, ps, hh, h⟩ := hs
  unfold fnM at h
  by_cases hc : ps.length = n ∧ n ≤ N.length ∧ ps.all Sl.par = true
  · rw [if_pos hc] at h
    obtain ⟨hl, hN, hp⟩ := hc
    have hh0 := body_start (N := N.length) hh hl
    have h1 := hd M _ H _ hh0
    show t _ (sv vs ++ List.replicate (N.length - vs.length) none) H
    cases e : ds (ps ++ List.replicate (N.length - n) .no) with
    | bad => rw [e] at h; exact h.elim
    | bk _ => rw [e] at h; exact h.elim
    | ct _ => rw [e] at h; exact h.elim
    | nx env' =>
      rw [e] at h h1
      refine h1 _ fun σ' M' H' g hh' => ?_
      obtain ⟨a, b, c, d⟩ := body_end hh hl hN hp g hh'
      exact h .non M' H' a b c (rx_im rep_non)
    | exc x env' =>
      rw [e] at h h1
      refine h1 _ fun cls dd σ' M' H' g hh' r => ?_
      obtain ⟨a, b, c, d⟩ := body_end hh hl hN hp g hh'
      exact h cls dd M' H' a b c r
    | rt x env' =>
      rw [e] at h h1
      have h2 : Post K M ps vs H Q E (opt (retX n env' x) (backP ps env')) := h
      cases e2 : retX n env' x with
      | none => rw [e2] at h2; exact h2.elim
      | some y =>
        rw [e2] at h2
        have h := h2
        refine h1 _ fun v σ' M' H' g hh' r => ?_
        obtain ⟨a, b, c, d⟩ := body_end hh hl hN hp g hh'
        exact h v M' H' a b c (d x v y r e2)
  · rw [if_neg hc] at h
    exact h.elim
theorem spD_len {n N : Nat} {ds : Ev → RS} {Q : VK} {E : XK} (hs : spD K (fnM N n ds) vs H Q E) : vs.length = n := by
  obtain ⟨M, ps, hh, h⟩ := hs
  unfold fnM at h
  by_cases hc : ps.length = n ∧ n ≤ N ∧ ps.all Sl.par = true
  · have := hh.len
    unfold sv at this
    rw [List.length_map] at this
    omega
  · rw [if_neg hc] at h
    exact h.elim
end
/-- what is handed to a parameter -/
def passX (env : Ev) : X → Option Sl
  | .im d => some (.im d)
  | .ow o => some (.ow true o)
  | .sl i => match env[i]? with
    | some (.ow _ o) => some (.ow true o)
    | _ => none
def passXs (env : Ev) : List X → Option Ev
  | [] => some []
  | x :: xs => (passX env x).bind fun s => (passXs env xs).bind fun ss => some (s :: ss)
def slots : List X → List Nat
  | [] => []
  | .sl i :: xs => i :: slots xs
  | _ :: xs => slots xs
def temps : List X → Nat
  | [] => 0
  | .ow _ :: xs => temps xs + 1
  | _ :: xs => temps xs
def wr (i : Nat) (o : OD) (env : Ev) : Ev := match env[i]? with
  | some (.ow p _) => env.set i (.ow p o)
  | _ => env
def wb : List X → Ev → Ev → Ev
  | .sl i :: xs, .ow _ o :: ps, env => wb xs ps (wr i o env)
  | _ :: xs, _ :: ps, env => wb xs ps env
  | _, _, env => env
def dCall (m : Ev → RE X) (da : Ev → RE (List X)) : Ev → RE X := fun env => (da env).bind fun xs e1 => match passXs e1 xs with
  | none => .bad
  | some ps => if (slots xs).Nodup ∧ temps xs ≤ 1 then match m ps with
      | .ok y ps' => .ok y (wb xs ps' e1)
      | .exc e ps' => .exc e (wb xs ps' e1)
      | .bad => .bad
    else .bad
section
variable {K : Fg} [WD K] {W : WS} {M M' M1 M2 : Hp} {env env' env1 env2 ps : Ev} {σ σ' σ1 : L2.St} {H H' H1 H2 : Hp} {x y : X} {v u : V} {vs : List V}
theorem wr_other {i j : Nat} {o : OD} (h : j ≠ i) : (wr i o env)[j]? = env[j]? := by
  unfold wr
  split
  · exact List.getElem?_set_ne (Ne.symm h)
  · rfl
theorem wr_self {i : Nat} {p : Bool} {o o0 : OD} (h : env[i]? = some (Sl.ow p o0)) : (wr i o env)[i]? = some (Sl.ow p o) := by
  unfold wr
  rw [h]
  exact List.getElem?_set_self (List.getElem?_eq_some_iff.mp h).1
theorem wr_len {i : Nat} {o : OD} : (wr i o env).length = env.length := by
  unfold wr
  split <;> simp
theorem wb_len : ∀ (xs : List X) (ps env : Ev), (wb xs ps env).length = env.length
  | [], _, env => by unfold wb; rfl
  | .sl i :: xs, [], env => by unfold wb; rfl
  | .im i :: xs, [], env => by unfold wb; rfl
  | .ow i :: xs, [], env => by unfold wb; rfl
  | .sl i :: xs, .ow p o :: ps, env => by unfold wb; rw [wb_len xs ps, wr_len]
  | .sl i :: xs, .no :: ps, env => by unfold wb; rw [wb_len xs ps]
  | .sl i :: xs, .im _ :: ps, env => by unfold wb; rw [wb_len xs ps]
  | .sl i :: xs, .hid :: ps, env => by unfold wb; rw [wb_len xs ps]
  | .im _ :: xs, _ :: ps, env => by unfold wb; rw [wb_len xs ps]
  | .ow _ :: xs, _ :: ps, env => by unfold wb; rw [wb_len xs ps]
theorem wb_out {i : Nat} : ∀ (xs : List X) (ps env : Ev), i ∉ slots xs → (wb xs ps env)[i]? = env[i]?
  | [], _, env, _ => by unfold wb; rfl
  | .sl i :: xs, [], env, _ => by unfold wb; rfl
  | .im i :: xs, [], env, _ => by unfold wb; rfl
  | .ow i :: xs, [], env, _ => by unfold wb; rfl
  | .sl j :: xs, .ow p o :: ps, env, h => by
    have h1 : i ≠ j ∧ i ∉ slots xs := by simpa [slots] using h
    unfold wb; rw [wb_out xs ps _ h1.2, wr_other h1.1]
  | .sl j :: xs, .no :: ps, env, h => by
    have h1 : i ≠ j ∧ i ∉ slots xs := by simpa [slots] using h
    unfold wb; rw [wb_out xs ps _ h1.2]
  | .sl j :: xs, .im _ :: ps, env, h => by
    have h1 : i ≠ j ∧ i ∉ slots xs := by simpa [slots] using h
    unfold wb; rw [wb_out xs ps _ h1.2]
  | .sl j :: xs, .hid :: ps, env, h => by
    have h1 : i ≠ j ∧ i ∉ slots xs := by simpa [slots] using h
    unfold wb; rw [wb_out xs ps _ h1.2]
  | .im _ :: xs, _ :: ps, env, h => by unfold wb; rw [wb_out xs ps _ (by simpa [slots] using h)]
  | .ow _ :: xs, _ :: ps, env, h => by unfold wb; rw [wb_out xs ps _ (by simpa [slots] using h)]
theorem slots_mem : ∀ {xs : List X} {k i : Nat}, xs[k]? = some (.sl i) → i ∈ slots xs
  | [], k, i, h => by simp at h
  | x :: xs, 0, i, h => by
    simp at h
    subst h
    simp [slots]
  | x :: xs, k + 1, i, h => by
    have := slots_mem (xs := xs) (k := k) (i := i) (by simpa using h)
    cases x <;> simp [slots, this]
theorem wb_in {i : Nat} {p b : Bool} {o o0 : OD} : ∀ (xs : List X) (ps env : Ev) (k : Nat), (slots xs).Nodup → xs[k]? = some (.sl i) → ps[k]? = some (Sl.ow b o) → env[i]? = some (Sl.ow p o0) → (wb xs ps env)[i]? = some (Sl.ow p o)
  | [], _, _, _, _, h, _, _ => by simp at h
  | x :: xs, [], _, k, _, _, h, _ => by simp at h
  | .sl j :: xs, .ow q1 o1 :: ps, env, 0, nd, h, h2, h3 => by
    simp at h h2
    obtain ⟨rfl, rfl⟩ := h2
    subst h
    have h1 : j ∉ slots xs ∧ (slots xs).Nodup := by simpa [slots] using nd
    unfold wb
    rw [wb_out xs ps _ h1.1, wr_self h3]
  | .sl j :: xs, .ow q1 o1 :: ps, env, k + 1, nd, h, h2, h3 => by
    have h1 : j ∉ slots xs ∧ (slots xs).Nodup := by simpa [slots] using nd
    have hk : xs[k]? = some (.sl i) := by simpa using h
    have hij : i ≠ j := fun z => h1.1 (z ▸ slots_mem hk)
    unfold wb
    exact wb_in xs ps _ k h1.2 hk (by simpa using h2) (by rw [wr_other hij]; exact h3)
  | .sl j :: xs, .no :: ps, env, 0, nd, h, h2, h3 => by simp at h2
  | .sl j :: xs, .im _ :: ps, env, 0, nd, h, h2, h3 => by simp at h2
  | .sl j :: xs, .hid :: ps, env, 0, nd, h, h2, h3 => by simp at h2
  | .sl j :: xs, .no :: ps, env, k + 1, nd, h, h2, h3 => by
    have h1 : j ∉ slots xs ∧ (slots xs).Nodup := by simpa [slots] using nd
    unfold wb
    exact wb_in xs ps _ k h1.2 (by simpa using h) (by simpa using h2) h3
  | .sl j :: xs, .im _ :: ps, env, k + 1, nd, h, h2, h3 => by
    have h1 : j ∉ slots xs ∧ (slots xs).Nodup := by simpa [slots] using nd
    unfold wb
    exact wb_in xs ps _ k h1.2 (by simpa using h) (by simpa using h2) h3
  | .sl j :: xs, .hid :: ps, env, k + 1, nd, h, h2, h3 => by
    have h1 : j ∉ slots xs ∧ (slots xs).Nodup := by simpa [slots] using nd
    unfold wb
    exact wb_in xs ps _ k h1.2 (by simpa using h) (by simpa using h2) h3
  | .im _ :: xs, s :: ps, env, 0, nd, h, h2, h3 => by simp at h
  | .ow _ :: xs, s :: ps, env, 0, nd, h, h2, h3 => by simp at h
  | .im _ :: xs, s :: ps, env, k + 1, nd, h, h2, h3 => by
    unfold wb
    exact wb_in xs ps _ k (by simpa [slots] using nd) (by simpa using h) (by simpa using h2) h3
  | .ow _ :: xs, s :: ps, env, k + 1, nd, h, h2, h3 => by
    unfold wb
    exact wb_in xs ps _ k (by simpa [slots] using nd) (by simpa using h) (by simpa using h2) h3
theorem slots_at : ∀ {xs : List X} {i : Nat}, i ∈ slots xs → ∃ k : Nat, xs[k]? = some (X.sl i)
  | [], i, h => by simp [slots] at h
  | .sl j :: xs, i, h => by
    simp only [slots, List.mem_cons] at h
    rcases h with rfl | h
    · exact ⟨0, rfl⟩
    · obtain ⟨k, e⟩ := slots_at h
      exact ⟨k + 1, by simpa using e⟩
  | .im _ :: xs, i, h => by
    obtain ⟨k, e⟩ := slots_at (xs := xs) (by simpa [slots] using h)
    exact ⟨k + 1, by simpa using e⟩
  | .ow _ :: xs, i, h => by
    obtain ⟨k, e⟩ := slots_at (xs := xs) (by simpa [slots] using h)
    exact ⟨k + 1, by simpa using e⟩
theorem slots_inj : ∀ {xs : List X} {i k k' : Nat}, (slots xs).Nodup → xs[k]? = some (.sl i) → xs[k']? = some (.sl i) → k = k'
  | [], i, k, k', _, h, _ => by simp at h
  | x :: xs, i, 0, 0, _, _, _ => rfl
  | x :: xs, i, 0, k' + 1, nd, h, h' => by
    simp at h
    subst h
    have h1 : i ∉ slots xs := by
      have : i ∉ slots xs ∧ (slots xs).Nodup := by simpa [slots] using nd
      exact this.1
    exact (h1 (slots_mem (by simpa using h'))).elim
  | x :: xs, i, k + 1, 0, nd, h, h' => by
    simp at h'
    subst h'
    have h1 : i ∉ slots xs := by
      have : i ∉ slots xs ∧ (slots xs).Nodup := by simpa [slots] using nd
      exact this.1
    exact (h1 (slots_mem (by simpa using h))).elim
  | x :: xs, i, k + 1, k' + 1, nd, h, h' => by
    have nd' : (slots xs).Nodup := by
      cases x with
      | sl j => exact (by simpa [slots] using nd : j ∉ slots xs ∧ (slots xs).Nodup).2
      | im _ => simpa [slots] using nd
      | ow _ => simpa [slots] using nd
    exact congrArg (· + 1) (slots_inj nd' (show xs[k]? = some (X.sl i) by simpa using h) (show xs[k']? = some (X.sl i) by simpa using h'))
theorem passXs_get : ∀ {xs : List X} {ps : Ev} {k : Nat}, passXs env xs = some ps → (∀ s, ps[k]? = some s → ∃ x, xs[k]? = some x ∧ passX env x = some s) ∧ (∀ x, xs[k]? = some x → ∃ s, ps[k]? = some s ∧ passX env x = some s) ∧ ps.length = xs.length
  | [], ps, k, e => by
    simp only [passXs] at e
    cases e
    exact ⟨fun s h => by simp at h, fun x h => by simp at h, rfl⟩
  | x :: xs, ps, k, e => by
    simp only [passXs] at e
    obtain ⟨s, e1, e⟩ := Option.bind_eq_some_iff.mp e
    obtain ⟨ss, e2, e⟩ := Option.bind_eq_some_iff.mp e
    cases e
    cases k with
    | zero =>
      have := (passXs_get (k := 0) e2).2.2
      exact ⟨fun t h => ⟨x, rfl, by simp at h; rw [← h]; exact e1⟩, fun t h => ⟨s, rfl, by simp at h; rw [← h]; exact e1⟩, by simp [this]⟩
    | succ k =>
      obtain ⟨a, b, c⟩ := passXs_get (k := k) e2
      exact ⟨fun t h => by simpa using a t (by simpa using h), fun t h => by simpa using b t (by simpa using h), by simp [c]⟩
theorem ra_get {H0 : Hp} : ∀ {xs : List X} {vs : List V} {k : Nat} {x : X}, RA K σ H0 M H env xs vs → xs[k]? = some x → ∃ v, vs[k]? = some v ∧ RX K σ H0 M H env x v
  | [], _, k, x, _, h => by simp at h
  | y :: xs, _, 0, x, .cons r rs, h => by
    simp at h
    subst h
    exact ⟨_, rfl, r⟩
  | y :: xs, _, k + 1, x, .cons r rs, h => by
    obtain ⟨v, e, r'⟩ := ra_get (k := k) (show RA K σ H0 M H env xs _ from rs) (by simpa using h)
    exact ⟨v, by simpa using e, r'⟩
theorem ra_len {H0 : Hp} {xs : List X} {vs : List V} (r : RA K σ H0 M H env xs vs) : xs.length = vs.length := Paired.length r
theorem temps_pos : ∀ {xs : List X} {k : Nat} {o : OD}, xs[k]? = some (.ow o) → 1 ≤ temps xs
  | [], k, o, h => by simp at h
  | x :: xs, 0, o, h => by
    simp at h
    subst h
    simp [temps]
  | x :: xs, k + 1, o, h => by
    have := temps_pos (xs := xs) (k := k) (o := o) (by simpa using h)
    cases x <;> simp [temps] <;> omega
theorem temps_one : ∀ {xs : List X} {k k' : Nat} {o o' : OD}, temps xs ≤ 1 → xs[k]? = some (.ow o) → xs[k']? = some (.ow o') → k = k'
  | [], k, k', o, o', _, h, _ => by simp at h
  | x :: xs, 0, 0, _, _, _, _, _ => rfl
  | x :: xs, 0, k' + 1, o, o', ht, h, h' => by
    simp at h
    subst h
    have := temps_pos (xs := xs) (k := k') (o := o') (by simpa using h')
    simp [temps] at ht
    omega
  | x :: xs, k + 1, 0, o, o', ht, h, h' => by
    simp at h'
    subst h'
    have := temps_pos (xs := xs) (k := k) (o := o) (by simpa using h)
    simp [temps] at ht
    omega
  | x :: xs, k + 1, k' + 1, o, o', ht, h, h' => by
    have ht' : temps xs ≤ 1 := by cases x <;> simp [temps] at ht <;> omega
    exact congrArg (· + 1) (temps_one ht' (show xs[k]? = some (X.ow o) by simpa using h) (show xs[k']? = some (X.ow o') by simpa using h'))
/-- an argument that is an object: the caller's, or new -/
theorem arg_ow {H0 : Hp} (hh : Holds K M1 env1 σ H1) {xs : List X} (r : RA K σ H0 M1 H1 env1 xs vs) (e : passXs env1 xs = some ps) {k : Nat} {p : Bool} {o : OD} {l : Addr} (q : ps[k]? = some (Sl.ow p o)) (q' : (sv vs)[k]? = some (some (V.ref l))) :
    p = true ∧ At K M1 H1 l o ∧ M1 l = none ∧ ((∃ i p0, xs[k]? = some (.sl i) ∧ env1[i]? = some (Sl.ow p0 o) ∧ σ[i]? = some (some (V.ref l))) ∨ (xs[k]? = some (.ow o) ∧ H0 l = none ∧ ¬ Own env1 σ l)) := by
  obtain ⟨x, e1, e2⟩ := (passXs_get (k := k) e).1 _ q
  obtain ⟨v, e3, r1⟩ := ra_get r e1
  have ev : v = V.ref l := by
    unfold sv at q'
    rw [List.getElem?_map, e3] at q'
    exact Option.some.inj (Option.some.inj q')
  subst ev
  cases x with
  | im d => cases e2
  | ow o0 =>
    cases e2
    obtain ⟨l2, el, a, m, no⟩ := r1.1
    cases el
    exact ⟨rfl, a, m, .inr ⟨e1, r1.2 o rfl l rfl, no⟩⟩
  | sl i =>
    obtain ⟨⟨p0, o0, t1⟩, t2⟩ := r1.1
    have e2' : (match env1[i]? with
      | some (.ow _ o) => some (Sl.ow true o)
      | _ => none) = some (Sl.ow p o) := e2
    rw [t1] at e2'
    cases e2'
    obtain ⟨l3, q3, a, m⟩ := hh.slot i _ t1
    rw [t2] at q3
    cases q3
    exact ⟨rfl, a, m, .inl ⟨i, p0, e1, t1, t2⟩⟩
/-- the callee's state -/
theorem call_in (hh0 : Holds K M env σ H) (g : Grow M env σ H M1 env1 σ H1) (hh : Holds K M1 env1 σ H1) {xs : List X} (r : RA K σ H M1 H1 env1 xs vs) (e : passXs env1 xs = some ps) (nd : (slots xs).Nodup) (nt : temps xs ≤ 1) :
    Holds K M1 ps (sv vs) H1 := by
  have hl := (passXs_get (k := 0) e).2.2
  refine ⟨hh.ex, by unfold sv; rw [List.length_map, ← ra_len r, hl], fun k s q => ?_, fun k k' l p o p' o' hk q1 q2 q3 q4 => ?_⟩
  · obtain ⟨x, e1, e2⟩ := (passXs_get (k := k) e).1 s q
    obtain ⟨v, e3, r1⟩ := ra_get r e1
    have ev : (sv vs)[k]? = some (some v) := by unfold sv; rw [List.getElem?_map, e3]; rfl
    cases x with
    | im d =>
      cases e2
      rw [ev]
      exact ⟨v, rfl, r1.1⟩
    | ow o =>
      cases e2
      obtain ⟨l, rfl, _⟩ := r1.1
      obtain ⟨_, a, m, _⟩ := arg_ow hh r e q ev
      rw [ev]
      exact ⟨l, rfl, a, m⟩
    | sl i =>
      obtain ⟨⟨p, o, q1⟩, q2⟩ := r1.1
      have e2' : (match env1[i]? with
        | some (.ow _ o) => some (Sl.ow true o)
        | _ => none) = some s := e2
      rw [q1] at e2'
      cases e2'
      obtain ⟨l, q3, a, m⟩ := hh.slot i _ q1
      rw [q2] at q3
      cases q3
      rw [ev]
      exact ⟨l, rfl, a, m⟩
  · obtain ⟨_, _, _, h1⟩ := arg_ow hh r e q1 q3
    obtain ⟨_, _, _, h2⟩ := arg_ow hh r e q2 q4
    rcases h1 with ⟨i, p0, a1, a2, a3⟩ | ⟨a1, a2, a3⟩ <;> rcases h2 with ⟨j, p1, b1, b2, b3⟩ | ⟨b1, b2, b3⟩
    · have hij : i ≠ j := fun z => hk (slots_inj nd a1 (z ▸ b1))
      exact hh.dj i j l p0 o p1 o' hij a2 b2 a3 b3
    · exact b3 ⟨i, p0, o, a2, a3⟩
    · exact a3 ⟨j, p1, o', b2, b3⟩
    · exact hk (temps_one nt a1 b1)
/-- the caller's state behind -/
theorem call_out (hh0 : Holds K M env σ H) (g : Grow M env σ H M1 env1 σ H1) (s1 : Shape env env1) (hh : Holds K M1 env1 σ H1) {xs : List X} (r : RA K σ H M1 H1 env1 xs vs) (e : passXs env1 xs = some ps) (nd : (slots xs).Nodup) {ps' : Ev}
    (g2 : Grow M1 ps (sv vs) H1 M2 ps' (sv vs) H2) (s2 : Shape ps ps') (hh2 : Holds K M2 ps' (sv vs) H2) :
    Grow M env σ H M2 (wb xs ps' env1) σ H2 ∧ Shape env (wb xs ps' env1) ∧ Holds K M2 (wb xs ps' env1) σ H2 ∧ ∀ y v, RX K (sv vs) H1 M2 H2 ps' y v → (∀ i, y ≠ .sl i) → RX K σ H M2 H2 (wb xs ps' env1) y v := by
  -- a slot that was lent
  have len1 : ∀ (k i : Nat), xs[k]? = some (.sl i) → ∃ p o o', env1[i]? = some (Sl.ow p o) ∧ ps[k]? = some (Sl.ow true o) ∧ ps'[k]? = some (Sl.ow true o') ∧ (wb xs ps' env1)[i]? = some (Sl.ow p o') ∧ (sv vs)[k]? = σ[i]? := fun k i h => by
    obtain ⟨v, e3, r1⟩ := ra_get r h
    obtain ⟨⟨p, o, t1⟩, t2⟩ := r1.1
    obtain ⟨s, e4, e5⟩ := (passXs_get (k := k) e).2.1 _ h
    have e5' : (match env1[i]? with
      | some (.ow _ o) => some (Sl.ow true o)
      | _ => none) = some s := e5
    rw [t1] at e5'
    cases e5'
    obtain ⟨o', e6⟩ := s2.ow e4
    refine ⟨p, o, o', t1, e4, e6, wb_in xs ps' env1 k nd h e6 t1, ?_⟩
    unfold sv
    rw [List.getElem?_map, e3, t2]
    rfl
  have shp : Shape env1 (wb xs ps' env1) := by
    show (wb xs ps' env1).map Sl.kind = env1.map Sl.kind
    apply List.ext_getElem?
    intro i
    rw [List.getElem?_map, List.getElem?_map]
    by_cases hi : i ∈ slots xs
    · obtain ⟨k, hk⟩ := slots_at hi
      obtain ⟨p, o, o', t1, _, _, t2, _⟩ := len1 k i hk
      rw [t1, t2]
      rfl
    · rw [wb_out xs ps' env1 hi]
  have ownP : ∀ l, Own ps (sv vs) l → Own env1 σ l ∨ (H l = none ∧ ¬ Own env1 σ l) := fun l ⟨k, p, o, q1, q2⟩ => by
    obtain ⟨_, _, _, h⟩ := arg_ow hh r e q1 q2
    rcases h with ⟨i, p0, a1, a2, a3⟩ | ⟨a1, a2, a3⟩
    · exact .inl ⟨i, p0, o, a2, a3⟩
    · exact .inr ⟨a2, a3⟩
  have g3 : Grow M env σ H M2 (wb xs ps' env1) σ H2 := by
    refine ⟨g.exM.trans g2.exM, fun l o q n => ?_, fun l o q => ?_, fun l z => g.own l (own_shape shp z), fun i s q pn => ⟨rfl, ?_⟩, fun l q => g.dom l (g2.dom l q), (wb_len _ _ _).trans g.len⟩
    · refine g2.fr l o (g.fr l o q n) fun z => ?_
      rcases ownP l z with z | z
      · rcases g.own l z with z | z
        · exact n z
        · rw [q] at z; cases z
      · rw [q] at z; cases z.1
    · rcases g2.new l o q with z | z | z
      · exact g.new l o z
      · exact .inr (.inl (g.dom l z))
      · rcases ownP l z with z | z
        · rcases g.own l z with z | z
          · exact .inr (.inr z)
          · exact .inr (.inl z)
        · exact .inr (.inl z.1)
    · have := congrArg (fun l => l[i]?) (show (wb xs ps' env1).map Sl.kind = env.map Sl.kind from Eq.trans shp s1)
      simp only [List.getElem?_map] at this
      rw [q] at this
      obtain ⟨s', e1, e2⟩ := Option.map_eq_some_iff.mp this
      exact ⟨s', e1, e2⟩
  · refine ⟨g3, Eq.trans shp s1, ⟨hh2.ex, by rw [wb_len]; exact hh.len, fun i s q => ?_, fun i j l p o p' o' hij q1 q2 q3 q4 => ?_⟩, fun y v ry ny => ?_⟩
    · by_cases hi : i ∈ slots xs
      · obtain ⟨k, hk⟩ := slots_at hi
        obtain ⟨p, o, o', t1, _, t3, t2, t4⟩ := len1 k i hk
        rw [t2] at q
        cases q
        have := hh2.slot k _ t3
        rw [t4] at this
        exact this
      · rw [wb_out xs ps' env1 hi] at q
        have := hh.slot i s q
        cases s with
        | no => trivial
        | hid => trivial
        | im d => obtain ⟨u, e1, e2⟩ := this; exact ⟨u, e1, Rep.mono g2.exM _ _ e2⟩
        | ow p o =>
          obtain ⟨l, e1, a, m⟩ := this
          have no : ¬ Own ps (sv vs) l := fun ⟨k, p2, o2, q1, q2⟩ => by
            obtain ⟨_, _, _, h⟩ := arg_ow hh r e q1 q2
            rcases h with ⟨j, p0, a1, a2, a3⟩ | ⟨a1, a2, a3⟩
            · have hij : i ≠ j := fun z => hi (z ▸ slots_mem a1)
              exact hh.dj i j l p o p0 o2 hij q a2 e1 a3
            · exact a3 ⟨i, p, o, q, e1⟩
          refine ⟨l, e1, a.mono g2.exM fun u z => g2.fr l u z no, ?_⟩
          cases z : M2 l with
          | none => rfl
          | some u =>
            obtain ⟨u2, hu⟩ := a.there
            rcases g2.new l u z with w | w | w
            · rw [m] at w; cases w
            · rw [hu] at w; cases w
            · exact (no w).elim
    · have f : ∀ (i : Nat) (p : Bool) (o : OD), (wb xs ps' env1)[i]? = some (Sl.ow p o) → ∃ o0, env1[i]? = some (Sl.ow p o0) := fun i p o q => (show Shape (wb xs ps' env1) env1 from Eq.symm shp).ow q
      obtain ⟨o1, h1⟩ := f i p o q1
      obtain ⟨o2, h2⟩ := f j p' o' q2
      exact hh.dj i j l p o1 p' o2 hij h1 h2 q3 q4
    · refine ⟨?_, fun o z l z2 => g.dom l (ry.2 o z l z2)⟩
      obtain ⟨ry, nn⟩ := ry
      cases y with
      | im d => exact ry
      | sl i => exact (ny i rfl).elim
      | ow o =>
        obtain ⟨l, rfl, a, m, _⟩ := ry
        refine ⟨l, rfl, a, m, fun z => ?_⟩
        obtain ⟨u, hu⟩ := hh.ownSome (own_shape shp z)
        rw [nn o rfl l rfl] at hu
        cases hu
/-- a def gives no slot of its caller's back -/
def NoSl (m : Ev → RE X) : Prop := ∀ ps y ps', m ps = .ok y ps' → ∀ i, y ≠ .sl i
theorem noSl_fn {N n : Nat} {ds : Ev → RS} : NoSl (fnM N n ds) := fun ps y ps' e i => by
  unfold fnM at e
  by_cases hc : ps.length = n ∧ n ≤ N ∧ ps.all Sl.par = true
  · rw [if_pos hc] at e
    cases q : ds (ps ++ List.replicate (N - n) .no) with
    | rt x env =>
      rw [q] at e
      have e' : opt (retX n env x) (backP ps env) = RE.ok y ps' := e
      cases q2 : retX n env x with
      | none => rw [q2] at e'; cases e'
      | some z =>
        rw [q2] at e'
        have ez : z = y := by
          have : RE.ok z (backP ps env) = RE.ok y ps' := e'
          injection this
        subst ez
        intro hz
        subst hz
        cases x with
        | im d => cases q2
        | ow o => cases q2
        | sl j =>
          have q3 : (if j < n then none else match env[j]? with
            | some (.ow _ o) => some (X.ow o)
            | _ => none) = some (X.sl i) := q2
          by_cases hj : j < n
          · rw [if_pos hj] at q3; cases q3
          · rw [if_neg hj] at q3
            split at q3 <;> cases q3
    | nx env => rw [q] at e; cases e; intro z; cases z
    | exc _ _ => rw [q] at e; cases e
    | bk _ => rw [q] at e; cases e
    | ct _ => rw [q] at e; cases e
    | bad => rw [q] at e; cases e
  · rw [if_neg hc] at e
    cases e
/-- f(..) -/
theorem de_call {m : Ev → RE X} {E : XK} {ta : TA} {da : Ev → RE (List X)} (hm : NoSl m) (ha : DA K (fun _ => E) ta da) : DE K (fun _ => E) (tCall (spD K m) [] E ta) (dCall m da) := fun M σ H env hh => by
  have h1 := ha M σ H env hh
  unfold dCall
  cases e1 : da env with
  | bad => trivial
  | exc e env1 => rw [e1] at h1; exact fun Q k => h1 _ k
  | ok xs env1 =>
    rw [e1] at h1
    show Sat K _ M σ H env (match passXs env1 xs with
      | none => .bad
      | some ps => if (slots xs).Nodup ∧ temps xs ≤ 1 then match m ps with
          | .ok y ps' => .ok y (wb xs ps' env1)
          | .exc e ps' => .exc e (wb xs ps' env1)
          | .bad => .bad
        else .bad) (RX K σ) _
    cases e2 : passXs env1 xs with
    | none => trivial
    | some ps =>
      show Sat K _ M σ H env (if (slots xs).Nodup ∧ temps xs ≤ 1 then match m ps with
          | .ok y ps' => .ok y (wb xs ps' env1)
          | .exc e ps' => .exc e (wb xs ps' env1)
          | .bad => .bad
        else .bad) (RX K σ) _
      by_cases nd : (slots xs).Nodup ∧ temps xs ≤ 1
      · rw [if_pos nd]
        cases e3 : m ps with
        | bad => trivial
        | ok y ps' =>
          refine fun Q k => h1 _ fun vs M1 H1 g s hh1 r => ?_
          rw [List.append_nil]
          refine ⟨_, ps, call_in hh g hh1 r e2 nd.1 nd.2, ?_⟩
          rw [e3]
          intro v M2 H2 g2 s2 hh2 ry
          obtain ⟨a, b, c, d⟩ := call_out hh g s hh1 r e2 nd.1 g2 s2 hh2
          exact k v M2 H2 a b c (d y v ry (hm ps y ps' e3))
        | exc x ps' =>
          refine fun Q k => h1 _ fun vs M1 H1 g s hh1 r => ?_
          rw [List.append_nil]
          refine ⟨_, ps, call_in hh g hh1 r e2 nd.1 nd.2, ?_⟩
          rw [e3]
          intro cls dd M2 H2 g2 s2 hh2 ry
          obtain ⟨a, b, c, d⟩ := call_out hh g s hh1 r e2 nd.1 g2 s2 hh2
          exact k cls dd M2 H2 a b c ry
      · rw [if_neg nd]
        trivial
end
end Dn

namespace Dn
open PySem PySem.Spec PyProof.Rows L2
/-! ### comprehensions -/
def wipeE (env : Ev) : List Nat → Ev
  | [] => env
  | v :: vs => (wipeE env vs).set v .no
def restE (e1 : Ev) (e : Ev) : List Nat → Ev
  | [] => e
  | v :: vs => (restE e1 e vs).set v (e1.getD v .no)
def freeSl (e1 : Ev) (v : Nat) : Bool := match e1[v]? with
  | some .no => true
  | some (.im _) => true
  | _ => false
def lcGo (dg : D → Ev → Option Ev) (dt : Ev → RE Bool) (de : Ev → RE X) (vs : List Nat) : List D → Ev → List D → RE (List D)
  | [], e, acc => .ok acc e
  | x :: xs, e, acc => match dg x e with
    | none => .bad
    | some e2 => match dt e2 with
      | .ok true e3 => match de e3 with
        | .ok y e4 => match frz y with
          | some d => if fit (acc.length + 1) then lcGo dg dt de vs xs (wipeE e4 vs) (acc ++ [d]) else .bad
          | none => .bad
        | _ => .bad
      | .ok false e3 => lcGo dg dt de vs xs (wipeE e3 vs) acc
      | _ => .bad
def unhid (h : Option Nat) (e1 e : Ev) : Ev := match h with
  | none => e
  | some j => e.set j (e1.getD j .no)
def lcEnd (h : Option Nat) (e1 : Ev) (vs : List Nat) : RE (List D) → RE X
  | .ok ds e => .ok (.ow (.lst ds)) (unhid h e1 (restE (hideE h e1) e vs))
  | _ => .bad
def dLc (di : Ev → RE Its) (dg : D → Ev → Option Ev) (dt : Ev → RE Bool) (de : Ev → RE X) (vs : List Nat) : Ev → RE X := fun env => (di env).bind fun xh e1 => if vs.all (freeSl (hideE xh.2 e1)) = true then lcEnd xh.2 e1 vs (lcGo dg dt de vs xh.1 (wipeE (hideE xh.2 e1) vs) []) else .bad
/-- a target that stores into vs alone -/
def DGv (K : Fg) [WD K] (g : TG) (dg : D → Ev → Option Ev) (vs : List Nat) : Prop := (∀ (M : Hp) (σ : L2.St) (H : Hp) (env env' : Ev) (d : D) (v : V), Holds K M env σ H → Rep K M d v → dg d env = some env' → ∀ Q : L2.St → Hp → Prop, (∀ σ', Grow M env σ H M env' σ' H → Holds K M env' σ' H → (∀ i, i ∉ vs → σ'[i]? = σ[i]?) → Q σ' H) → g v σ H Q) ∧
  ∀ d env env', dg d env = some env' → ∀ i, i ∉ vs → env'[i]? = env[i]?
def DGsv (K : Fg) [WD K] (g : TGs) (dg : List D → Ev → Option Ev) (vs : List Nat) : Prop := (∀ (M : Hp) (σ : L2.St) (H : Hp) (env env' : Ev) (ds : List D) (us : List V), Holds K M env σ H → Reps K M ds us → dg ds env = some env' → ∀ Q : L2.St → Hp → Prop, (∀ σ', Grow M env σ H M env' σ' H → Holds K M env' σ' H → (∀ i, i ∉ vs → σ'[i]? = σ[i]?) → Q σ' H) → g us σ H Q) ∧
  ∀ ds env env', dg ds env = some env' → ∀ i, i ∉ vs → env'[i]? = env[i]?
section
variable {K : Fg} [WD K] {W : WS} {M M' M1 M2 : Hp} {env env' env1 env2 e e1 : Ev} {σ σ' σ1 : L2.St} {H H' H1 H2 : Hp} {x y : X} {v u : V} {te : TE} {de : Ev → RE X} {tt : TT} {dt : Ev → RE Bool} {vs : List Nat}
theorem setSl_other {i j : Nat} (h : setSl i x env = some env') (hj : j ≠ i) : env'[j]? = env[j]? := by
  unfold setSl at h
  split at h
  · cases h
  · cases h
  · cases h
  · obtain ⟨s, _, rfl⟩ := Option.map_eq_some_iff.mp h
    exact List.getElem?_set_ne (Ne.symm hj)
theorem dgv_name {i : Nat} (hi : i ∈ vs) : DGv K (gName i) (dgName i) vs := ⟨fun M σ H env env' d v hh r e Q k => by
  obtain ⟨g, h⟩ := setSl_grow hh .refl hh (rx_im r) e
  exact k _ g h fun j hj => List.getElem?_set_ne (fun (z : i = j) => hj (by rw [← z]; exact hi)), fun d env env' h j hj => setSl_other h (fun (z : j = i) => hj (by rw [z]; exact hi))⟩
theorem dgv_nil : DGsv K gNil dgNil vs := by
  refine ⟨fun M σ H env env' ds us hh r e Q k => ?_, fun ds env env' e => ?_⟩
  · cases ds with
    | cons d ds => cases e
    | nil =>
      cases e
      simp only [Reps] at r
      exact ⟨r, k σ .refl hh fun _ _ => rfl⟩
  · cases ds with
    | cons d ds => cases e
    | nil => cases e; exact fun _ _ => rfl
theorem dgv_cons {g : TG} {gs : TGs} {a : D → Ev → Option Ev} {b : List D → Ev → Option Ev} (ha : DGv K g a vs) (hb : DGsv K gs b vs) : DGsv K (gCons g gs) (dgCons a b) vs := by
  refine ⟨fun M σ H env env' ds us hh r e Q k => ?_, fun ds env env' e => ?_⟩
  · cases ds with
    | nil => cases e
    | cons d ds =>
      simp only [Reps] at r
      obtain ⟨v, r', rfl, h1, h2⟩ := r
      obtain ⟨env1, e1, e2⟩ := Option.bind_eq_some_iff.mp (show (a d env).bind (b ds) = some env' from e)
      exact ⟨v, r', rfl, ha.1 M σ H env env1 d v hh h1 e1 _ fun σ1 g1 hh1 k1 => hb.1 M σ1 H env1 env' ds r' hh1 h2 e2 _ fun σ2 g2 hh2 k2 => k σ2 (g1.trans hh g2) hh2 fun i hi => (k2 i hi).trans (k1 i hi)⟩
  · cases ds with
    | nil => cases e
    | cons d ds =>
      obtain ⟨env1, e1, e2⟩ := Option.bind_eq_some_iff.mp (show (a d env).bind (b ds) = some env' from e)
      exact fun i hi => (hb.2 _ _ _ e2 i hi).trans (ha.2 _ _ _ e1 i hi)
theorem dgv_tup {gs : TGs} {a : List D → Ev → Option Ev} {n : Nat} (ha : DGsv K gs a vs) : DGv K (gTup K n gs) (dgTup n a) vs := by
  refine ⟨fun M σ H env env' d v hh r e Q k => ?_, fun d env env' e => ?_⟩
  · cases d with
    | tup xs =>
      have e' : (if xs.length = n then a xs env else none) = some env' := e
      by_cases hn : xs.length = n
      · rw [if_pos hn] at e'
        simp only [Rep] at r
        obtain ⟨b, us, rfl, h1, h2⟩ := r
        exact ⟨b, us, rfl, sqT_mono hh.ex h1.t, by rw [← h2.length]; exact hn, ha.1 M σ H env env' xs us hh h2 e' Q k⟩
      · rw [if_neg hn] at e'
        cases e'
    | tupW xs =>
      have e' : (if xs.length = n then a xs env else none) = some env' := e
      by_cases hn : xs.length = n
      · rw [if_pos hn] at e'
        simp only [Rep] at r
        obtain ⟨b, us, rfl, h1, h2⟩ := r
        exact ⟨b, us, rfl, sqT_mono hh.ex h1, by rw [← h2.length]; exact hn, ha.1 M σ H env env' xs us hh h2 e' Q k⟩
      · rw [if_neg hn] at e'
        cases e'
    | _ => cases e
  · cases d with
    | tup xs =>
      have e' : (if xs.length = n then a xs env else none) = some env' := e
      by_cases hn : xs.length = n
      · rw [if_pos hn] at e'
        exact ha.2 _ _ _ e'
      · rw [if_neg hn] at e'
        cases e'
    | tupW xs =>
      have e' : (if xs.length = n then a xs env else none) = some env' := e
      by_cases hn : xs.length = n
      · rw [if_pos hn] at e'
        exact ha.2 _ _ _ e'
      · rw [if_neg hn] at e'
        cases e'
    | _ => cases e
theorem wipe_get : ∀ (vs : List Nat) (i : Nat), (wipe σ vs)[i]? = if i ∈ vs then (if i < σ.length then some none else none) else σ[i]?
  | [], i => by simp [wipe]
  | v :: vs, i => by
    show ((wipe σ vs).set v none)[i]? = _
    by_cases h : i = v
    · subst h
      rw [if_pos (by simp), List.getElem?_set]
      simp only [if_true, wipe_length]
    · rw [List.getElem?_set_ne (Ne.symm h), wipe_get vs i]
      simp [h]
theorem wipeE_len : ∀ vs : List Nat, (wipeE env vs).length = env.length
  | [] => rfl
  | v :: vs => by show ((wipeE env vs).set v .no).length = _; rw [List.length_set, wipeE_len vs]
theorem restE_len : ∀ vs : List Nat, (restE e1 e vs).length = e.length
  | [] => rfl
  | v :: vs => by show ((restE e1 e vs).set v _).length = _; rw [List.length_set, restE_len vs]
theorem wipeE_get : ∀ (vs : List Nat) (i : Nat), (wipeE env vs)[i]? = if i ∈ vs then (if i < env.length then some .no else none) else env[i]?
  | [], i => by simp [wipeE]
  | v :: vs, i => by
    show ((wipeE env vs).set v .no)[i]? = _
    by_cases h : i = v
    · subst h
      rw [if_pos (by simp), List.getElem?_set]
      simp only [if_true, wipeE_len]
    · rw [List.getElem?_set_ne (Ne.symm h), wipeE_get vs i]
      simp [h]
theorem restE_get : ∀ (vs : List Nat) (i : Nat), (restE e1 e vs)[i]? = if i ∈ vs then (if i < e.length then some (e1.getD i .no) else none) else e[i]?
  | [], i => by simp [restE]
  | v :: vs, i => by
    show ((restE e1 e vs).set v _)[i]? = _
    by_cases h : i = v
    · subst h
      rw [if_pos (by simp), List.getElem?_set]
      simp only [if_true, restE_len]
    · rw [List.getElem?_set_ne (Ne.symm h), restE_get vs i]
      simp [h]
theorem wipe_eq (h : ∀ i, i ∉ vs → σ'[i]? = σ[i]?) (hl : σ'.length = σ.length) : wipe σ' vs = wipe σ vs := by
  apply List.ext_getElem?
  intro i
  rw [wipe_get, wipe_get, hl]
  by_cases hi : i ∈ vs
  · rw [if_pos hi, if_pos hi]
  · rw [if_neg hi, if_neg hi, h i hi]
/-- the block's slots taken out -/
theorem wipe_holds (hh : Holds K M env σ' H) (h : ∀ i, i ∉ vs → σ[i]? = σ'[i]?) (hl : σ.length = σ'.length) : Holds K M (wipeE env vs) (wipe σ vs) H where
  ex := hh.ex
  len := by rw [wipe_length, wipeE_len, hl]; exact hh.len
  slot := fun i s q => by
    rw [wipeE_get] at q
    rw [wipe_get]
    by_cases hi : i ∈ vs
    · rw [if_pos hi] at q
      split at q
      · cases q; trivial
      · cases q
    · rw [if_neg hi] at q ⊢
      rw [h i hi]
      exact hh.slot i s q
  dj := fun i j l p o p' o' hij q1 q2 q3 q4 => by
    have f : ∀ (i : Nat) (p : Bool) (o : OD), (wipeE env vs)[i]? = some (Sl.ow p o) → i ∉ vs ∧ env[i]? = some (Sl.ow p o) := fun i p o q => by
      rw [wipeE_get] at q
      by_cases hi : i ∈ vs
      · rw [if_pos hi] at q
        split at q <;> cases q
      · rw [if_neg hi] at q
        exact ⟨hi, q⟩
    obtain ⟨a1, a2⟩ := f i p o q1
    obtain ⟨b1, b2⟩ := f j p' o' q2
    rw [wipe_get, if_neg a1, h i a1] at q3
    rw [wipe_get, if_neg b1, h j b1] at q4
    exact hh.dj i j l p o p' o' hij a2 b2 q3 q4
theorem wipe_own (h : ∀ i, i ∉ vs → σ[i]? = σ'[i]?) {l : Addr} : Own (wipeE env vs) (wipe σ vs) l → Own env σ' l := fun ⟨i, p, o, q1, q2⟩ => by
  rw [wipeE_get] at q1
  by_cases hi : i ∈ vs
  · rw [if_pos hi] at q1
    split at q1 <;> cases q1
  · rw [if_neg hi] at q1
    rw [wipe_get, if_neg hi, h i hi] at q2
    exact ⟨i, p, o, q1, q2⟩
/-- an object that nobody knows of is changed -/
theorem upd_holds {p : Addr} {o : HO} (hh : Holds K M env σ H) (m : M p = none) (n : ¬ Own env σ p) : Holds K M env σ (upd H p o) where
  ex := fun a u q => by
    have : a ≠ p := fun z => by subst z; rw [m] at q; cases q
    rw [upd_ne this]
    exact hh.ex a u q
  len := hh.len
  slot := fun i s q => by
    have := hh.slot i s q
    cases s with
    | no => trivial
    | hid => trivial
    | im d => exact this
    | ow pn od =>
      obtain ⟨l, e1, a, m2⟩ := this
      have : l ≠ p := fun z => n ⟨i, pn, od, q, z ▸ e1⟩
      exact ⟨l, e1, a.mono (Same.refl M) fun u z => by rw [upd_ne this]; exact z, m2⟩
  dj := hh.dj
theorem upd_grow {p : Addr} {o : HO} (g : Grow M env σ H M' env' σ' H') (h : H p = none) : Grow M env σ H M' env' σ' (upd H' p o) where
  exM := g.exM
  fr := fun l u q n => by
    have : l ≠ p := fun z => by subst z; rw [h] at q; cases q
    rw [upd_ne this]
    exact g.fr l u q n
  new := g.new
  own := g.own
  pin := g.pin
  dom := fun l q => by
    by_cases z : l = p
    · exact z ▸ h
    · rw [upd_ne z] at q; exact g.dom l q
  len := g.len
abbrev WF : WS := fun _ _ _ _ => False
/-- ahead of and behind the block -/
theorem rest_ok (hh : Holds K M env σ H) (hf : vs.all (freeSl env) = true) (g : Grow M (wipeE env vs) (wipe σ vs) H M' e (wipe σ vs) H') (hs : Shape (wipeE env vs) e) (hh' : Holds K M' e (wipe σ vs) H') :
    Grow M env σ H M' (restE env e vs) σ H' ∧ Shape env (restE env e vs) ∧ Holds K M' (restE env e vs) σ H' ∧ ∀ l, Own (restE env e vs) σ l → Own e (wipe σ vs) l := by
  have hl : e.length = env.length := by rw [g.len, wipeE_len]
  have fr : ∀ i, i ∈ vs → freeSl env i = true := fun i hi => List.all_eq_true.mp hf i hi
  have own1 : ∀ l, Own (restE env e vs) σ l → Own e (wipe σ vs) l := fun l ⟨i, p, o, q1, q2⟩ => by
    rw [restE_get] at q1
    by_cases hi : i ∈ vs
    · rw [if_pos hi] at q1
      split at q1
      · rename_i hlt
        have := fr i hi
        unfold freeSl at this
        rw [List.getD_eq_getElem?_getD] at q1
        cases q : env[i]? with
        | none => rw [q] at this; cases this
        | some s =>
          rw [q] at this q1
          cases q1
          cases this
      · cases q1
    · rw [if_neg hi] at q1
      exact ⟨i, p, o, q1, by rw [wipe_get, if_neg hi]; exact q2⟩
  have own2 : ∀ l, Own (wipeE env vs) (wipe σ vs) l → Own env σ l := fun l z => wipe_own (fun _ _ => rfl) z
  have shp : Shape env (restE env e vs) := by
    show (restE env e vs).map Sl.kind = env.map Sl.kind
    apply List.ext_getElem?
    intro i
    rw [List.getElem?_map, List.getElem?_map, restE_get]
    by_cases hi : i ∈ vs
    · rw [if_pos hi, hl]
      by_cases hlt : i < env.length
      · rw [if_pos hlt, List.getD_eq_getElem?_getD, List.getElem?_eq_getElem hlt]
        rfl
      · rw [if_neg hlt, List.getElem?_eq_none (by omega)]
    · rw [if_neg hi]
      have := congrArg (fun l => l[i]?) (show e.map Sl.kind = (wipeE env vs).map Sl.kind from hs)
      simp only [List.getElem?_map] at this
      rw [this, wipeE_get, if_neg hi]
  refine ⟨⟨g.exM, fun l u q n => g.fr l u q fun z => n (own2 l z), fun l u q => (g.new l u q).imp id (Or.imp id (own2 l)), fun l z => ?_, fun i s q pn => ⟨rfl, ?_⟩, g.dom, by rw [restE_len, hl]⟩, shp, ⟨hh'.ex, by rw [restE_len, hl]; exact hh.len, fun i s q => ?_, fun i j l p o p' o' hij q1 q2 q3 q4 => ?_⟩, own1⟩
  · rcases g.own l (own1 l z) with q | q
    · exact .inl (own2 l q)
    · exact .inr q
  · have := congrArg (fun l => l[i]?) (show (restE env e vs).map Sl.kind = env.map Sl.kind from shp)
    simp only [List.getElem?_map] at this
    rw [q] at this
    obtain ⟨s', e1, e2⟩ := Option.map_eq_some_iff.mp this
    exact ⟨s', e1, e2⟩
  · rw [restE_get] at q
    by_cases hi : i ∈ vs
    · rw [if_pos hi] at q
      split at q
      · rename_i hlt
        have := fr i hi
        unfold freeSl at this
        rw [List.getD_eq_getElem?_getD] at q
        cases q0 : env[i]? with
        | none => rw [q0] at this; cases this
        | some s0 =>
          rw [q0] at this q
          cases q
          cases s0 with
          | no => trivial
          | im d =>
            obtain ⟨u, e1, e2⟩ := hh.slot i _ q0
            exact ⟨u, e1, Rep.mono g.exM _ _ e2⟩
          | ow _ _ => cases this
          | hid => cases this
      · cases q
    · rw [if_neg hi] at q
      have := hh'.slot i s q
      rw [wipe_get, if_neg hi] at this
      exact this
  · have f : ∀ (i : Nat) (p : Bool) (o : OD), (restE env e vs)[i]? = some (Sl.ow p o) → i ∉ vs ∧ e[i]? = some (Sl.ow p o) := fun i p o q => by
      rw [restE_get] at q
      by_cases hi : i ∈ vs
      · rw [if_pos hi] at q
        split at q
        · have := fr i hi
          unfold freeSl at this
          rw [List.getD_eq_getElem?_getD] at q
          cases q0 : env[i]? with
          | none => rw [q0] at this; cases this
          | some s0 =>
            rw [q0] at this q
            cases q
            cases this
        · cases q
      · rw [if_neg hi] at q
        exact ⟨hi, q⟩
    obtain ⟨a1, a2⟩ := f i p o q1
    obtain ⟨b1, b2⟩ := f j p' o' q2
    exact hh'.dj i j l p o p' o' hij a2 b2 (by rw [wipe_get, if_neg a1]; exact q3) (by rw [wipe_get, if_neg b1]; exact q4)
/-- the block's turns -/
theorem lc_go {J : It} {as : List Addr} {xs : List D} {g : TG} {dg : D → Ev → Option Ev} (hg : DGv K g dg vs) (ht : DT K WF tt dt) (he : DE K WF te de) (hh : Holds K M env (wipe σ vs) H) (hi : ItOk K J as M H xs) (hn : ∀ a ∈ as, ¬ Own env (wipe σ vs) a ∧ ∃ o, H a = some o)
    {ds : List D} {e : Ev} (hr : lcGo dg dt de vs xs env [] = .ok ds e) (Q : VK) (k : ∀ (D : Addr) (M' H' : Hp), H D = none → Grow M env (wipe σ vs) H M' e (wipe σ vs) H' → Shape env e → Holds K M' e (wipe σ vs) H' → At K M' H' D (.lst ds) → M' D = none → ¬ Own e (wipe σ vs) D → Q (.ref D) H') (hw : wipeE env vs = env) :
    ∀ D, H D = none → ∃ Wd : Nat → Nat → Hp → Prop, (∃ m, Wd 0 m (upd H D (.lst []))) ∧ ∀ i m H, Wd i m H →
      (J.stop i H ∧ Q (.ref D) H) ∨ (J.go i H ∧ ∃ Nx : Hp → Prop, (∀ H', Nx H' → ∃ m', m' < m ∧ Wd (i + 1) m' H') ∧ ∀ x H', J.yld i H x H' → g x (wipe σ vs) H' fun σ2 H2 => wipe σ2 vs = wipe σ vs ∧ tt σ2 H2 fun b H3 =>
        if b = true then te σ2 H3 fun y H4 => ∃ acc, H4 D = some (.lst acc) ∧ acc.length < sizeLine ∧ Nx (upd H4 D (.lst (acc ++ [y]))) else Nx H3) := by
  intro D hD
  have noD : ¬ Own env (wipe σ vs) D := fun z => by
    obtain ⟨u, q⟩ := hh.ownSome z
    rw [hD] at q; cases q
  have mD : M D = none := hh.ex.free hD
  refine ⟨fun i m H' => m = xs.length - i ∧ i ≤ xs.length ∧ ∃ M' e' acc ws, lcGo dg dt de vs (xs.drop i) e' acc = .ok ds e ∧ Grow M env (wipe σ vs) H M' e' (wipe σ vs) H' ∧ Shape env e' ∧ Holds K M' e' (wipe σ vs) H' ∧ H' D = some (.lst ws) ∧ Reps K M' acc ws ∧ M' D = none ∧ ¬ Own e' (wipe σ vs) D ∧ wipeE e' vs = e',
    ⟨xs.length, by simp, Nat.zero_le _, M, env, [], [], hr, upd_grow .refl hD, .refl _, upd_holds hh mD noD, upd_same, Reps.nil, mD, noD, hw⟩, ?_⟩
  rintro i m H1 ⟨rfl, hi1, M1, e1, acc, ws, f1, g1, s1, hh1, hD1, rA, mD1, noD1, hw1⟩
  have src : ∀ a ∈ as, ∀ o, H a = some o → H1 a = some o := fun a ha o q => g1.fr a o q (hn a ha).1
  cases q : xs[i]? with
  | none =>
    have hl : i = xs.length := by
      have := List.getElem?_eq_none_iff.mp q
      omega
    subst hl
    rw [List.drop_length] at f1
    have f2 : RE.ok acc e1 = RE.ok ds e := f1
    cases f2
    exact .inl ⟨hi.stop M1 H1 g1.exM hh1.ex src, k D M1 H1 hD g1 s1 hh1 ⟨ws, hD1, rA⟩ mD1 noD1⟩
  | some d =>
    obtain ⟨go, yl⟩ := hi.go M1 H1 i d q g1.exM hh1.ex src
    have hlt : i < xs.length := (List.getElem?_eq_some_iff.mp q).1
    have hd : xs.drop i = d :: xs.drop (i + 1) := by
      rw [List.drop_eq_getElem_cons hlt]
      rw [List.getElem?_eq_getElem hlt] at q
      cases q
      rfl
    rw [hd] at f1
    refine .inr ⟨go, fun H' => ∃ M' e' acc ws, lcGo dg dt de vs (xs.drop (i + 1)) e' acc = .ok ds e ∧ Grow M env (wipe σ vs) H M' e' (wipe σ vs) H' ∧ Shape env e' ∧ Holds K M' e' (wipe σ vs) H' ∧ H' D = some (.lst ws) ∧ Reps K M' acc ws ∧ M' D = none ∧ ¬ Own e' (wipe σ vs) D ∧ wipeE e' vs = e', fun H' h => ⟨xs.length - (i + 1), by omega, rfl, hlt, h⟩, fun w H2 hy => ?_⟩
    obtain ⟨M2, ex, rp⟩ := yl w H2 hy
    have hh2 := ex.holds hh1
    cases q1 : dg d e1 with
    | none =>
      exfalso
      have : (match dg d e1 with
        | none => (RE.bad : RE (List Dn.D))
        | some e2 => match dt e2 with
          | .ok true e3 => match de e3 with
            | .ok y e4 => match frz y with
              | some d => if fit (acc.length + 1) then lcGo dg dt de vs (xs.drop (i + 1)) (wipeE e4 vs) (acc ++ [d]) else .bad
              | none => .bad
            | _ => .bad
          | .ok false e3 => lcGo dg dt de vs (xs.drop (i + 1)) (wipeE e3 vs) acc
          | _ => .bad) = RE.ok ds e := f1
      rw [q1] at this
      cases this
    | some e2 =>
      have f2 : (match dt e2 with
          | .ok true e3 => match de e3 with
            | .ok y e4 => match frz y with
              | some d => if fit (acc.length + 1) then lcGo dg dt de vs (xs.drop (i + 1)) (wipeE e4 vs) (acc ++ [d]) else .bad
              | none => .bad
            | _ => .bad
          | .ok false e3 => lcGo dg dt de vs (xs.drop (i + 1)) (wipeE e3 vs) acc
          | _ => .bad) = RE.ok ds e := by
        have : (match dg d e1 with
          | none => (RE.bad : RE (List Dn.D))
          | some e2 => match dt e2 with
            | .ok true e3 => match de e3 with
              | .ok y e4 => match frz y with
                | some d => if fit (acc.length + 1) then lcGo dg dt de vs (xs.drop (i + 1)) (wipeE e4 vs) (acc ++ [d]) else .bad
                | none => .bad
              | _ => .bad
            | .ok false e3 => lcGo dg dt de vs (xs.drop (i + 1)) (wipeE e3 vs) acc
            | _ => .bad) = RE.ok ds e := f1
        rw [q1] at this
        exact this
      have out := hg.2 d e1 e2 q1
      refine hg.1 M2 (wipe σ vs) H2 e1 e2 d w hh2 rp q1 _ fun σ3 g3 hh3 ko => ?_
      have hl3 : σ3.length = σ.length := by
        have h1 := hh3.len
        have h2 := hh2.len
        have h3 := g3.len
        have h4 := wipe_length σ vs
        omega
      have ko' : ∀ i, i ∉ vs → σ3[i]? = σ[i]? := fun i hi => by rw [ko i hi, wipe_get, if_neg hi]
      refine ⟨wipe_eq ko' hl3, ?_⟩
      -- the state of the turn against the block's
      have g4 : Grow M1 e1 (wipe σ vs) H1 M2 e2 σ3 H2 := (ex.grow hh1).trans hh1 g3
      have hD2 : H2 D = some (.lst ws) := ex.exH _ _ hD1
      have mD2 : M2 D = none := by
        cases z : M2 D with
        | none => rfl
        | some u =>
          rcases ex.new D u z with w | w
          · rw [mD1] at w; cases w
          · rw [hD1] at w; cases w
      have noD2 : ¬ Own e2 σ3 D := fun z => by
        rcases g3.own D z with w | w
        · exact noD1 w
        · rw [hD2] at w; cases w
      -- back to the block's own slots
      have back : ∀ {Mx Hx : Hp} {ex : Ev}, Grow M1 e1 (wipe σ vs) H1 Mx ex σ3 Hx → Shape e2 ex → Holds K Mx ex σ3 Hx → Grow M1 e1 (wipe σ vs) H1 Mx (wipeE ex vs) (wipe σ vs) Hx ∧ Shape e1 (wipeE ex vs) ∧ Holds K Mx (wipeE ex vs) (wipe σ vs) Hx ∧ (∀ l, Own (wipeE ex vs) (wipe σ vs) l → Own ex σ3 l) := fun {Mx Hx ex} gx sx hx => by
        have ow : ∀ l, Own (wipeE ex vs) (wipe σ vs) l → Own ex σ3 l := fun l z => wipe_own (fun i hi => (ko' i hi).symm) z
        have sh : Shape e1 (wipeE ex vs) := by
          show (wipeE ex vs).map Sl.kind = e1.map Sl.kind
          apply List.ext_getElem?
          intro i
          rw [List.getElem?_map, List.getElem?_map, wipeE_get]
          by_cases hi : i ∈ vs
          · rw [if_pos hi]
            have h1 : e1[i]? = if i < e1.length then some .no else none := by
              have := wipeE_get (env := e1) vs i
              rw [hw1, if_pos hi] at this
              exact this
            have h2 : ex.length = e1.length := gx.len
            rw [h1, h2]
          · rw [if_neg hi]
            have := congrArg (fun l => l[i]?) (show ex.map Sl.kind = e2.map Sl.kind from sx)
            simp only [List.getElem?_map] at this
            rw [this, out i hi]
        refine ⟨⟨gx.exM, gx.fr, gx.new, fun l z => gx.own l (ow l z), fun i s q pn => ⟨rfl, ?_⟩, gx.dom, by rw [wipeE_len, gx.len]⟩, sh, wipe_holds hx (fun i hi => (ko' i hi).symm) hl3.symm, ow⟩
        have := congrArg (fun l => l[i]?) (show (wipeE ex vs).map Sl.kind = e1.map Sl.kind from sh)
        simp only [List.getElem?_map] at this
        rw [q] at this
        obtain ⟨s', e1, e2⟩ := Option.map_eq_some_iff.mp this
        exact ⟨s', e1, e2⟩
      have idem : ∀ ex : Ev, wipeE (wipeE ex vs) vs = wipeE ex vs := fun ex => by
        apply List.ext_getElem?
        intro i
        rw [wipeE_get, wipeE_len, wipeE_get]
        by_cases hi : i ∈ vs
        · rw [if_pos hi, if_pos hi]
        · rw [if_neg hi, if_neg hi]
      have h5 := ht M2 σ3 H2 e2 hh3
      cases q2 : dt e2 with
      | bad => rw [q2] at f2; cases f2
      | exc _ _ => rw [q2] at f2; cases f2
      | ok b e3 =>
        rw [q2] at f2 h5
        refine h5 _ fun b' M3 H3 g5 s5 hh5 eb => ?_
        cases (show b = b' from eb)
        have hD3 : H3 D = some (.lst ws) := g5.fr D _ hD2 noD2
        have noD3 : ¬ Own e3 σ3 D := fun z => noD2 (own_shape s5 z)
        have mD3 : M3 D = none := by
          cases z : M3 D with
          | none => rfl
          | some u =>
            rcases g5.new D u z with w | w | w
            · rw [mD2] at w; cases w
            · rw [hD2] at w; cases w
            · exact (noD2 w).elim
        have g6 := g4.trans hh1 g5
        cases b with
        | false =>
          rw [if_neg (by decide)]
          obtain ⟨a1, a2, a3, a4⟩ := back g6 s5 hh5
          exact ⟨M3, wipeE e3 vs, acc, ws, f2, g1.trans hh a1, s1.trans a2, a3, hD3, Reps.mono (g4.exM.trans g5.exM) _ _ rA, mD3, fun z => noD3 (a4 D z), idem _⟩
        | true =>
          rw [if_pos rfl]
          have f3 : (match de e3 with
            | .ok y e4 => match frz y with
              | some d => if fit (acc.length + 1) then lcGo dg dt de vs (xs.drop (i + 1)) (wipeE e4 vs) (acc ++ [d]) else .bad
              | none => .bad
            | _ => .bad) = RE.ok ds e := f2
          have h6 := he M3 σ3 H3 e3 hh5
          cases q3 : de e3 with
          | bad => rw [q3] at f3; cases f3
          | exc _ _ => rw [q3] at f3; cases f3
          | ok y e4 =>
            rw [q3] at f3 h6
            have f4 : (match frz y with
              | some d => if fit (acc.length + 1) then lcGo dg dt de vs (xs.drop (i + 1)) (wipeE e4 vs) (acc ++ [d]) else .bad
              | none => .bad) = RE.ok ds e := f3
            cases q4 : frz y with
            | none => rw [q4] at f4; cases f4
            | some d' =>
              rw [q4] at f4
              have f5 : (if fit (acc.length + 1) then lcGo dg dt de vs (xs.drop (i + 1)) (wipeE e4 vs) (acc ++ [d']) else .bad) = RE.ok ds e := f4
              cases q5 : fit (acc.length + 1) with
              | false => rw [q5, if_neg (by decide)] at f5; cases f5
              | true =>
                rw [q5, if_pos rfl] at f5
                refine h6 _ fun w' M4 H4 g7 s7 hh7 r7 => ?_
                have rd := frz_rep r7 q4
                have g8 := frzM_grow g7
                have hh8 := frzM_holds (H := H3) hh7
                have hD4 : H4 D = some (.lst ws) := g7.fr D _ hD3 noD3
                have noD4 : ¬ Own e4 σ3 D := fun z => noD3 (own_shape s7 z)
                have mD4 : frzM M4 H3 H4 e4 σ3 D = none := by
                  cases z : frzM M4 H3 H4 e4 σ3 D with
                  | none => rfl
                  | some u =>
                    rcases g8.new D u z with w | w | w
                    · rw [mD3] at w; cases w
                    · rw [hD3] at w; cases w
                    · exact (noD3 w).elim
                have g9 := g6.trans hh1 g8
                obtain ⟨a1, a2, a3, a4⟩ := back g9 (s5.trans s7) hh8
                have noD5 : ¬ Own (wipeE e4 vs) (wipe σ vs) D := fun z => noD4 (a4 D z)
                have hlen := rA.length
                refine ⟨ws, hD4, by have := fit_ok q5; omega, _, wipeE e4 vs, acc ++ [d'], ws ++ [w'], f5, upd_grow (g1.trans hh a1) hD, s1.trans a2, upd_holds a3 mD4 noD5, upd_same, ?_, mD4, noD5, idem _⟩
                exact (Reps.mono ((g4.exM.trans g5.exM).trans g8.exM) _ _ rA).append (Reps.cons rd Reps.nil)
theorem de_lc {wi : TI} {di : Ev → RE Its} {g : TG} {dg : D → Ev → Option Ev} (hi : DI K W wi di) (hg : DGv K g dg vs) (ht : DT K WF tt dt) (he : DE K WF te de) : DE K W (tLc wi g tt te vs) (dLc di dg dt de vs) := fun M σ H env hh => by
  refine Sat.bind (c := fun (J : It) H1 Q => ∀ D, H1 D = none → ∃ W : Nat → Nat → Hp → Prop, (∃ m, W 0 m (upd H1 D (.lst []))) ∧ ∀ i m H, W i m H →
      (J.stop i H ∧ Q (.ref D) H) ∨ (J.go i H ∧ ∃ Nx : Hp → Prop, (∀ H', Nx H' → ∃ m', m' < m ∧ W (i + 1) m' H') ∧ ∀ x H', J.yld i H x H' → g x (wipe σ vs) H' fun σ2 H2 => wipe σ2 vs = wipe σ vs ∧ tt σ2 H2 fun b H3 =>
        if b = true then te σ2 H3 fun y H4 => ∃ acc, H4 D = some (.lst acc) ∧ acc.length < sizeLine ∧ Nx (upd H4 D (.lst (acc ++ [y]))) else Nx H3)) back_x hh (hi M σ H env hh) (fun Q q => q) fun M1 H1 env1 xh J g1 s1 hh1 r => ?_
  obtain ⟨xs, h⟩ := xh
  obtain ⟨as, hn, io, hs⟩ := r
  by_cases hf : vs.all (freeSl (hideE h env1)) = true
  · rw [if_pos hf]
    cases q : lcGo dg dt de vs xs (wipeE (hideE h env1) vs) [] with
    | bad => trivial
    | exc _ _ => trivial
    | ok ds e =>
      refine fun Q k => ?_
      have hhh : Holds K M1 (hideE h env1) σ H1 := by
        cases h with
        | none => exact hh1
        | some j => exact hide_holds hh1
      have hin : Holds K M1 (wipeE (hideE h env1) vs) (wipe σ vs) H1 := wipe_holds hhh (fun _ _ => rfl) rfl
      refine lc_go hg ht he hin io (fun a ha => ⟨fun z => (hn a ha).1 (wipe_own (fun _ _ => rfl) z), (hn a ha).2⟩) q Q (fun D M' H' hD g2 s2 hh2 at2 m2 no2 => ?_) ?_
      · obtain ⟨a1, a2, a3, a4⟩ := rest_ok hhh hf g2 s2 hh2
        have noD : ¬ Own (restE (hideE h env1) e vs) σ D := fun z => no2 (a4 D z)
        have rx : RX K σ H1 M' H' (restE (hideE h env1) e vs) (.ow (.lst ds)) (.ref D) := ⟨⟨D, rfl, at2, m2, noD⟩, fun o _ l z => by cases z; exact hD⟩
        cases h with
        | none => exact k _ M' H' a1 a2 a3 rx
        | some j =>
          obtain ⟨p, o, ej⟩ := hs j rfl
          have eg : env1.getD j .no = .ow p o := by rw [List.getD_eq_getElem?_getD, ej]; rfl
          obtain ⟨b1, b2, b3⟩ := unhide_ok hh1 ej a1 a3
          show Q _ _
          have hj : j < env1.length := (List.getElem?_eq_some_iff.mp ej).1
          have shp : Shape env1 ((restE (env1.set j .hid) e vs).set j (.ow p o)) := by
            show List.map Sl.kind ((restE (env1.set j .hid) e vs).set j (.ow p o)) = env1.map Sl.kind
            apply List.ext_getElem?
            intro i
            rw [List.getElem?_map, List.getElem?_map]
            by_cases hij : i = j
            · subst hij
              rw [List.getElem?_set_self (by have hq := a1.len; simp only [hideE, List.length_set] at hq ⊢; omega), ej]
              try rfl
            · rw [List.getElem?_set_ne (Ne.symm hij)]
              have := congrArg (fun l => l[i]?) (show (restE (env1.set j .hid) e vs).map Sl.kind = (env1.set j .hid).map Sl.kind from a2)
              simp only [List.getElem?_map] at this
              rw [this, List.getElem?_set_ne (Ne.symm hij)]
          refine k _ M' H' (by show Grow M1 env1 σ H1 M' ((restE (env1.set j .hid) e vs).set j (env1.getD j .no)) σ H'; rw [eg]; exact b1) (by show Shape env1 ((restE (env1.set j .hid) e vs).set j (env1.getD j .no)); rw [eg]; exact shp) (by show Holds K M' ((restE (env1.set j .hid) e vs).set j (env1.getD j .no)) σ H'; rw [eg]; exact b2) (by show RX K σ H1 M' H' ((restE (env1.set j .hid) e vs).set j (env1.getD j .no)) _ _; rw [eg]; exact b3 _ _ (fun i z => nomatch z) rx)
      · apply List.ext_getElem?
        intro i
        rw [wipeE_get, wipeE_len, wipeE_get]
        by_cases hi : i ∈ vs
        · rw [if_pos hi, if_pos hi]
        · rw [if_neg hi, if_neg hi]
  · rw [if_neg hf]
    trivial
theorem dt_yes : DT K W tYes (fun env => .ok true env) := fun M σ H env hh Q k => k true M H .refl (.refl _) hh rfl
end
end Dn

namespace Dn
open PySem PySem.Spec PyProof.Rows L2
/-! ### what is walked: ranges, lists, tuples, texts -/
def ofX (env : Ev) : X → Option Dn.Its
  | .im (.lst xs) => some (xs, none)
  | .im (.tup xs) => some (xs, none)
  | .im (.tupW xs) => some (xs, none)
  | .im (.scr ns) => some (ns.map D.int, none)
  | .im (.str z) => some (z.cps.toList.map fun c => D.str ⟨#[c]⟩, none)
  | .ow (.lst xs) => some (xs, none)
  | .sl j => match env[j]? with
    | some (.ow _ (.lst xs)) => some (xs, some j)
    | _ => none
  | _ => none
def diSeq (de : Ev → RE X) : Ev → RE Dn.Its := fun env => (de env).bind fun x e1 => opt (ofX e1 x) e1
/-- an end of a range -/
def rgOk (j : Int) : Bool := decide (j.natAbs.log2 < 62)
theorem rgOk_ok {j : Int} (h : rgOk j = true) : j < 2 ^ 62 ∧ -(2 ^ 62) ≤ j := by
  have h1 : j.natAbs.log2 < 62 := of_decide_eq_true h
  by_cases z : j.natAbs = 0
  · omega
  · have h2 := (Nat.log2_lt z).mp h1
    omega
def rgD (lo : Int) (n : Nat) : List D := (List.range n).map fun i : Nat => D.int (lo + (i : Int))
def diR1 (da : Ev → RE (List X)) : Ev → RE Dn.Its := fun env => (da env).bind fun xs e1 => match rds e1 xs with
  | some [.int j] => if rgOk j = true then .ok (rgD 0 j.toNat, none) e1 else .bad
  | _ => .bad
def diR2 (da : Ev → RE (List X)) : Ev → RE Dn.Its := fun env => (da env).bind fun xs e1 => match rds e1 xs with
  | some [.int i, .int j] => if rgOk i = true ∧ rgOk j = true then .ok (rgD i (j - i).toNat, none) e1 else .bad
  | _ => .bad
/-- over a list, a tuple, a text -/
def iSeq (K : Fg) (te : TE) : TI := fun σ H R => te σ H fun x H1 => (∃ a xs, x = V.ref a ∧ SqL K H1 a xs ∧ R (Itl K a) H1) ∨ (∃ a xs, x = V.ref a ∧ SqT K H1 a xs ∧ R (Itt K a) H1) ∨ ∃ z, x = V.str z ∧ R (L2.Its z) H1
theorem pi_seq {X : Cx} {tg e : Expr} {te : TE} (he : PE X e te) : PI X tg e (iSeq X.K te) := by
  refine ⟨fun pins s σ H R I h => ?_⟩
  refine thn (he.run pins s σ H _ I h) fun v s1 ⟨y, H1, I1, r1, q1⟩ => ?_
  rcases q1 with ⟨a, xs, rfl, hq, q⟩ | ⟨a, xs, rfl, hq, q⟩ | ⟨x, rfl, q⟩
  · cases r1
    obtain ⟨its, rv, p, hz⟩ := I1.list hq
    refine wpAny_pyIter_list p.isList ?_
    refine ⟨s1.heap.objs.size, [s1.heap.objs.size], _, _, H1, rfl, I1.kept (t' := s1.toks) fun b o e => Heap.get?_push_of_some _ e, turn_list a _, ⟨_, Heap.get?_push_size _ rfl, rfl, rfl⟩, fun b hb => ?_, q⟩
    have e : b = s1.heap.objs.size := by simpa using hb
    subst e
    exact I1.fpOk (Nat.le_refl _) (I1.hok.fresh (Nat.le_refl _))
  · cases r1
    obtain ⟨its, rv, p, hz⟩ := I1.tuple hq
    refine wpAny_pyIter_tuple (show s1.heap.IsTuple a its.toArray from p) ?_
    refine ⟨s1.heap.objs.size, [s1.heap.objs.size], _, _, H1, rfl, I1.kept (t' := s1.toks) fun b o e => Heap.get?_push_of_some _ e, turn_tuple a _, ⟨_, Heap.get?_push_size _ rfl, rfl, rfl⟩, fun b hb => ?_, q⟩
    have e : b = s1.heap.objs.size := by simpa using hb
    subst e
    exact I1.fpOk (Nat.le_refl _) (I1.hok.fresh (Nat.le_refl _))
  · obtain ⟨t, rfl⟩ := r1
    cases ha : x.cps.all (· < 128)
    · exact wpAny_pyIter_wide ha (pi_one (tk := s1.toks) I1 _ (turn_str _ x t "str_iterator" (.inr rfl)) ⟨_, Heap.get?_push_size _ rfl, rfl, rfl⟩ q)
    · exact wpAny_pyIter_ascii ha (pi_one (tk := s1.toks) I1 _ (turn_str _ x t "str_ascii_iterator" (.inl rfl)) ⟨_, Heap.get?_push_size _ rfl, rfl, rfl⟩ q)
section
variable {K : Fg} [WD K] {W : WS} {M M' M1 M2 : Hp} {env env' env1 env2 : Ev} {σ σ' σ1 : L2.St} {H H' H1 H2 : Hp} {x y : X} {v u : V} {te : TE} {de : Ev → RE X} {ta : TA} {da : Ev → RE (List X)}
theorem it_seqL {a : Addr} {vs : List V} {xs : List D} {as : List Addr} (r : Reps K M xs vs) (src : ∀ M2 H2, Same M M2 → Same M2 H2 → (∀ b ∈ as, ∀ o, H b = some o → H2 b = some o) → SqL K H2 a vs) : ItOk K (Itl K a) as M H xs where
  go := fun M2 H2 i d q e1 e2 f => by
    obtain ⟨v, h1, h2⟩ := r.get q
    have s := src M2 H2 e1 e2 f
    refine ⟨⟨vs, v, s, h1⟩, fun w H3 hy => ?_⟩
    obtain ⟨rfl, hy⟩ := hy
    have e : w = v := Option.some.inj ((hy vs s).symm.trans h1)
    subst e
    exact ⟨M2, Ext.refl e2, Rep.mono e1 _ _ h2⟩
  stop := fun M2 H2 e1 e2 f => ⟨vs, src M2 H2 e1 e2 f, by rw [r.length]; exact Nat.le_refl _⟩
theorem it_seqT {a : Addr} {vs : List V} {xs : List D} (r : Reps K M xs vs) (h : SqT K M a vs) : ItOk K (Itt K a) [] M H xs where
  go := fun M2 H2 i d q e1 e2 f => by
    obtain ⟨v, h1, h2⟩ := r.get q
    have s : SqT K H2 a vs := sqT_mono (e1.trans e2) h
    refine ⟨⟨vs, v, s, h1⟩, fun w H3 hy => ?_⟩
    obtain ⟨rfl, hy⟩ := hy
    have e : w = v := Option.some.inj ((hy vs s).symm.trans h1)
    subst e
    exact ⟨M2, Ext.refl e2, Rep.mono e1 _ _ h2⟩
  stop := fun M2 H2 e1 e2 f => ⟨vs, sqT_mono (e1.trans e2) h, by rw [r.length]; exact Nat.le_refl _⟩
theorem it_str {z : Str} : ItOk K (L2.Its z) [] M H (z.cps.toList.map fun c => D.str ⟨#[c]⟩) where
  go := fun M2 H2 i d q e1 e2 f => by
    rw [List.getElem?_map] at q
    obtain ⟨c, h1, rfl⟩ := Option.map_eq_some_iff.mp q
    have h2 : z.cps[i]? = some c := by simpa using h1
    refine ⟨(Array.getElem?_eq_some_iff.mp h2).1, fun w H3 hy => ?_⟩
    obtain ⟨rfl, c', h3, rfl⟩ := hy
    rw [h2] at h3
    cases h3
    exact ⟨M2, Ext.refl e2, rep_str⟩
  stop := fun M2 H2 e1 e2 f => by show z.cps.size ≤ _; simp
theorem it_rg {lo : Int} {n : Nat} : ItOk K (Itr lo n) [] M H (rgD lo n) where
  go := fun M2 H2 i d q e1 e2 f => by
    unfold rgD at q
    rw [List.getElem?_map] at q
    obtain ⟨c, h1, rfl⟩ := Option.map_eq_some_iff.mp q
    have hi : i < n := by
      have := (List.getElem?_eq_some_iff.mp h1).1
      simpa using this
    have hc : c = i := by
      rw [List.getElem?_range hi] at h1
      exact (Option.some.inj h1).symm
    subst hc
    refine ⟨hi, fun w H3 hy => ?_⟩
    obtain ⟨rfl, rfl⟩ := hy
    exact ⟨M2, Ext.refl e2, rep_int⟩
  stop := fun M2 H2 e1 e2 f => by show n ≤ _; unfold rgD; simp
theorem reps_ints : ∀ ns : List Int, Reps K M (ns.map D.int) (ns.map V.int)
  | [] => Reps.nil
  | n :: ns => Reps.cons rep_int (reps_ints ns)
theorem ofX_sl {j : Nat} {p : Bool} {o : OD} (e : env[j]? = some (Sl.ow p o)) : ofX env (.sl j) = match o with
      | .lst xs => some (xs, some j)
      | _ => none := by
  unfold ofX
  simp only [e]
  cases o <;> rfl
theorem di_seq (h : DE K W te de) : DI K W (iSeq K te) (diSeq de) := fun M σ H env hh => by
  refine Sat.bind (c := fun v H1 (R : It → Hp → Prop) => (∃ a xs, v = V.ref a ∧ SqL K H1 a xs ∧ R (Itl K a) H1) ∨ (∃ a xs, v = V.ref a ∧ SqT K H1 a xs ∧ R (Itt K a) H1) ∨ ∃ z, v = V.str z ∧ R (L2.Its z) H1) back_i hh (h M σ H env hh) (fun Q q => q) fun M1 H1 env1 x v g1 s1 hh1 r1 => ?_
  obtain ⟨r, n⟩ := r1
  cases x with
  | im d =>
    cases d with
    | lst xs =>
      refine fun Q k => ?_
      simp only [RepX, Rep] at r
      obtain ⟨a, vs, rfl, h1, h2⟩ := r
      exact .inl ⟨a, vs, rfl, SqL.of (hh1.ex _ _ h1), k _ M1 H1 .refl (.refl _) hh1 ⟨[], (fun a z => nomatch z), it_seqL h2 fun M2 H2 e1 e2 f => SqL.of (e2 _ _ (e1 _ _ h1)), (fun j z => nomatch z)⟩⟩
    | tup xs =>
      refine fun Q k => ?_
      simp only [RepX, Rep] at r
      obtain ⟨a, vs, rfl, h1, h2⟩ := r
      exact .inr (.inl ⟨a, vs, rfl, sqT_mono hh1.ex h1.t, k _ M1 H1 .refl (.refl _) hh1 ⟨[], (fun a z => nomatch z), it_seqT h2 h1.t, (fun j z => nomatch z)⟩⟩)
    | tupW xs =>
      refine fun Q k => ?_
      simp only [RepX, Rep] at r
      obtain ⟨a, vs, rfl, h1, h2⟩ := r
      exact .inr (.inl ⟨a, vs, rfl, sqT_mono hh1.ex h1, k _ M1 H1 .refl (.refl _) hh1 ⟨[], (fun a z => nomatch z), it_seqT h2 h1, (fun j z => nomatch z)⟩⟩)
    | scr ns =>
      refine fun Q k => ?_
      simp only [RepX, Rep] at r
      obtain ⟨a, rfl, h1⟩ := r
      have rr : Reps K M1 (ns.map D.int) (ns.map V.int) := by
        exact reps_ints ns
      exact .inl ⟨a, _, rfl, hh1.ex.seq h1, k _ M1 H1 .refl (.refl _) hh1 ⟨[], (fun a z => nomatch z), it_seqL rr fun M2 H2 e1 e2 f => (e1.trans e2).seq h1, (fun j z => nomatch z)⟩⟩
    | str z =>
      refine fun Q k => ?_
      have hv : v = .str z := by simpa [RepX, Rep] using r
      exact .inr (.inr ⟨z, hv, k _ M1 H1 .refl (.refl _) hh1 ⟨[], (fun a z => nomatch z), it_str, (fun j z => nomatch z)⟩⟩)
    | non => trivial
    | bl _ => trivial
    | int _ => trivial
    | obj _ _ => trivial
    | ty _ => trivial
    | cls _ => trivial
    | exn _ _ => trivial
    | dk _ => trivial
    | dt _ => trivial
  | ow o =>
    cases o with
    | lst xs =>
      refine fun Q k => ?_
      obtain ⟨a, rfl, ⟨vs, h1, h2⟩, m, no⟩ := r
      exact .inl ⟨a, vs, rfl, SqL.of h1, k _ M1 H1 .refl (.refl _) hh1 ⟨[a], fun b hb => by
        have : b = a := by simpa using hb
        subst this
        exact ⟨no, _, h1⟩, it_seqL h2 fun M2 H2 e1 e2 f => SqL.of (f a (by simp) _ h1), (fun j z => nomatch z)⟩⟩
    | ob _ _ => trivial
    | dk _ => trivial
    | dt _ => trivial
  | sl j =>
    obtain ⟨⟨p, o, e1⟩, e2⟩ := r
    show Sat K W M1 σ H1 env1 (opt (ofX env1 (.sl j)) env1) (RI K σ) _
    rw [ofX_sl e1]
    cases o with
    | lst xs =>
      refine fun Q k => ?_
      obtain ⟨a, e4, ⟨vs, h1, h2⟩, m⟩ := hh1.slot j _ e1
      rw [e2] at e4
      cases e4
      exact .inl ⟨a, vs, rfl, SqL.of h1, k _ M1 H1 .refl (.refl _) hh1 ⟨[a], fun b hb => by
        have : b = a := by simpa using hb
        subst this
        refine ⟨fun z => ?_, _, h1⟩
        obtain ⟨i, p2, o2, hi, q1, q2⟩ := hide_own z
        exact hh1.dj i j _ p2 o2 p _ hi q1 e1 q2 e2, it_seqL h2 fun M2 H2 e1 e2 f => SqL.of (f a (by simp) _ h1), fun i z => by cases z; exact ⟨p, _, e1⟩⟩⟩
    | ob _ _ => trivial
    | dk _ => trivial
    | dt _ => trivial
theorem rds1 {xs : List X} {vs : List V} {i : Int} (hh : Holds K M env σ H) (r : RepXs K M H env σ xs vs) (e : rds env xs = some [.int i]) : vs = [.int i] := by
  have := rds_ok hh r e
  cases this with
  | cons a b =>
    cases b
    rw [a.int]
theorem rds2 {xs : List X} {vs : List V} {i j : Int} (hh : Holds K M env σ H) (r : RepXs K M H env σ xs vs) (e : rds env xs = some [.int i, .int j]) : vs = [.int i, .int j] := by
  have := rds_ok hh r e
  cases this with
  | cons a b =>
    cases b with
    | cons b c =>
      cases c
      rw [a.int, b.int]
theorem di_r1 (h : DA K W ta da) : DI K W (iRng1 ta) (diR1 da) := fun M σ H env hh => by
  refine Sat.bind (c := fun vs H1 (R : It → Hp → Prop) => ∃ j : Int, vs = [V.int j] ∧ -(2 ^ 62) ≤ j ∧ j < 2 ^ 62 ∧ R (Itr 0 j.toNat) H1) back_i hh (h M σ H env hh) (fun Q q => q) fun M1 H1 env1 x v g1 s1 hh1 r1 => ?_
  split
  · rename_i j e
    split
    · rename_i hb
      exact fun Q k => ⟨j, rds1 hh1 (ra_x r1) e, (rgOk_ok hb).2, (rgOk_ok hb).1, k _ M1 H1 .refl (.refl _) hh1 ⟨[], (fun a z => nomatch z), it_rg, (fun j z => nomatch z)⟩⟩
    · trivial
  · trivial
theorem di_r2 (h : DA K W ta da) : DI K W (iRng2 ta) (diR2 da) := fun M σ H env hh => by
  refine Sat.bind (c := fun vs H1 (R : It → Hp → Prop) => ∃ i j : Int, vs = [V.int i, V.int j] ∧ (-(2 ^ 62) ≤ i ∧ i < 2 ^ 62 ∧ -(2 ^ 62) ≤ j ∧ j < 2 ^ 62) ∧ R (Itr i (j - i).toNat) H1) back_i hh (h M σ H env hh) (fun Q q => q) fun M1 H1 env1 x v g1 s1 hh1 r1 => ?_
  split
  · rename_i i j e
    split
    · rename_i hb
      exact fun Q k => ⟨i, j, rds2 hh1 (ra_x r1) e, ⟨(rgOk_ok hb.1).2, (rgOk_ok hb.1).1, (rgOk_ok hb.2).2, (rgOk_ok hb.2).1⟩, k _ M1 H1 .refl (.refl _) hh1 ⟨[], (fun a z => nomatch z), it_rg, (fun j z => nomatch z)⟩⟩
    · trivial
  · trivial
/-! ### built-in calls -/
def pLen : List D → Option X
  | [.lst xs] => some (.im (.int xs.length))
  | [.tup xs] => some (.im (.int xs.length))
  | [.scr xs] => some (.im (.int xs.length))
  | [.str z] => if fit z.length then some (.im (.int z.length)) else none
  | _ => none
abbrev rLenU (K : Fg) : List V → Hp → VK → Prop := fun xs H Q => (∃ p ys, xs = [.ref p] ∧ (SqL K H p ys ∨ SqT K H p ys) ∧ Q (.int ys.length) H) ∨ ∃ z, xs = [.str z] ∧ z.length ≤ sizeLine ∧ Q (.int z.length) H
theorem call_lenU {X : Cx} : CallR X (.builtin "len") (rLenU X.K) := call_len_seq.or call_len_str
theorem one_rd {d : D} {vs : List V} (r : Paired (Rd2 K M H) [d] vs) : ∃ v, vs = [v] ∧ Rd2 K M H d v := by
  cases r with
  | cons a b => cases b; exact ⟨_, rfl, a⟩
theorem ok_len : CallOk K (rLenU K) pLen := by
  intro M H ds x vs e r hf Q q
  unfold pLen at hf
  split at hf
  · cases hf
    obtain ⟨v, rfl, h⟩ := one_rd r
    obtain ⟨a, us, rfl, h1, h2⟩ := h.lst e
    rw [h2.length] at q
    exact .inl ⟨a, us, rfl, .inl (SqL.of h1), q.im0 e rep_int⟩
  · cases hf
    obtain ⟨v, rfl, h⟩ := one_rd r
    obtain ⟨a, us, rfl, h1, h2⟩ := h.tup e
    rw [h2.length] at q
    exact .inl ⟨a, us, rfl, .inr h1, q.im0 e rep_int⟩
  · cases hf
    obtain ⟨v, rfl, h⟩ := one_rd r
    obtain ⟨a, rfl, h1⟩ := h.scr e
    refine .inl ⟨a, _, rfl, .inl h1, ?_⟩
    rw [List.length_map]
    exact q.im0 e rep_int
  · split at hf
    · rename_i hz
      cases hf
      obtain ⟨v, rfl, h⟩ := one_rd r
      rw [h.str]
      exact .inr ⟨_, rfl, fit_ok hz, q.im0 e rep_int⟩
    · cases hf
  · cases hf
def pInt : List D → Option X
  | [.int i] => some (.im (.int i))
  | [.bl b] => some (.im (.int (if b then 1 else 0)))
  | _ => none
theorem ok_int : CallOk K (fun xs H Q => (∃ i, xs = [.int i] ∧ Q (.int i) H) ∨ ∃ k, xs = [.bl k] ∧ Q (.int (if k then 1 else 0)) H) pInt := by
  intro M H ds x vs e r hf Q q
  unfold pInt at hf
  split at hf
  · cases hf
    obtain ⟨v, rfl, h⟩ := one_rd r
    rw [h.int]
    exact .inl ⟨_, rfl, q.im0 e rep_int⟩
  · cases hf
    obtain ⟨v, rfl, h⟩ := one_rd r
    rw [h.bl]
    exact .inr ⟨_, rfl, q.im0 e rep_int⟩
  · cases hf
def pTuple : List D → Option X
  | [.lst xs] => some (.im (.tup xs))
  | [.tup xs] => some (.im (.tup xs))
  | _ => none
abbrev rTupleU (K : Fg) : List V → Hp → VK → Prop := fun xs H Q => ∃ p ys, xs = [.ref p] ∧ ((SqL K H p ys ∧ ∀ l (o : Obj), H l = none → o.dict = none → Q (.ref l) (upd H l (.frz o (.tup ys)))) ∨ (SqT K H p ys ∧ Q (.ref p) H))
theorem call_tupleU {X : Cx} : CallR X (.type "tuple") (rTupleU X.K) := by
  intro pins s σ H xs us Q I r h
  obtain ⟨p, ys, rfl, h⟩ := h
  obtain ⟨u, rfl, rx⟩ := vals1 r
  cases rx
  rcases h with ⟨hq, q⟩ | ⟨hq, q⟩
  · obtain ⟨its, r', pl, hz⟩ := I.list hq
    have hlen := r'.length
    refine call_tuple_list pl.isList (fun h' kp => ?_) (by simp only [List.size_toArray] <;> omega)
    have I1 : Inv X pins σ H { s with heap := h' } := I.kept (t' := s.toks) kp
    exact ⟨.ref h'.objs.size, _, I1.newTup r' hz, rfl, q _ _ (I1.hok.fresh (Nat.le_refl _)) rfl⟩
  · obtain ⟨its, _, p1, _⟩ := I.tuple hq
    exact call_tuple_same (items := its.toArray) p1 ⟨.ref p, H, I, rfl, q⟩
theorem ok_tuple : CallOk K (rTupleU K) pTuple := by
  intro M H ds x vs e r hf Q q
  unfold pTuple at hf
  split at hf
  · cases hf
    obtain ⟨v, rfl, h⟩ := one_rd r
    obtain ⟨a, us, rfl, h1, h2⟩ := h.lst e
    exact ⟨a, us, rfl, .inl ⟨SqL.of h1, fun l o n hd => q.tup e h2 n hd⟩⟩
  · cases hf
    obtain ⟨v, rfl, h⟩ := one_rd r
    have hr := h.tupR
    obtain ⟨a, us, rfl, h1, h2⟩ := h.tup e
    exact ⟨a, us, rfl, .inr ⟨h1, q.im0 e hr⟩⟩
  · cases hf
def pList : List D → Option X
  | [.lst xs] => some (.ow (.lst xs))
  | [.tup xs] => some (.ow (.lst xs))
  | [.str z] => if fit z.length then some (.ow (.lst (z.cps.toList.map fun c => D.str ⟨#[c]⟩))) else none
  | _ => none
abbrev rListU (K : Fg) : List V → Hp → VK → Prop := fun xs H Q => (∃ p ys, xs = [.ref p] ∧ (SqL K H p ys ∨ SqT K H p ys) ∧ ∀ l, H l = none → Q (.ref l) (upd H l (.lst ys))) ∨
  ∃ z, xs = [.str z] ∧ z.length ≤ sizeLine ∧ ∀ l, H l = none → Q (.ref l) (upd H l (.lst (z.cps.toList.map fun c => V.str ⟨#[c]⟩)))
theorem signs_vals {z : Str} {acc : Array Value} (h : ItemsOf (SignAt z) acc z.cps.size) : Vals (z.cps.toList.map fun c => V.str ⟨#[c]⟩) acc.toList := by
  obtain ⟨h1, h2⟩ := h
  have key : ∀ (cs : List Nat) (us : List Value), cs.length = us.length → (∀ (i : Nat) (c : Nat) (u : Value), cs[i]? = some c → us[i]? = some u → RelV (V.str ⟨#[c]⟩) u) → Vals (cs.map fun c => V.str ⟨#[c]⟩) us := by
    intro cs
    induction cs with
    | nil =>
      intro us hl _
      cases us with
      | nil => exact .nil
      | cons u us => simp at hl
    | cons c cs ih =>
      intro us hl hv
      cases us with
      | nil => simp at hl
      | cons u us => exact .cons (hv 0 c u rfl rfl) (ih us (by simpa using hl) fun i c u a b => hv (i + 1) c u (by simpa using a) (by simpa using b))
  refine key _ _ (by simpa using h1.symm) fun i c u a b => ?_
  have hi : i < z.cps.size := by
    have := (List.getElem?_eq_some_iff.mp a).1
    simpa using this
  obtain ⟨c', t, e1, e2⟩ := h2 i u (by simpa using b)
  have a' : z.cps[i]? = some c := by simpa using a
  rw [a'] at e1
  cases e1
  exact ⟨t, e2⟩
theorem call_listS {X : Cx} (hc : X.calm = true) : CallR X (.type "list") (fun xs H Q => ∃ z, xs = [.str z] ∧ z.length ≤ sizeLine ∧ ∀ l, H l = none → Q (.ref l) (upd H l (.lst (z.cps.toList.map fun c => V.str ⟨#[c]⟩)))) := by
  intro pins s σ H xs us Q I r h
  obtain ⟨z, rfl, hz, q⟩ := h
  obtain ⟨u, rfl, t, rfl⟩ := vals1 r
  refine call_list_str (I.ok.hd hc) z t (fun h' tk acc c k e it => ?_) hz
  have new : ObjOk X.prog X.w (upd H s.heap.objs.size (.lst (z.cps.toList.map fun c => V.str ⟨#[c]⟩))) h' s.heap.objs.size (.lst (z.cps.toList.map fun c => V.str ⟨#[c]⟩)) :=
    ⟨by rw [List.length_map, Array.length_toList]; exact hz, acc.toList, c, signs_vals it, by simpa using e⟩
  exact ⟨.ref _, _, I.laid (t' := tk) k (Nat.le_refl _) new, rfl, q _ I.fresh⟩
theorem call_listU {X : Cx} (hc : X.calm = true) : CallR X (.type "list") (rListU X.K) := call_list_of.or (call_listS hc)
theorem reps_signs {cs : List Nat} : Reps K M (cs.map fun c => D.str ⟨#[c]⟩) (cs.map fun c => V.str ⟨#[c]⟩) := by
  induction cs with
  | nil => exact Reps.nil
  | cons c cs ih => exact Reps.cons rep_str ih
theorem ok_list : CallOk K (rListU K) pList := by
  intro M H ds x vs e r hf Q q
  unfold pList at hf
  split at hf
  · cases hf
    obtain ⟨v, rfl, h⟩ := one_rd r
    obtain ⟨a, us, rfl, h1, h2⟩ := h.lst e
    exact .inl ⟨a, us, rfl, .inl (SqL.of h1), fun l n => q.lst e h2 n⟩
  · cases hf
    obtain ⟨v, rfl, h⟩ := one_rd r
    obtain ⟨a, us, rfl, h1, h2⟩ := h.tup e
    exact .inl ⟨a, us, rfl, .inr h1, fun l n => q.lst e h2 n⟩
  · split at hf
    · rename_i hz
      cases hf
      obtain ⟨v, rfl, h⟩ := one_rd r
      rw [h.str]
      exact .inr ⟨_, rfl, fit_ok hz, fun l n => q.lst e reps_signs n⟩
    · cases hf
  · cases hf
/-! ### isinstance by built-in classes -/
def D.tyN : D → Option String
  | .non => some "NoneType"
  | .bl _ => some "bool"
  | .int _ => some "int"
  | .str _ => some "str"
  | .tup _ => some "tuple"
  | .lst _ => some "list"
  | .scr _ => some "list"
  | _ => none
def pIsi : List D → Option X
  | [d, .ty n] => (d.tyN.bind fun t => L2.kitB t n).map fun b => .im (.bl b)
  | _ => none
theorem ty_rd {d : D} {t : String} {v : V} (s : Same M H) (h : Rd2 K M H d v) (e : d.tyN = some t) : TyX K H v (.type t) := by
  cases d with
  | non => cases e; rw [h.non]; exact .base .non
  | bl b => cases e; rw [h.bl]; exact .base (.bl b)
  | int i => cases e; rw [h.int]; exact .base (.int i)
  | str i => cases e; rw [h.str]; exact .base (.str i)
  | tup xs =>
    cases e
    obtain ⟨a, us, rfl, h1, h2⟩ := h.tup s
    rcases h1 with (h1 | ⟨o, h1⟩) | ⟨o, its, n, h1, h2, _⟩
    · exact .base (.tup h1)
    · exact .fTuple h1
    · exact .kTuple h1 h2
  | lst xs =>
    cases e
    obtain ⟨a, us, rfl, h1, h2⟩ := h.lst s
    exact .base (.lst h1)
  | scr xs =>
    cases e
    obtain ⟨a, rfl, h1⟩ := h.scr s
    rcases h1 with (h1 | ⟨o, h1⟩) | ⟨o, its, n, h1, h2, _⟩
    · exact .base (.lst h1)
    · exact .base (.frz h1)
    · exact .kList h1 h2
  | _ => cases e
theorem ok_isi : CallOk K (rIsi K) pIsi := by
  intro M H ds x vs e r hf Q q
  unfold pIsi at hf
  split at hf
  · rename_i d n
    obtain ⟨b, h1, rfl⟩ := Option.map_eq_some_iff.mp hf
    obtain ⟨t, h2, h3⟩ := Option.bind_eq_some_iff.mp h1
    cases r with
    | cons a r =>
      cases r with
      | cons a2 r =>
        cases r
        rw [a2.ty]
        exact ⟨_, _, .type t, .type n, b, rfl, .ty n, ty_rd e a h2, kit_ty h3, q.im0 e rep_bl⟩
  · cases hf
theorem de_ty {n : String} : DE K W (tC (.ty n)) (dC (.ty n)) := de_c _ _ fun M => by simp [Rep]
/-! ### an owned object changed -/
theorem own_write {i : Nat} {p : Bool} {o o' : OD} {l : Addr} {ho : HO} (hh : Holds K M env σ H) (e : env[i]? = some (Sl.ow p o)) (es : σ[i]? = some (some (V.ref l))) (a : At K M (upd H l ho) l o') :
    Holds K M (env.set i (.ow p o')) σ (upd H l ho) ∧ Grow M env σ H M (env.set i (.ow p o')) σ (upd H l ho) ∧ Shape env (env.set i (.ow p o')) := by
  have hi : i < env.length := (List.getElem?_eq_some_iff.mp e).1
  obtain ⟨l', e1, a1, m1⟩ := hh.slot i _ e
  rw [es] at e1
  cases e1
  obtain ⟨u0, hu0⟩ := a1.there
  have shp : Shape env (env.set i (.ow p o')) := by
    show List.map Sl.kind (env.set i (.ow p o')) = env.map Sl.kind
    apply List.ext_getElem?
    intro j
    rw [List.getElem?_map, List.getElem?_map]
    by_cases hj : j = i
    · subst hj
      rw [List.getElem?_set_self hi, e]
      rfl
    · rw [List.getElem?_set_ne (Ne.symm hj)]
  have ow : ∀ l2, Own (env.set i (.ow p o')) σ l2 → Own env σ l2 := fun l2 z => own_shape shp z
  refine ⟨⟨fun b u q => ?_, by rw [List.length_set]; exact hh.len, fun j s q => ?_, fun j k l2 p1 o1 p2 o2 hjk q1 q2 q3 q4 => ?_⟩, ⟨Same.refl M, fun l2 u q n => ?_, fun _ _ z => .inl z, fun l2 z => .inl (ow l2 z), fun j s q pn => ⟨rfl, ?_⟩, fun l2 z => ?_, by rw [List.length_set]⟩, shp⟩
  · have : b ≠ l := fun z => by subst z; rw [m1] at q; cases q
    rw [upd_ne this]
    exact hh.ex b u q
  · by_cases hj : j = i
    · subst hj
      rw [List.getElem?_set_self hi] at q
      cases q
      exact ⟨l, es, a, m1⟩
    · rw [List.getElem?_set_ne (Ne.symm hj)] at q
      have := hh.slot j s q
      cases s with
      | no => trivial
      | hid => trivial
      | im d => exact this
      | ow p2 o2 =>
        obtain ⟨l2, e2, a2, m2⟩ := this
        have hne : l2 ≠ l := fun z => hh.dj j i l p2 o2 p o hj q e (z ▸ e2) es
        exact ⟨l2, e2, a2.mono (Same.refl M) fun u z => by rw [upd_ne hne]; exact z, m2⟩
  · have f : ∀ (j : Nat) (p1 : Bool) (o1 : OD), (env.set i (.ow p o'))[j]? = some (Sl.ow p1 o1) → ∃ o3, env[j]? = some (Sl.ow p1 o3) := fun j p1 o1 q => (show Shape (env.set i (.ow p o')) env from Eq.symm shp).ow q
    obtain ⟨o3, h1⟩ := f j p1 o1 q1
    obtain ⟨o4, h2⟩ := f k p2 o2 q2
    exact hh.dj j k l2 p1 o3 p2 o4 hjk h1 h2 q3 q4
  · have : l2 ≠ l := fun z => n ⟨i, p, o, e, z ▸ es⟩
    rw [upd_ne this]
    exact q
  · have := congrArg (fun l => l[j]?) (show (env.set i (.ow p o')).map Sl.kind = env.map Sl.kind from shp)
    simp only [List.getElem?_map] at this
    rw [q] at this
    obtain ⟨s', e1, e2⟩ := Option.map_eq_some_iff.mp this
    exact ⟨s', e1, e2⟩
  · by_cases hz : l2 = l
    · subst hz; rw [upd_same] at z; cases z
    · rw [upd_ne hz] at z; exact z
/-- a method that changes a slot's object -/
def slotOf (env : Ev) (i : Nat) : Option (Bool × OD) := match env[i]? with
  | some (.ow p o) => some (p, o)
  | _ => none
theorem slotOf_ok {i : Nat} {p : Bool} {o : OD} (h : slotOf env i = some (p, o)) : env[i]? = some (Sl.ow p o) := by
  unfold slotOf at h
  split at h
  · cases h; assumption
  · cases h
def optE (o : Option (X × Ev)) : RE X := match o with
  | some r => .ok r.1 r.2
  | none => .bad
def OD.isL : OD → Bool
  | .lst _ => true
  | _ => false
def OD.isD : OD → Bool
  | .dk _ => true
  | _ => false
def dMut (i : Nat) (isT : OD → Bool) (f : OD → List D → Option (D × OD)) (da : Ev → RE (List X)) : Ev → RE X := fun env => if ((slotOf env i).map fun r => isT r.2) = some true then (da env).bind fun xs e1 => optE ((frzs xs).bind fun ds => (slotOf e1 i).bind fun po => (f po.2 ds).bind fun r => some (X.im r.1, e1.set i (.ow po.1 r.2))) else .bad
def MutOk (K : Fg) [WD K] (r : V → List V → Hp → VK → Prop) (f : OD → List D → Option (D × OD)) : Prop := ∀ M H l o ds vs d o', Same M H → At K M H l o → M l = none → Reps K M ds vs → f o ds = some (d, o') → ∀ Q : VK, (∀ z ho, At K M (upd H l ho) l o' → Rep K M d z → Q z (upd H l ho)) → r (.ref l) vs H Q
def TyOk (K : Fg) [WD K] (T : String) (isT : OD → Bool) : Prop := ∀ M H l o, At K M H l o → isT o = true → tyV K T (.ref l) H
theorem tyOk_lst : TyOk K "list" OD.isL := fun M H l o a e => by
  cases o with
  | lst xs => obtain ⟨vs, h, _⟩ := a; exact .inl ⟨rfl, vs, SqL.of h⟩
  | _ => cases e
theorem de_mut_core {i : Nat} {T : String} {isT : OD → Bool} {r : V → List V → Hp → VK → Prop} {f : OD → List D → Option (D × OD)} {t : L2.St → Hp → VK → Prop} (hT : TyOk K T isT) (hr : MutOk K r f) (ha : DA K W ta da)
    (ht : ∀ σ H Q v, σ[i]? = some (some v) → tyV K T v H → ta σ H (fun xs H2 => r v xs H2 Q) → t σ H Q) : DE K W t (dMut i isT f da) := fun M σ H env hh => by
  have h1 := ha M σ H env hh
  unfold dMut
  by_cases hc : ((slotOf env i).map fun r => isT r.2) = some true
  · rw [if_pos hc]
    obtain ⟨⟨p0, o0⟩, q1, q2⟩ := Option.map_eq_some_iff.mp hc
    obtain ⟨l, es, a0, m0⟩ := hh.slot i _ (slotOf_ok q1)
    have ty := hT M H l o0 a0 q2
    cases e1 : da env with
    | bad => trivial
    | exc e env1 => rw [e1] at h1; exact fun Q k => ht σ H Q _ es ty (h1 _ k)
    | ok xs env1 =>
      rw [e1] at h1
      show Sat K W M σ H env (optE ((frzs xs).bind fun ds => (slotOf env1 i).bind fun po => (f po.2 ds).bind fun r => some (X.im r.1, env1.set i (.ow po.1 r.2)))) (RX K σ) _
      cases e2 : ((frzs xs).bind fun ds => (slotOf env1 i).bind fun po => (f po.2 ds).bind fun r => some (X.im r.1, env1.set i (.ow po.1 r.2))) with
      | none => trivial
      | some rr =>
        obtain ⟨ds, t1, e3⟩ := Option.bind_eq_some_iff.mp e2
        obtain ⟨⟨p, o⟩, t2, e4⟩ := Option.bind_eq_some_iff.mp e3
        obtain ⟨⟨d, o'⟩, t3, e5⟩ := Option.bind_eq_some_iff.mp e4
        cases e5
        refine fun Q k => ht σ H Q _ es ty (h1 _ fun vs M1 H1 g s hh1 r1 => ?_)
        have g2 := frzM_grow g
        have hh2 := frzM_holds (H := H) hh1
        have rs := frzs_rep r1 t1
        obtain ⟨l', es', a', m'⟩ := hh2.slot i _ (slotOf_ok t2)
        rw [es] at es'
        cases es'
        refine hr _ H1 l o ds vs d o' hh2.ex a' m' rs t3 Q fun z ho az rz => ?_
        obtain ⟨w1, w2, w3⟩ := own_write hh2 (slotOf_ok t2) es az
        exact k z _ _ (g2.trans hh w2) (s.trans w3) w1 (rx_im rz)
  · rw [if_neg hc]
    trivial
theorem de_mut {i : Nat} {T : String} {isT : OD → Bool} {r : V → List V → Hp → VK → Prop} {f : OD → List D → Option (D × OD)} (hT : TyOk K T isT) (hr : MutOk K r f) (ha : DA K W ta da) : DE K W (tBM K T r (tVar i) ta) (dMut i isT f da) :=
  de_mut_core (t := tBM K T r (tVar i) ta) hT hr ha fun σ H Q v e ty q => ⟨v, e, ty, q⟩
theorem de_mut0 {i : Nat} {T : String} {isT : OD → Bool} {r : V → List V → Hp → VK → Prop} {f : OD → List D → Option (D × OD)} (hT : TyOk K T isT) (hr : MutOk K r f) : DE K W (tBM0 K T r (tVar i)) (dMut i isT f dNil) :=
  de_mut_core (t := tBM0 K T r (tVar i)) hT hr da_nil fun σ H Q v e ty q => ⟨v, e, ty, q⟩
def mApp : OD → List D → Option (D × OD)
  | .lst xs, [d] => if fit (xs.length + 1) then some (.non, .lst (xs ++ [d])) else none
  | _, _ => none
def mPopAt : OD → List D → Option (D × OD)
  | .lst xs, [.int k] => if 0 ≤ k ∧ k < xs.length ∧ rgOk k = true then (xs[k.toNat]?).map fun d => (d, .lst (xs.eraseIdx k.toNat)) else none
  | _, _ => none
def mPop : OD → List D → Option (D × OD)
  | .lst xs, [] => (xs[xs.length - 1]?).map fun d => (d, .lst xs.dropLast)
  | _, _ => none
theorem reps_one {d : D} {vs : List V} (r : Reps K M [d] vs) : ∃ v, vs = [v] ∧ Rep K M d v := by
  simp only [Reps] at r
  obtain ⟨v, r', rfl, h, rfl⟩ := r
  exact ⟨v, rfl, h⟩
theorem lst_len (h : Reps K M xs vs) (f : fit (xs.length + 1) = true) : vs.length < sizeLine := by
  have := fit_ok f
  have := h.length
  omega
theorem ok_app : MutOk K rAppend mApp := by
  intro M H l o ds vs d o' e a m r hf Q k
  unfold mApp at hf
  split at hf
  · split at hf
    · rename_i hz
      cases hf
      obtain ⟨v, rfl, h⟩ := reps_one r
      obtain ⟨us, h1, h2⟩ := a
      exact ⟨l, us, v, rfl, rfl, h1, lst_len h2 hz, k _ _ ⟨us ++ [v], upd_same, h2.append (Reps.cons h Reps.nil)⟩ rep_non⟩
    · cases hf
  · cases hf
theorem ok_popAt : MutOk K rPopAt mPopAt := by
  intro M H l o ds vs d o' e a m r hf Q k
  unfold mPopAt at hf
  split at hf
  · rename_i xs i
    split at hf
    · rename_i hz
      have hz2 := rgOk_ok hz.2.2
      obtain ⟨d', h0, h1⟩ := Option.map_eq_some_iff.mp hf
      cases h1
      obtain ⟨v, rfl, h⟩ := reps_one r
      have hv : v = .int i := by simpa [Rep] using h
      subst hv
      obtain ⟨us, h1, h2⟩ := a
      obtain ⟨u, h3, h4⟩ := h2.get h0
      have hl := h2.length
      have lim : sizeLine = 16777216 := sizeLine_eq
      have hi : i.toNat < us.length := (List.getElem?_eq_some_iff.mp h3).1
      have e2 : seqIndex? i us.length = some i.toNat := by
        obtain ⟨e3, _⟩ := ixN_seq (n := us.length) (i := i) (j := i.toNat) (by unfold ixN; rw [if_pos hz.1, if_pos (by omega)])
        exact e3
      exact ⟨l, us, i, i.toNat, u, rfl, rfl, h1, by omega, by omega, e2, h3, k _ _ ⟨_, upd_same, h2.eraseIdx _⟩ h4⟩
    · cases hf
  · cases hf
theorem ok_pop : MutOk K rPop mPop := by
  intro M H l o ds vs d o' e a m r hf Q k
  unfold mPop at hf
  split at hf
  · obtain ⟨d', h0, h1⟩ := Option.map_eq_some_iff.mp hf
    cases h1
    simp only [Reps] at r
    subst r
    obtain ⟨us, h1, h2⟩ := a
    rw [h2.length] at h0
    obtain ⟨u, h3, h4⟩ := h2.get h0
    refine ⟨l, us, u, rfl, rfl, h1, h3, k _ _ ⟨_, upd_same, ?_⟩ h4⟩
    rw [List.dropLast_eq_take, List.dropLast_eq_take, h2.length]
    exact h2.take _
  · cases hf
/-- an expression in the middle -/
theorem Sat.stmB {α β : Type} {r : RE α} {R : Hp → Hp → Hp → Ev → α → β → Prop} {f : α → Ev → RS} {t : (β → Hp → Prop) → Prop} {t' : Ends → Prop} {c : β → Hp → Ends → Prop} (hh : Holds K M env σ H) (g1 : Grow M env σ H M1 env1 σ H1) (h : Sat K W M1 σ H1 env1 r R t)
    (ht : ∀ D, t (fun v H1 => c v H1 D) → t' D) (hf : ∀ M2 H2 env2 x v, Grow M1 env1 σ H1 M2 env2 σ H2 → Shape env1 env2 → Holds K M2 env2 σ H2 → R H1 M2 H2 env2 x v → SatS K W M σ H env (f x env2) (c v H2)) : SatS K W M σ H env (r.stm f) t' := by
  cases r with
  | bad => trivial
  | exc e env1 => exact fun D k => ht D (h _ fun cls d M' H' g s hh' r => k cls d σ M' H' (g1.trans hh g) hh' r)
  | ok x env1 =>
    show SatS K W M σ H env (f x env1) t'
    cases e2 : f x env1 with
    | bad => trivial
    | nx env' => exact fun D k => ht D (h _ fun v M' H' g s hh' r => (by have := hf M' H' env1 x v g s hh' r; rw [e2] at this; exact this D k))
    | bk env' => exact fun D k => ht D (h _ fun v M' H' g s hh' r => (by have := hf M' H' env1 x v g s hh' r; rw [e2] at this; exact this D k))
    | ct env' => exact fun D k => ht D (h _ fun v M' H' g s hh' r => (by have := hf M' H' env1 x v g s hh' r; rw [e2] at this; exact this D k))
    | rt y env' => exact fun D k => ht D (h _ fun v M' H' g s hh' r => (by have := hf M' H' env1 x v g s hh' r; rw [e2] at this; exact this D k))
    | exc e env' => exact fun D k => ht D (h _ fun v M' H' g s hh' r => (by have := hf M' H' env1 x v g s hh' r; rw [e2] at this; exact this D k))
/-- xs[k] = e -/
def setI (ds : List D) (po : Bool × OD) : Option OD := match ds, po.2 with
  | [d, .int k], .lst xs => (ixN xs.length k).map fun j => .lst (xs.set j d)
  | _, _ => none
def dSetI (i : Nat) (de dk : Ev → RE X) : Ev → RS := fun env => if (slotOf env i).isSome = true then (de env).stm fun y e1 => (dk e1).stm fun k e2 => optS ((frzs [y, k]).bind fun ds => (slotOf e2 i).bind fun po => (setI ds po).map fun o => e2.set i (.ow po.1 o)) else .bad
theorem ds_setI {i : Nat} {tk : TE} {dk : Ev → RE X} (h : DE K W te de) (hk : DE K W tk dk) : DS K W (tAsg te (gSub (tVar i) tk rSetL)) (dSetI i de dk) := fun M σ H env hh => by
  unfold dSetI
  by_cases hc : (slotOf env i).isSome = true
  · rw [if_pos hc]
    obtain ⟨⟨p0, o0⟩, q1⟩ := Option.isSome_iff_exists.mp hc
    obtain ⟨l, es, a0, m0⟩ := hh.slot i _ (slotOf_ok q1)
    refine Sat.stm (c := fun x H1 D => ∃ v, σ[i]? = some (some v) ∧ tk σ H1 fun k H2 => rSetL v k x H2 fun H3 => D.nx σ H3) hh (h M σ H env hh) (fun D q => q) fun M1 H1 env1 y x g1 s1 hh1 r1 => ?_
    refine Sat.stmB (c := fun k H2 D => rSetL (.ref l) k x H2 fun H3 => D.nx σ H3) hh g1 (hk M1 σ H1 env1 hh1) (fun D q => ⟨_, es, q⟩) fun M2 H2 env2 yk kv g2 s2 hh2 r2 => ?_
    cases e2 : ((frzs [y, yk]).bind fun ds => (slotOf env2 i).bind fun po => (setI ds po).map fun o => env2.set i (.ow po.1 o)) with
    | none => trivial
    | some env' =>
      obtain ⟨ds, t1, e3⟩ := Option.bind_eq_some_iff.mp e2
      obtain ⟨⟨p, o⟩, t2, e4⟩ := Option.bind_eq_some_iff.mp e3
      obtain ⟨o', t3, rfl⟩ := Option.map_eq_some_iff.mp e4
      refine fun D k => ?_
      have g := g1.trans hh g2
      have gz := frzM_grow g
      have hz := frzM_holds (H := H) hh2
      have ra : RA K σ H M2 H2 env2 [y, yk] [x, kv] := Paired.cons ⟨RepX.grow hh1 r1.1 g2 s2, r1.2⟩ (Paired.cons (back_x _ _ _ _ _ _ _ g1.dom r2) Paired.nil)
      have rs := frzs_rep ra t1
      obtain ⟨l', es', a', m'⟩ := hz.slot i _ (slotOf_ok t2)
      rw [es] at es'
      cases es'
      unfold setI at t3
      split at t3
      · rename_i d j xs0 eo
        obtain ⟨jj, t4, rfl⟩ := Option.map_eq_some_iff.mp t3
        have eo' : o = .lst xs0 := eo
        subst eo'
        simp only [Reps] at rs
        obtain ⟨x', r1', e9, hx, kk, r2', e8, hk2, e7⟩ := rs
        subst e7
        cases e8
        cases e9
        have ek : kv = .int j := by simpa [Rep] using hk2
        subst ek
        obtain ⟨us, h1, h2⟩ := a'
        have az : At K (frzM M2 H H2 env2 σ) (upd H2 l (.lst (us.set jj x))) l (.lst (xs0.set jj d)) := ⟨_, upd_same, h2.set hx jj⟩
        obtain ⟨w1, w2, w3⟩ := own_write hz (slotOf_ok t2) es az
        exact ⟨l, us, j, jj, rfl, rfl, h1, by rw [← h2.length]; exact t4, k σ _ _ (gz.trans hh w2) w1⟩
      · cases t3
  · rw [if_neg hc]
    trivial
/-- x op= e -/
def dAug (i : Nat) (f : D → D → Option X) (de : Ev → RE X) : Ev → RS := fun env => match env[i]? with
  | some (.im d) => (de env).stm fun y e1 => optS ((rd e1 y).bind fun dy => (f d dy).bind fun x => setSl i x e1)
  | _ => .bad
theorem ds_aug {i : Nat} {r : R2} {f : D → D → Option X} (ho : OpOk K r f) (h : DE K W te de) : DS K W (tAug i te r) (dAug i f de) := fun M σ H env hh => by
  unfold dAug
  split
  · rename_i d e0
    obtain ⟨x0, es, r0⟩ := hh.slot i _ e0
    refine Sat.stm (c := fun v H1 D => r x0 v H1 fun z H2 => D.nx (σ.set i (some z)) H2) hh (h M σ H env hh) (fun D q => ⟨x0, es, q⟩) fun M1 H1 env1 y v g s hh1 r1 => ?_
    cases e2 : ((rd env1 y).bind fun dy => (f d dy).bind fun x => setSl i x env1) with
    | none => trivial
    | some env' =>
      obtain ⟨dy, t1, e3⟩ := Option.bind_eq_some_iff.mp e2
      obtain ⟨x, t2, t3⟩ := Option.bind_eq_some_iff.mp e3
      refine fun D k => ho M1 H1 d dy x x0 v hh1.ex (.inl (Rep.mono g.exM _ _ r0)) (rd_ok hh1 r1.1 t1) t2 _ fun z M2 H2 e hn rn => ?_
      have g2 := g.trans hh (e.grow hh1)
      have hh2 := e.holds hh1
      have rx : RX K σ H M2 H2 env1 x z := ⟨repN_x hh1 e hn rn, fun o eo l el => g.dom l (hn o eo l el)⟩
      obtain ⟨w1, w2⟩ := setSl_grow hh g2 hh2 rx t3
      exact k _ _ _ w1 w2
  · trivial
/-- s.join(xs) -/
def textsD : List D → Option (List Str)
  | [] => some []
  | .str z :: xs => (textsD xs).map fun r => z :: r
  | _ => none
def pJoin : D → D → Option X
  | .str a, .lst xs => (textsD xs).bind fun ys => if fit ((ys.map (·.length)).sum + ys.length * a.length) = true then some (.im (.str (Txt.join a ys))) else none
  | .str a, .tup xs => (textsD xs).bind fun ys => if fit ((ys.map (·.length)).sum + ys.length * a.length) = true then some (.im (.str (Txt.join a ys))) else none
  | _, _ => none
def isS : D → Bool
  | .str _ => true
  | _ => false
def dM1 (f : D → D → Option X) (da db : Ev → RE X) : Ev → RE X := fun env => (da env).bind fun x e1 => if ((rd e1 x).map isS) = some true then (db e1).bind fun y e2 => opt ((rd e2 x).bind fun dx => (rd e2 y).bind fun dy => f dx dy) e2 else .bad
def M1Ok (K : Fg) [WD K] (r : V → List V → Hp → VK → Prop) (f : D → D → Option X) : Prop := ∀ M H dx dy x v u, Same M H → Rd2 K M H dx v → Rd2 K M H dy u → f dx dy = some x → ∀ Q : VK, Fin K M H x Q → r v [u] H Q
theorem de_m1 {r : V → List V → Hp → VK → Prop} {f : D → D → Option X} {tb : TE} {db : Ev → RE X} (ho : M1Ok K r f) (ha : DE K W te de) (hb : DE K W tb db) : DE K W (tM1 r te tb) (dM1 f de db) := fun M σ H env hh => by
  refine Sat.bind (c := fun v H1 Q => (∃ a, v = V.str a) ∧ tb σ H1 fun y H2 => r v [y] H2 Q) back_x hh (ha M σ H env hh) (fun Q q => q) fun M1 H1 env1 x v g1 s1 hh1 r1 => ?_
  by_cases hc : ((rd env1 x).map isS) = some true
  · rw [if_pos hc]
    obtain ⟨d0, q1, q2⟩ := Option.map_eq_some_iff.mp hc
    have hv : ∃ a, v = V.str a := by
      cases d0 with
      | str a => exact ⟨a, (rd_ok hh1 r1.1 q1).str⟩
      | _ => cases q2
    refine Sat.bind (c := fun u H2 Q => r v [u] H2 Q) back_x hh1 (hb M1 σ H1 env1 hh1) (fun Q q => ⟨hv, q⟩) fun M2 H2 env2 y u g2 s2 hh2 r2 => ?_
    refine sat_fin hh2 fun z e Q q => ?_
    obtain ⟨dx, e1, e⟩ := Option.bind_eq_some_iff.mp e
    obtain ⟨dy, e2, e⟩ := Option.bind_eq_some_iff.mp e
    exact ho M2 H2 dx dy z v u hh2.ex (rd_ok hh2 (RepX.grow hh1 r1.1 g2 s2) e1) (rd_ok hh2 r2.1 e2) e Q q
  · rw [if_neg hc]
    trivial
theorem textsD_ok : ∀ {xs : List D} {ys : List Str} {vs : List V}, textsD xs = some ys → Reps K M xs vs → vs = ys.map V.str
  | [], ys, vs, e, r => by
    simp only [textsD] at e
    cases e
    simp only [Reps] at r
    exact r
  | x :: xs, ys, vs, e, r => by
    cases x with
    | str z =>
      simp only [textsD] at e
      obtain ⟨r1, e1, rfl⟩ := Option.map_eq_some_iff.mp e
      simp only [Reps] at r
      obtain ⟨v, r', rfl, h1, h2⟩ := r
      rw [textsD_ok e1 h2, show v = .str z by simpa [Rep] using h1]
      rfl
    | _ => cases e
abbrev rJoin (K : Fg) : V → List V → Hp → VK → Prop := fun x xs H Q => ∃ a p, ∃ ys : List Str, x = .str a ∧ xs = [.ref p] ∧ (SqL K H p (ys.map V.str) ∨ SqT K H p (ys.map V.str)) ∧ (ys.map (·.length)).sum + ys.length * a.length ≤ 16777216 ∧ Q (.str (Txt.join a ys)) H
theorem ok_join : M1Ok K (rJoin K) pJoin := by
  intro M H dx dy x v u e hx hy hf Q q
  unfold pJoin at hf
  split at hf
  · obtain ⟨ys, h1, hf⟩ := Option.bind_eq_some_iff.mp hf
    split at hf
    · rename_i hz
      cases hf
      obtain ⟨a, us, rfl, h3, h4⟩ := hy.lst e
      rw [textsD_ok h1 h4] at h3
      exact ⟨_, a, ys, hx.str, rfl, .inl (SqL.of h3), (by have h9 := fit_ok hz; rw [sizeLine_eq] at h9; exact h9), q.im0 e rep_str⟩
    · cases hf
  · obtain ⟨ys, h1, hf⟩ := Option.bind_eq_some_iff.mp hf
    split at hf
    · rename_i hz
      cases hf
      obtain ⟨a, us, rfl, h3, h4⟩ := hy.tup e
      rw [textsD_ok h1 h4] at h3
      exact ⟨_, a, ys, hx.str, rfl, .inr h3, (by have h9 := fit_ok hz; rw [sizeLine_eq] at h9; exact h9), q.im0 e rep_str⟩
    · cases hf
  · cases hf
end
end Dn

namespace Dn
open PySem PySem.Spec PyProof.Rows L2
/-! ### defs by their names -/
/-- what a call of the def named x does -/
def CallF (CX : CXT) (P : Program) (w : World) (K : Fg) [WD K] (mg : Str → Option Value) (base : Heap) (k : Nat) (x : Str) (ps : List Str) (m : Ev → RE X) : Prop :=
  ∃ f fd, mg x = some (.ref f) ∧ PySem.W.keepIn K (.ref f) = true ∧ Binds K fd ps [] ∧ FnOk P w K mg base CX k f fd ps (spD K m)
theorem CallF.mono {CX : CXT} {P : Program} {w : World} {K : Fg} [WD K] {mg : Str → Option Value} {base : Heap} {j k : Nat} {x : Str} {ps : List Str} {m : Ev → RE X} (c : CallF CX P w K mg base j x ps m) (h : j ≤ k) : CallF CX P w K mg base k x ps m := by
  obtain ⟨f, fd, a, b, d, e⟩ := c
  exact ⟨f, fd, a, b, d, e.mono h⟩
section
variable {P : Program} {w : World} {K : Fg} [WD K] {mg : Str → Option Value} {base : Heap} {X : Cx}
theorem pe_callF {iw : WD X.K} {CX : CXT} {k : Nat} {x : Str} {ps : List Str} {m : Ev → RE Dn.X} {E : XK} {p pos : Pos} {e : Expr} {es : List Expr} {t : TA} (c : CallF CX X.prog X.w X.K X.mg X.base k x ps m) (hr : Room k X.A) (hx : Passes CX X E) (hg : Gl X x) (ha : PA X (e :: es) t)
    (hdb : (x == ("__debug__" : Str)) = false := by decide) (he : starEach (e :: es) X.env = (false, eval e X.env) :: starEach es X.env := by rfl) (hpl : (backTo pos (starEach es X.env)).any (·.1) = false := by rfl) :
    PE X (.Call (.Name x p) (e :: es) [] pos) (tCall (spD X.K m) [] E t) := by
  obtain ⟨f, fd, h1, h2, h3, h4⟩ := c
  exact pe_call h4 hr hg h1 h2 h3 .nil hx ha hdb he hpl
theorem pe_callF0 {iw : WD X.K} {CX : CXT} {k : Nat} {x : Str} {ps : List Str} {m : Ev → RE Dn.X} {E : XK} {p pos : Pos} (c : CallF CX X.prog X.w X.K X.mg X.base k x ps m) (hr : Room k X.A) (hx : Passes CX X E) (hg : Gl X x)
    (hdb : (x == ("__debug__" : Str)) = false := by decide) :
    PE X (.Call (.Name x p) [] [] pos) (tCall (spD X.K m) [] E tNil) := by
  obtain ⟨f, fd, h1, h2, h3, h4⟩ := c
  exact pe_call0 h4 hr hg h1 h2 h3 .nil hx hdb
theorem passN {E : XK} : Passes CX0 X E := fun _ _ _ _ _ _ _ h => h.elim
/-- a def keeps what its denotation says -/
theorem mk_callF {x : Str} {ps N : List Str} {k n nn : Nat} {st : Stmt} {f : Addr} {ds : Ev → RS} (F : ∃ fd, FunD K x x (defArgs st) (defBody st) (defScope st) [] [] f fd) (g : mg x = some (.ref f)) (S : FnScope N ps (defScope st)) (hn : ps.length = n) (hN : N.length = nn)
    (b : ∀ (kV doc pm : Value) (an : Option Addr) (cdv ct : Value) (us : List Value), us.length = ps.length → bindArgs (PySem.W.fnOf x x (defArgs st) (defBody st) (defScope st) .none kV doc pm an cdv ct) ⟨us, []⟩ = pure (ps.zip us))
    (h : ∀ (cdv : Value) (A : Around) (outer : List Env) (s : Shared) (H : Hp) (E : XK), Room k (A.deeper (envOfC x (defScope st) s.heap.objs.size f cdv)) →
      ∃ t, PSs (cxOf CX0 P w K mg base N x (defScope st) f cdv A outer s H E).nox (defBody st) t ∧ DS K (fun _ => E) t ds) : CallF CX0 P w K mg base (k + 1) x ps (fnM nn n ds) := by
  subst hn hN
  obtain ⟨fd, F⟩ := F
  refine ⟨f, fd, g, F.kp, F.bindsN b, F.ok S (fun vs H Q E h => spD_len h) fun cdv A outer s H vs Q E hr hs => ?_⟩
  obtain ⟨t, h1, h2⟩ := h cdv A outer s H E hr
  exact ⟨t, PSs.nox h1, fn_body h2 hs⟩
theorem mk_fnOk {x : Str} {ps N : List Str} {k n nn : Nat} {st : Stmt} {f : Addr} {fd : FuncData} {ds : Ev → RS} (F : FunD K x x (defArgs st) (defBody st) (defScope st) [] [] f fd) (S : FnScope N ps (defScope st)) (hn : ps.length = n) (hN : N.length = nn)
    (h : ∀ (cdv : Value) (A : Around) (outer : List Env) (s : Shared) (H : Hp) (E : XK), Room k (A.deeper (envOfC x (defScope st) s.heap.objs.size f cdv)) →
      ∃ t, PSs (cxOf CX0 P w K mg base N x (defScope st) f cdv A outer s H E).nox (defBody st) t ∧ DS K (fun _ => E) t ds) : FnOk P w K mg base CX0 (k + 1) f fd ps (spD K (fnM nn n ds)) := by
  subst hn hN
  refine F.ok S (fun vs H Q E h => spD_len h) fun cdv A outer s H vs Q E hr hs => ?_
  obtain ⟨t, h1, h2⟩ := h cdv A outer s H E hr
  exact ⟨t, PSs.nox h1, fn_body h2 hs⟩
/-- at the end of what is counted -/
theorem mk_none {x : Str} {ps N : List Str} {k : Nat} {st : Stmt} {f : Addr} (F : ∃ fd, FunD K x x (defArgs st) (defBody st) (defScope st) [] [] f fd) (g : mg x = some (.ref f)) (S : FnScope N ps (defScope st))
    (b : ∀ (kV doc pm : Value) (an : Option Addr) (cdv ct : Value) (us : List Value), us.length = ps.length → bindArgs (PySem.W.fnOf x x (defArgs st) (defBody st) (defScope st) .none kV doc pm an cdv ct) ⟨us, []⟩ = pure (ps.zip us)) {CX : CXT} : CallF CX P w K mg base (k + 1) x ps (fun _ => .bad) := by
  obtain ⟨fd, F⟩ := F
  refine ⟨f, fd, g, F.kp, F.bindsN b, F.ok S (fun vs H Q E h => ?_) fun cdv A outer s H vs Q E hr hs => ?_⟩
  · obtain ⟨M, ps, _, z⟩ := h
    exact z.elim
  · obtain ⟨M, ps, _, z⟩ := hs
    exact z.elim
theorem noSl_bad : NoSl (fun _ => .bad) := fun _ _ _ e => by cases e
theorem room64 {k : Nat} {A : Around} (r : Room k A) : A.units + 64 < cLine := r.units
theorem room65 {k : Nat} {A : Around} (r : Room k A) : A.units + 65 < cLine := by have := r.un; omega
end
/-- the script is plain data: a law's call -/
theorem law_spD {K : Fg} [WD K] {m : Ev → RE X} {ns : List Int} {H : Hp} {a : Addr} {env' : Ev} (hS : SqL K H a (ns.map V.int)) (hm : m [.im (.scr ns)] = .ok (.im (.bl true)) env') : spD K m [.ref a] H (fun v _ => v = .bl true) fun _ _ _ => False := by
  refine ⟨H, [.im (.scr ns)], ⟨Same.refl H, rfl, fun i s q => ?_, fun i j l p o p' o' hij q1 q2 q3 q4 => ?_⟩, ?_⟩
  · cases i with
    | zero =>
      simp at q
      subst q
      refine ⟨.ref a, rfl, ?_⟩
      simp only [Rep]
      exact ⟨a, rfl, hS⟩
    | succ i => simp at q
  · cases i with
    | zero => simp at q1
    | succ i => simp at q1
  · rw [hm]
    intro v M' H' g s hh r
    have := r.1
    simpa [RepX, Rep] using this
theorem walk_ofEB {l : PySem.W.OpenLaw} {n k : Nat} {q : Program} {loose : List Str} {XP : (Str → Option Value) → Heap → Prop} {YP : World → Heap → Prop} {d : DefRec} {CX : CXT} {x : Str}
    (hn : l.most = some n) (hn2 : n ≤ sizeLine) (hdf : d.params.defaults = []) (hr : Room k callerA)
    (F : ∀ (w : World) (mg : Str → Option Value) (fa : Addr) (h : Heap), YP w h → h.Ns mainGlobals mg → mg d.name = some (.ref fa) →
      ∃ (K : PySem.W.Frag) (fd : FuncData) (sp : Sp), K.In h ∧ (∀ (s : Shared) (u : Value), BindsTo s fd ⟨[u], []⟩ [(x, u)]) ∧
        (∀ (H : Hp) (a : Addr) (ns : List Int), ns.length ≤ n → (∀ z ∈ ns, Builtin.Int.intBits z ≤ 1048576) → Only H → SqL K H a (ns.map V.int) → sp [.ref a] H (fun v _ => v = .bl true) fun _ _ _ => False) ∧
        ∀ base : Heap, K.In base → base.Ns mainGlobals mg → FnOk l.prog w K mg base CX k fa fd [x] sp)
    (hCX : ∀ (H : Hp) (s : Shared) (e : Value) (s' : Shared), CX [] H s (fun _ _ _ => False) e s' → False) :
    PySem.W.WalkO q loose XP YP l.row.toRowW d [] (fun f vs => PySem.call f vs) := by
  refine Att.attach_callB hn hdf fun w s₀ s₁ mg mb fa o pm cd doc a vs ns G Y ho hd hcd hmg hobj hints hlen hbits hg => ?_
  obtain ⟨K, fd, sp, KX, hb, hsp, hF⟩ := F w mg fa _ Y G.T.g hmg
  exact law_call KX G.T.g G.T.b G.T.builtins G.T.nolimit hg hobj hints (Nat.le_trans hlen hn2) hr hF hb (fun H hO hS => hsp H a ns hlen hbits hO hS) fun H e s' => hCX H s₁ e s'
end Dn

namespace Dn
open PySem PySem.Spec PyProof.Rows L2 TL
theorem log2_small {n : Nat} {k : Nat} (h : n < 2 ^ k) : n.log2 ≤ k := by
  by_cases z : n = 0
  · subst z; simp
  · exact Nat.le_of_lt ((Nat.log2_lt z).mpr h)
theorem mulFit_by {i j : Int} {a b : Nat} (h : i.natAbs < 2 ^ a) (h' : j.natAbs < 2 ^ b) (k : a + b < 100000000) : mulFit i j = true := by
  unfold mulFit
  have := log2_small h
  have := log2_small h'
  exact decide_eq_true (by omega)
theorem atI_i {α : Type} {xs : List α} {i : Int} (h : 0 ≤ i) : atI xs i = xs[i.toNat]? := by
  unfold atI ixN
  rw [if_pos h]
  by_cases q : i < xs.length
  · rw [if_pos q]; rfl
  · rw [if_neg q, List.getElem?_eq_none (by omega)]; rfl
theorem rgOk_s {j : Int} (h : -1000000 ≤ j) (h' : j ≤ 1000000) : rgOk j = true := by
  have := log2_small (k := 20) (show j.natAbs < 2 ^ 20 by omega)
  exact decide_eq_true (by omega)
/-! ### texts -/
theorem app_tl (x y : Str) : (x ++ y).cps.toList = x.cps.toList ++ y.cps.toList := tl_append x y
theorem app_len (x y : Str) : (x ++ y).length = x.length + y.length := by rw [len_tl, len_tl x, len_tl y, tl_append, List.length_append]
theorem repS_tl (z : Str) (n : Nat) : (repS z n).cps.toList = (List.replicate n z.cps.toList).flatten := by
  unfold repS
  simp
def LowS (w : Str) : Prop := ∀ c ∈ w.cps.toList, 97 ≤ c ∧ c ≤ 122
/-- a word of the laws -/
def WordS (w : Str) : Prop := 1 ≤ w.length ∧ w.length ≤ 12 ∧ LowS w
theorem LowS.app {x y : Str} (h : LowS x) (h' : LowS y) : LowS (x ++ y) := fun c hc => by
  rw [app_tl, List.mem_append] at hc
  exact hc.elim (h c) (h' c)
theorem LowS.rep {z : Str} (h : LowS z) (n : Nat) : LowS (repS z n) := fun c hc => by
  rw [repS_tl] at hc
  obtain ⟨l, h1, h2⟩ := List.mem_flatten.mp hc
  rw [(List.mem_replicate.mp h1).2] at h2
  exact h c h2
theorem joinE_tl : ∀ ws : List Str, (Txt.join "" ws).cps.toList = (ws.map fun w => w.cps.toList).flatten := fun ws => by
  rw [join_eq]
  show tl (Str.join "" ws) = _
  rw [tl_join]
  have e : tl ("" : Str) = [] := rfl
  rw [e]
  have key : ∀ l : List (List Nat), joinL [] l = l.flatten := by
    intro l
    induction l with
    | nil => rfl
    | cons p l ih =>
      cases l with
      | nil => simp [joinL]
      | cons q r =>
        show p ++ ([] ++ joinL [] (q :: r)) = _
        rw [ih]
        simp
  exact key _
theorem sum_ones : ∀ n : Nat, (List.replicate n 1).sum = n
  | 0 => rfl
  | n + 1 => by rw [List.replicate_succ, List.sum_cons, sum_ones n]; omega
theorem joinE_len : ∀ ws : List Str, (∀ w ∈ ws, w.length = 1) → (Txt.join "" ws).length = ws.length := fun ws h => by
  rw [len_tl]
  show (Txt.join "" ws).cps.toList.length = _
  rw [joinE_tl, List.length_flatten, List.map_map]
  have : ws.map (List.length ∘ fun w => w.cps.toList) = List.replicate ws.length 1 := by
    rw [List.eq_replicate_iff]
    refine ⟨by simp, fun b hb => ?_⟩
    obtain ⟨w, hw, rfl⟩ := List.mem_map.mp hb
    have := h w hw
    rw [len_tl] at this
    exact this
  rw [this, sum_ones]
theorem ones_sum : ∀ ws : List Str, (∀ w ∈ ws, w.length = 1) → (ws.map (·.length)).sum = ws.length := fun ws h => by
  have : ws.map (·.length) = List.replicate ws.length 1 := by
    rw [List.eq_replicate_iff]
    refine ⟨by simp, fun b hb => ?_⟩
    obtain ⟨w, hw, rfl⟩ := List.mem_map.mp hb
    exact h w hw
  rw [this, sum_ones]
theorem joinE_low : ∀ ws : List Str, (∀ w ∈ ws, LowS w) → LowS (Txt.join "" ws) := fun ws h c hc => by
  rw [joinE_tl] at hc
  obtain ⟨l, h1, h2⟩ := List.mem_flatten.mp hc
  obtain ⟨w, hw, rfl⟩ := List.mem_map.mp h1
  exact h w hw c h2
theorem textsD_map : ∀ ws : List Str, textsD (ws.map D.str) = some ws
  | [] => rfl
  | w :: ws => by
    show (textsD (ws.map D.str)).map _ = _
    rw [textsD_map ws]
    rfl
abbrev ALs : Str := "abcdefghijklmnopqrstuvwxyz"
theorem al_tl : (ALs.cps.toList) = [97, 98, 99, 100, 101, 102, 103, 104, 105, 106, 107, 108, 109, 110, 111, 112, 113, 114, 115, 116, 117, 118, 119, 120, 121, 122] := by decide +kernel
theorem al_at {r : Int} (h : 0 ≤ r) (h' : r < 26) : ∃ c, pIx (.str "abcdefghijklmnopqrstuvwxyz") (.int r) = some (.im (.str ⟨#[c]⟩)) ∧ 97 ≤ c ∧ c ≤ 122 := by
  have hf : fit (ALs.length) = true := by decide +kernel
  have hl : ALs.cps.toList.length = 26 := by rw [al_tl]; rfl
  refine ⟨97 + r.toNat, ?_, by omega, by omega⟩
  show (if fit ALs.length = true then (atI ALs.cps.toList r).map (fun c => X.im (.str ⟨#[c]⟩)) else none) = _
  rw [if_pos hf, atI_i h, al_tl]
  have key : ∀ k : _root_.Fin 26, ([97, 98, 99, 100, 101, 102, 103, 104, 105, 106, 107, 108, 109, 110, 111, 112, 113, 114, 115, 116, 117, 118, 119, 120, 121, 122] : List Nat)[k.val]? = some (97 + k.val) := by decide
  have := key ⟨r.toNat, by omega⟩
  simp only at this
  rw [this]
  rfl
theorem one_low {c : Nat} (h : 97 ≤ c) (h' : c ≤ 122) : LowS ⟨#[c]⟩ := fun d hd => by
  simp at hd
  omega
theorem fit_s {n : Nat} (h : n ≤ 100000) : fit n = true := by
  have := log2_small (k := 17) (show n < 2 ^ 17 by omega)
  exact decide_eq_true (by omega)
/-! ### loops, lists of words -/
theorem for_nx {dg : D → Ev → Option Ev} {db : Ev → RS} (I : List D → Ev → Prop) (hs : ∀ x xs env, I (x :: xs) env → ∃ e1 e2, dg x env = some e1 ∧ (db e1 = .nx e2 ∨ db e1 = .ct e2) ∧ I xs e2) : ∀ xs env, I xs env → ∃ e', forGo dg db xs env = .nx e' ∧ I [] e'
  | [], env, h => ⟨env, rfl, h⟩
  | x :: xs, env, h => by
    obtain ⟨e1, e2, h1, h2, h3⟩ := hs x xs env h
    obtain ⟨e', h4, h5⟩ := for_nx I hs xs e2 h3
    refine ⟨e', ?_, h5⟩
    rcases h2 with h2 | h2 <;> simp [forGo, h1, h2, h4]
theorem lc_pure {dg : D → Ev → Option Ev} {dt : Ev → RE Bool} {de : Ev → RE X} {vs : List Nat} {env : Ev} (p : D → Bool) (f : D → D) : ∀ (xs acc : List D), (∀ x ∈ xs, ∃ e1, dg x env = some e1 ∧ dt e1 = .ok (p x) e1 ∧ (p x = true → de e1 = .ok (.im (f x)) e1) ∧ wipeE e1 vs = env) → acc.length + xs.length ≤ 100000 →
    lcGo dg dt de vs xs env acc = .ok (acc ++ (xs.filter p).map f) env
  | [], acc, _, _ => by simp [lcGo]
  | x :: xs, acc, h, hl => by
    simp at hl
    obtain ⟨e1, h1, h2, h3, h4⟩ := h x (by simp)
    have hf : fit (acc.length + 1) = true := fit_s (by omega)
    cases hp : p x with
    | false =>
      rw [hp] at h2
      have := lc_pure p f xs acc (fun y hy => h y (by simp [hy])) (by omega)
      simp [lcGo, h1, h2, h4, this, hp]
    | true =>
      rw [hp] at h2
      have := lc_pure p f xs (acc ++ [f x]) (fun y hy => h y (by simp [hy])) (by simp; omega)
      simp [lcGo, h1, h2, h3 hp, h4, this, hp, frz, hf]
theorem scals_strs : ∀ ns : List Str, scals (ns.map D.str) = some (ns.map V.str)
  | [] => rfl
  | n :: ns => by simp [scals, scals_strs ns, D.scal]
theorem inV_strs (w : Str) : ∀ ns : List Str, inV (.str w) (ns.map V.str) = decide (w ∈ ns)
  | [] => by simp [inV]
  | n :: ns => by
    show ((n == w) || inV (.str w) (ns.map V.str)) = _
    rw [inV_strs w ns]
    by_cases h : n = w
    · subst h; simp
    · have h2 : w ≠ n := fun z => h z.symm
      simp [h, h2]
theorem in_tup (w : Str) (ns : List Str) : pIn (.str w) (.tup (ns.map D.str)) = some (.im (.bl (decide (w ∈ ns)))) := by
  simp [pIn, pInB, D.scal, scals_strs, inV_strs]
theorem in_lst (w : Str) (ns : List Str) : pIn (.str w) (.lst (ns.map D.str)) = some (.im (.bl (decide (w ∈ ns)))) := by
  simp [pIn, pInB, D.scal, scals_strs, inV_strs]
theorem notIn_tup (w : Str) (ns : List Str) : pNotIn (.str w) (.tup (ns.map D.str)) = some (.im (.bl (!decide (w ∈ ns)))) := by
  simp [pNotIn, pInB, D.scal, scals_strs, inV_strs]
theorem notIn_lst (w : Str) (ns : List Str) : pNotIn (.str w) (.lst (ns.map D.str)) = some (.im (.bl (!decide (w ∈ ns)))) := by
  simp [pNotIn, pInB, D.scal, scals_strs, inV_strs]
theorem pigeon {α : Type} [DecidableEq α] : ∀ (l ns : List α), l.Nodup → (∀ x ∈ l, x ∈ ns) → l.length ≤ ns.length
  | [], ns, _, _ => Nat.zero_le _
  | x :: l, ns, nd, h => by
    have hx := h x (by simp)
    have nd' := List.nodup_cons.mp nd
    have := pigeon l (ns.erase x) nd'.2 fun y hy => (List.mem_erase_of_ne (fun z => nd'.1 (by rw [← z]; exact hy))).mpr (h y (by simp [hy]))
    have e := List.length_erase_of_mem hx
    have : 0 < ns.length := List.length_pos_of_mem hx
    simp
    omega
theorem eq_strs (a b : Str) : pEq (.str a) (.str b) = some (.im (.bl (decide (a = b)))) := by
  simp [pEq, pEqB, D.scal, L2.scal]
theorem perm_at {α : Type} : ∀ (l : List α) (i : Nat) (h : i < l.length), l.Perm (l[i] :: l.eraseIdx i)
  | x :: l, 0, _ => List.Perm.refl _
  | x :: l, i + 1, h => by
    have := perm_at l i (by simpa using h)
    exact (List.Perm.cons x this).trans (List.Perm.swap _ _ _)
theorem perm_move {α : Type} (l cs : List α) (i : Nat) (h : i < l.length) : (l.eraseIdx i ++ (cs ++ [l[i]])).Perm (l ++ cs) := by
  have h1 := perm_at l i h
  rw [← List.append_assoc]
  refine (List.perm_append_comm (l₁ := l.eraseIdx i ++ cs) (l₂ := [l[i]])).trans ?_
  exact (List.Perm.append_right cs h1).symm
theorem len_s (w : Str) : w.length = w.cps.toList.length := len_tl w
theorem cut_take {w : Str} {r : Int} (h : 0 ≤ r) (h' : r ≤ w.length) : (cutS w none (some r)).cps.toList = w.cps.toList.take r.toNat := by
  have e : HT.sIx w.length w.length (some r) = r.toNat := by
    show (if r < 0 then _ else min r.toNat w.length) = _
    rw [if_neg (by omega)]
    omega
  unfold cutS
  rw [e, HT.sIx_none]
  simp
theorem cut_drop {w : Str} {r : Int} (h : 0 ≤ r) (h' : r ≤ w.length) : (cutS w (some r) none).cps.toList = w.cps.toList.drop r.toNat := by
  have e : HT.sIx w.length 0 (some r) = r.toNat := by
    show (if r < 0 then _ else min r.toNat w.length) = _
    rw [if_neg (by omega)]
    omega
  unfold cutS
  rw [e, HT.sIx_none]
  show (List.take (w.length - r.toNat) (List.drop r.toNat w.cps.toList)).toArray.toList = _
  rw [List.toList_toArray, List.take_of_length_le (by rw [List.length_drop, ← len_s]; exact Nat.le_refl _)]
theorem low_take {w : Str} (h : LowS w) {v : Str} (n : Nat) (e : v.cps.toList = w.cps.toList.take n) : LowS v := fun c hc => h c (List.mem_of_mem_take (e ▸ hc))
theorem low_drop {w : Str} (h : LowS w) {v : Str} (n : Nat) (e : v.cps.toList = w.cps.toList.drop n) : LowS v := fun c hc => h c (List.mem_of_mem_drop (e ▸ hc))
theorem cutD_take {α : Type} {w : List α} {r : Int} (h : 0 ≤ r) (h' : r ≤ w.length) : cutD w none (some r) = w.take r.toNat := by
  have e : HT.sIx w.length w.length (some r) = r.toNat := by
    show (if r < 0 then _ else min r.toNat w.length) = _
    rw [if_neg (by omega)]
    omega
  unfold cutD
  rw [e, HT.sIx_none]
  simp
theorem cutD_drop {α : Type} {w : List α} {r : Int} (h : 0 ≤ r) (h' : r ≤ w.length) : cutD w (some r) none = w.drop r.toNat := by
  have e : HT.sIx w.length 0 (some r) = r.toNat := by
    show (if r < 0 then _ else min r.toNat w.length) = _
    rw [if_neg (by omega)]
    omega
  unfold cutD
  rw [e, HT.sIx_none, List.take_of_length_le (by rw [List.length_drop]; exact Nat.le_refl _)]
/-! ### one statement after the other -/
theorem seq_nx {a b : Ev → RS} {env e1 : Ev} (h : a env = .nx e1) : dSeq a b env = b e1 := by
  unfold dSeq
  rw [h]
  rfl
theorem fn_rt {N n : Nat} {ds : Ev → RS} {ps e : Ev} {d : D} (hc : ps.length = n ∧ n ≤ N ∧ ps.all Sl.par = true) (h : ds (ps ++ List.replicate (N - n) .no) = .rt (.im d) e) : fnM N n ds ps = .ok (.im d) (backP ps e) := by
  unfold fnM
  rw [if_pos hc, h]
  rfl
theorem call_ok {m : Ev → RE X} {da : Ev → RE (List X)} {env e1 ps ps' : Ev} {xs : List X} {y : X} (h1 : da env = .ok xs e1) (h2 : passXs e1 xs = some ps) (h3 : (slots xs).Nodup ∧ temps xs ≤ 1) (h4 : m ps = .ok y ps') : dCall m da env = .ok y (wb xs ps' e1) := by
  unfold dCall
  rw [h1]
  simp only [RE.bind]
  rw [h2]
  simp only []
  rw [if_pos h3, h4]
theorem asg_ok {i : Nat} {de : Ev → RE X} {env e1 e2 : Ev} {x : X} (h1 : de env = .ok x e1) (h2 : setSl i x e1 = some e2) : dAsg i de env = .nx e2 := by
  unfold dAsg
  rw [h1]
  simp only [RE.stm]
  rw [h2]
  rfl
theorem for_r1 {da : Ev → RE (List X)} {dg : D → Ev → Option Ev} {db : Ev → RS} {env e1 e' : Ev} {xs : List X} {j : Int} (h1 : da env = .ok xs e1) (h2 : rds e1 xs = some [.int j]) (h3 : rgOk j = true) (h4 : forGo dg db (rgD 0 j.toNat) e1 = .nx e') : dFor (diR1 da) dg db env = .nx e' := by
  have h5 : diR1 da env = .ok (rgD 0 j.toNat, none) e1 := by
    unfold diR1
    rw [h1]
    simp only [RE.bind]
    rw [h2]
    simp only []
    rw [if_pos h3]
  unfold dFor
  rw [h5]
  exact h4
end Dn

namespace PySem
open Sem (wp)
open AutoSeq1 (wpAny_loadPart')
theorem dn_enumerate_newT (l : Addr) (items : Array Value) (n : Nat) (dct : Option Addr) (sl : Array (Option Value)) :
    Meets (Builtin.«enumerate.__new__» ⟨[.type "enumerate", .ref l], []⟩) (fun _ R s => s.heap.get? l = some { cls := .type "tuple", dict := dct, data := .seq items n, slots := sl } ∧
      R (.ok (.ret (.ref (s.heap.push { cls := .type "tuple_iterator", data := .fields #[.ref l, .int 0 0] }).objs.size)))
        { s with heap := (s.heap.push { cls := .type "tuple_iterator", data := .fields #[.ref l, .int 0 0] }).push { cls := .type "enumerate", data := .fields #[.none, .bool false, .ref s.heap.objs.size, rawInt 0, .none, .none] } }) :=
  .of_wp fun prog w A R s h => by
    obtain ⟨hp, g, d, tk, os⟩ := s; obtain ⟨hl, h⟩ := h
    have hsub := sub_enumerate
    have hL : Heap.IsTuple (Shared.heap ⟨hp, g, d, tk, os⟩) l items := ⟨_, hl, rfl, n, rfl⟩
    wp_walk using wpAny_loadPart' hl
    refine wpAny_stack_any fun st => wpAny_pure ?_
    split
    · rename_i c _ _ _ _ _
      cases (c == Value.type "enumerate")
      · wp_walk using wpAny_loadPart' hl, wpAny_pyIter_tuple hL
        exact ⟨_, rfl, h⟩
      · wp_walk using wpAny_loadPart' hl, wpAny_pyIter_tuple hL
        exact ⟨_, rfl, h⟩
    · wp_walk using wpAny_loadPart' hl, wpAny_pyIter_tuple hL
      exact ⟨_, rfl, h⟩
section
variable {prog : Program} {w : World} {A : Around} {E : Value → Shared → Prop} {s : Shared}
theorem dn_call_enumerate_tuple {l : Addr} {items : Array Value} {Q : Value → Shared → Prop} (hL : s.heap.IsTuple l items)
    (h : ∀ h', IsEnum h' (s.heap.objs.size + 1) s.heap.objs.size 0 .none → h'.IsTupleIter s.heap.objs.size l 0 → h'.objs.size = s.heap.objs.size + 2 →
      (∀ b o, s.heap.get? b = some o → h'.get? b = some o) → Q (.ref (s.heap.objs.size + 1)) { s with heap := h' }) :
    wpAny (model prog w) A (call (.type "enumerate") [.ref l]) Q E s := by
  obtain ⟨⟨c, dct, dt, sl⟩, hl, hc, n, hd⟩ := hL
  replace hc : c = .type "tuple" := hc
  replace hd : dt = .seq items n := hd
  subst hc hd
  refine callType_new F.called_enumerate (by decide) (F.typeCall_enumerate_1 _) (F.newCall_enumerate_1 _) (fun obj => F.args_object_init_2 obj _) F.entry_enumerate_new
    (dn_enumerate_newT l items n dct sl) ⟨hl, ?_⟩
  have hz : (s.heap.push { cls := .type "tuple_iterator", data := .fields #[.ref l, .int 0 0] }).objs.size = s.heap.objs.size + 1 := Heap.size_push ..
  show _ ∧ _
  rw [hz]
  have he : IsEnum ((s.heap.push { cls := .type "tuple_iterator", data := .fields #[.ref l, .int 0 0] }).push
      { cls := .type "enumerate", data := .fields #[.none, .bool false, .ref s.heap.objs.size, rawInt 0, .none, .none] }) (s.heap.objs.size + 1) s.heap.objs.size 0 .none := by
    have := Heap.get?_push_size (s.heap.push { cls := .type "tuple_iterator", data := .fields #[.ref l, .int 0 0] })
      (o := { cls := .type "enumerate", data := .fields #[.none, .bool false, .ref s.heap.objs.size, rawInt 0, .none, .none] }) rfl
    rw [hz] at this; exact this
  refine ⟨⟨_, he, rfl⟩, h _ he ⟨_, Heap.get?_push_of_some _ (Heap.get?_push_size _ rfl), rfl, rfl⟩ (by rw [Heap.size_push, hz]) fun b o x => Heap.get?_push_of_some _ (Heap.get?_push_of_some _ x)⟩
end
end PySem
namespace L2
open PySem PySem.Spec PyProof.Rows
/-- the tuple at a, its items in new pairs -/
def IteT (K : PySem.W.Frag) (a : Addr) : It :=
  ⟨fun i H => ∃ (xs : List V) (x : V), SqT K H a xs ∧ xs[i]? = some x,
    fun i H v H' => ∃ T x, v = .ref T ∧ H T = none ∧ H' = upd H T (.tup [.int (i : Nat), x]) ∧ ∀ xs, SqT K H a xs → xs[i]? = some x,
    fun i H => ∃ xs : List V, SqT K H a xs ∧ xs.length = i⟩
theorem turn_enumT {P : Program} {w : World} {K : PySem.W.Frag} {elts : List Expr} {kk : Nat} {tpos : Pos} (a e it : Addr) :
    Turn P w K (.Tuple elts kk tpos) (IteT K a) [e, it] e (fun i h => (∃ old, IsEnum h e it ((i : Nat) : Int) old) ∧ h.IsTupleIter it a i ∧ e ≠ it ∧ e ≠ a ∧ a ≠ it) where
  mem := by simp
  obj := fun i h st b hb => by
    obtain ⟨⟨old, he⟩, ⟨o, ho, hc, hd⟩, _⟩ := st
    have e' : b = e ∨ b = it := by simpa using hb
    rcases e' with z | z
    · rw [z]; exact ⟨_, he, fun v q => nomatch q⟩
    · rw [z]; exact ⟨o, ho, fun v q => by rw [hd] at q; cases q⟩
  keep := fun i h h' st k => let ⟨⟨old, he⟩, hi, hne⟩ := st; ⟨⟨old, k e (by simp) _ he⟩, hi.at fun o q => k it (by simp) o q, hne⟩
  item := by
    intro X hP hw hK hc i pins s σ H E I hf st hg
    subst hP hw hK
    obtain ⟨⟨old, he⟩, hit, hne, hea, hai⟩ := st
    obtain ⟨xs, x, hq, hx⟩ := hg
    obtain ⟨its, rv, p, hz⟩ := I.tuple hq
    obtain ⟨u, hu, ru⟩ := rv.get hx
    have hel : e < s.heap.objs.size := Heap.lt_size he
    have hil : it < s.heap.objs.size := by obtain ⟨_, q, _⟩ := hit; exact Heap.lt_size q
    have hlt : i < its.toArray.size := by
      have := (List.getElem?_eq_some_iff.mp hu).1
      simpa using this
    have hh : X.A.in1.handled = none := I.ok.hd hc
    refine wpAny_pyNext_enum_itemD (Draws.tuple hh it a hai its.toArray) he ⟨hit, p⟩ hlt hne (by simp [hne, hea]) fun x' h' tk hx' ho st' hT hsz hk => ?_
    have ex : x' = u := by
      have : its.toArray[i]? = some u := by simpa using hu
      rw [this] at hx'
      exact (Option.some.inj hx').symm
    subst ex
    have hit' := st'.1
    refine ⟨_, rfl, wpAny_letOwnedTupleGo_enum (s := { s with heap := h', toks := tk + 1 }) ho fun h'' he' sb => ?_⟩
    have hT2 : h''.get? s.heap.objs.size = some { cls := .type "tuple", data := .seq #[.int i tk, x'] } := (sb.2 _ (Nat.ne_of_gt hel)).trans hT
    have new : ObjOk X.prog X.w (upd H s.heap.objs.size (.tup [.int (i : Nat), x])) h'' s.heap.objs.size (.tup [.int (i : Nat), x]) :=
      ⟨by show 2 ≤ sizeLine; decide, [.int i tk, x'], .cons ⟨_, rfl⟩ (.cons ru .nil), ⟨_, hT2, rfl, _, rfl⟩⟩
    have I1 : Inv X pins σ (upd H s.heap.objs.size (.tup [.int (i : Nat), x])) { s with heap := h'', toks := tk + 1 } :=
      I.turnedNew (ch := [e, it]) (fun b ob hb q => (sb.2 b (fun z => hb (by simp [z]))).trans (hk b ob (fun z => hb (by simp [z])) (fun z => hb (by simp [z])) q)) hf (Nat.le_refl _) new
    refine ⟨.ref s.heap.objs.size, _, I1, rfl, ⟨_, x, rfl, I.hok.fresh (Nat.le_refl _), rfl, fun ys hy => by rw [I.tuple_inj hy hq]; exact hx⟩, ⟨⟨x', ?_⟩, hit'.at fun o q => (sb.2 it (Ne.symm hne)).trans q, hne, hea, hai⟩, fun b hb => ?_⟩
    · have e1 : ((i + 1 : Nat) : Int) = (i : Int) + 1 := by omega
      rw [e1]; exact he'
    · have hb' : b < s.heap.objs.size := by
        have e' : b = e ∨ b = it := by simpa using hb
        rcases e' with z | z
        · rw [z]; exact hel
        · rw [z]; exact hil
      rw [upd_ne (Nat.ne_of_lt hb')]
      exact (hf b hb).1
  done := by
    intro X hP hw hK hc i pins s σ H E I hf st hg
    subst hP hw hK
    obtain ⟨⟨old, he⟩, hit, hne, hea, hai⟩ := st
    obtain ⟨xs, hq, hx⟩ := hg
    obtain ⟨its, rv, p, hz⟩ := I.tuple hq
    obtain ⟨f0, f1, f2, f3, f4, f5⟩ := hf it (by simp)
    have hl := rv.length
    have hh : X.A.in1.handled = none := I.ok.hd hc
    have hn : i = its.toArray.size := by rw [List.size_toArray, ← hl, hx]
    exact wpAny_pyNext_enum_endD (Draws.tuple hh it a hai its.toArray) he (by rw [← hn]; exact ⟨hit, p⟩) fun h' eb => ⟨rfl, I.turned (t' := s.toks) (fun b o hb q => eb b o hb q) f0 f1 f3 f4 f5⟩
  self := fun A i s Q E st h => let ⟨⟨_, he⟩, _⟩ := st; wpAny_pyIter_enum he h
def iEnumT (K : PySem.W.Frag) (ta : TA) : TI := fun σ H R => ta σ H fun vs H1 => ∃ a xs, vs = [.ref a] ∧ SqT K H1 a xs ∧ R (IteT K a) H1
theorem pi_enumT {X : Cx} {e : Expr} {ta : TA} {p pos tpos : Pos} {elts : List Expr} {kk : Nat} (hg : Gl X "enumerate") (hm : X.mg "enumerate" = none) (ha : PA X [e] ta) (hs : starEach [e] X.env = [(false, eval e X.env)] := by rfl) :
    PI X (.Tuple elts kk tpos) (.Call (.Name "enumerate" p) [e] [] pos) (iEnumT X.K ta) := by
  refine ⟨fun pins s σ H R I h => ?_⟩
  refine Call_ (ld_blt I hg hm boot_enumerate (PyProof.Rows.callWith_type1 (thn (ha.run pos pins s σ H _ I h) fun us s1 ⟨vs, H1, I1, r1, q1⟩ => ?_) hs rfl))
  obtain ⟨a, xs, ex, hq, q⟩ := q1
  subst ex
  cases r1 with
  | cons r rr =>
    cases rr
    cases r
    obtain ⟨its, rv, p', hz⟩ := I1.tuple hq
    have hal : a < s1.heap.objs.size := by obtain ⟨o, q, _⟩ := p'; exact Heap.lt_size q
    refine dn_call_enumerate_tuple p' fun h' he hit hsz hk => wpAny_pyIter_enum he ?_
    have I2 : Inv X pins σ H1 { s1 with heap := h' } := I1.kept (t' := s1.toks) hk
    refine ⟨s1.heap.objs.size + 1, [s1.heap.objs.size + 1, s1.heap.objs.size], _, _, H1, rfl, I2, turn_enumT a (s1.heap.objs.size + 1) s1.heap.objs.size, ⟨⟨.none, he⟩, hit, Nat.succ_ne_self _, Nat.ne_of_gt (Nat.lt_succ_of_lt hal), Nat.ne_of_lt hal⟩, fun b hb => ?_, q⟩
    have e' : b = s1.heap.objs.size + 1 ∨ b = s1.heap.objs.size := by simpa using hb
    have hle : s1.heap.objs.size ≤ b := by
      rcases e' with z | z
      · rw [z]; exact Nat.le_add_right _ _
      · rw [z]; exact Nat.le_refl _
    exact I1.fpOk hle (I1.hok.fresh hle)
end L2
namespace HT
open PySem PySem.Spec PyProof.Rows
section
variable {prog : Program} {w : World} {A : Around} {E : Value → Shared → Prop} {s : Shared}
theorem dn_sliceApplied_back {sl : Addr} {vs : Value} {n : Nat} {Q : Int × Int × Nat → Shared → Prop} (hs : s.heap.IsSliceOf sl .none .none vs) (ps : IsPart vs (some (-1)))
    (h : Q ((n : Int) - 1, -1, n) s) : wpAny (model prog w) A (Builtin.Slice.sliceApplied (.ref sl) (pure (n : Int))) Q E s := by
  obtain ⟨os, hos, hcs, hds⟩ := id hs
  unfold Builtin.Slice.sliceApplied Builtin.Slice.sliceFields
  refine wpAny_bind (wpAny_bind (wpAny_field hos hds (x := .none) rfl (wpAny_bind (wpAny_field hos hds (x := .none) rfl (wpAny_bind (wpAny_field hos hds (x := vs) rfl (wpAny_pure ?_)))))))
  refine wpAny_bind (slicePart_ ps ?_)
  show wpAny _ _ (if ((-1 : Int) == 0) = true then _ else _) _ _ s
  rw [if_neg (by decide)]
  refine wpAny_bind (slicePart_none (wpAny_bind (slicePart_none (wpAny_bind (wpAny_pure ?_)))))
  show wpAny _ _ (pure ((n : Int) - 1, (-1 : Int), Builtin.Slice.slicePlaces ((n : Int) - 1) (-1) (-1))) _ _ s
  have e : Builtin.Slice.slicePlaces ((n : Int) - 1) (-1) (-1) = n := by
    unfold Builtin.Slice.slicePlaces
    rw [if_neg (by decide)]
    split
    · rw [show -(-1 : Int) = 1 from rfl, Int.ediv_one]; omega
    · omega
  rw [e]
  exact wpAny_pure h
theorem dn_fm_congr {α β : Type} {f g : α → Option β} : ∀ (l : List α), (∀ k ∈ l, f k = g k) → l.filterMap f = l.filterMap g
  | [], _ => rfl
  | x :: l, h => by
    rw [List.filterMap_cons, List.filterMap_cons, h x (by simp), dn_fm_congr l fun k hk => h k (by simp [hk])]
theorem dn_pick_back (xs : Array Value) : ((List.range xs.size).filterMap fun (k : Nat) => xs[(((xs.size : Int) - 1) + (k : Int) * (-1)).toNat]?).toArray = xs.toList.reverse.toArray := by
  have e : ∀ k ∈ List.range xs.size, (fun (k : Nat) => xs[(((xs.size : Int) - 1) + (k : Int) * (-1)).toNat]?) k = (fun k => xs[k]?) (xs.size - 1 - k) := by
    intro k hk
    have := List.mem_range.mp hk
    show xs[_]? = xs[_]?
    congr 1
    omega
  rw [dn_fm_congr _ e]
  have e2 : (fun k => (fun k => xs[k]?) (xs.size - 1 - k)) = ((fun k => xs[k]?) ∘ fun k => xs.size - 1 - k) := rfl
  rw [e2, ← List.filterMap_map, PySem.W.krv_range, List.filterMap_reverse, PySem.W.krv_all]
theorem dn_getItem_tuple_back {t sl : Addr} {items : Array Value} {vs : Value} {Q : Value → Shared → Prop} (ht : IsTup s.heap t items) (hs : s.heap.IsSliceOf sl .none .none vs) (ps : IsPart vs (some (-1)))
    (h : Q (.ref s.heap.objs.size) { s with heap := s.heap.push { cls := .type "tuple", data := .seq items.toList.reverse.toArray } })
    (hsz : items.size ≤ sizeLine) : wpAny (model prog w) A (getItem (.ref t) (.ref sl)) Q E s := by
  have htake : sizeOk (.seq items.toList.reverse.toArray) := by
    show items.toList.reverse.toArray.size ≤ sizeLine
    rw [List.size_toArray, List.length_reverse, Array.length_toList]
    exact hsz
  obtain ⟨os, hos, hcs, hds⟩ := id hs
  have hTs : s.TypeIs (.ref sl) "slice" := ⟨os, hos, hcs⟩
  unfold getItem
  try with_reducible refine wpAny_holding ?_
  first | refine wpAny_bind (wpAny_pure ?_) | skip
  refine wpAny_bind (wpAny_sequenceKey ht.typeIs (by decide) ?_)
  refine wpAny_bind (wpAny_callSpecial?_slot (name := Str.ofString "__getitem__") ht.typeIs PyProof.Rows.slot_tuple_getitem
    (wpAny_call_entry PyProof.Rows.slot_tuple_getitem ht.typeIs entry_tuple_getitem ?_ (args_tuple_getitem _ _)))
  show wpAny _ _ (Builtin.Tuple.tupleItemsOf (.ref t) >>= _) _ _ s
  refine wpAny_bind (tupleItemsOf_ ht ?_)
  refine wpAny_bind (wpAny_typeOf hTs ?_)
  rw [if_pos (by decide)]
  refine wpAny_bind (dn_sliceApplied_back hs ps ?_)
  have hno : ¬ ((((items.size : Int) - 1) == 0 && (-1 : Int) == 1 && items.size == items.size) = true) := by
    intro q
    rw [Bool.and_eq_true, Bool.and_eq_true] at q
    exact absurd q.1.2 (by decide)
  show wpAny _ _ (if (((items.size : Int) - 1) == 0 && (-1 : Int) == 1 && items.size == items.size) = true then _ else _) _ _ s
  rw [if_neg hno, dn_pick_back]
  first
    | exact wpAny_bind (m := Builtin.Tuple.tupleExact _) (wpAny_newObj_type (wpAny_pure ⟨_, rfl, wpAny_pure h⟩) htake)
    | exact wpAny_bind (m := Builtin.Tuple.tupleExact _) (wpAny_newObj_type (wpAny_bind (wpAny_pure (wpAny_pure ⟨_, rfl, wpAny_pure h⟩))) htake)
    | exact wpAny_bind (wpAny_bind (m := Builtin.Tuple.tupleExact _) (wpAny_newObj_type (wpAny_pure (wpAny_pure ⟨_, rfl, wpAny_pure h⟩)) htake))
    | exact wpAny_bind (wpAny_bind (m := Builtin.Tuple.tupleExact _) (wpAny_newObj_type (wpAny_pure ⟨_, rfl, wpAny_pure h⟩) htake))
end
end HT
namespace L2
open PySem PySem.Spec PyProof.Rows
def tRevT (K : PySem.W.Frag) (te : TE) : TE := fun σ H Q => te σ H fun x H1 => ∃ a xs, x = .ref a ∧ SqT K H1 a xs ∧ ∀ p (o : Obj), H1 p = none → o.dict = none → Q (.ref p) (upd H1 p (.frz o (.tup xs.reverse)))
theorem pe_revT {X : Cx} {e : Expr} {te : TE} {k : Nat} {p1 p2 p3 pos : Pos} (he : PE X e te) : PE X (.Subscript e (.Slice none none (some (.UnaryOp .USub (.Constant (.int 1) k p1) p2)) p3) pos) (tRevT X.K te) := by
  refine ⟨fun pins s σ H Q I h => ?_⟩
  refine Subscript_ (thn (he.run pins s σ H _ I h) fun v s1 ⟨x, H1, I1, r1, q1⟩ => ?_)
  obtain ⟨a, xs, ex, hx, q⟩ := q1
  subst ex
  cases r1
  have hst : PO X (some (.UnaryOp .USub (.Constant (.int 1) k p1) p2)) (tPart (tUn (rU fun i => .int (-i)) (tC (.int 1)))) := po_some (pe_un un_neg pe_int)
  have key : ∀ (vl vu : Value), IsPart vl none → IsPart vu none → vl = .none ∧ vu = .none := fun vl vu a b => by cases a; cases b; exact ⟨rfl, rfl⟩
  refine wpAny_Slice (thn (po_none.run pins s1 σ H1 (fun o H2 => o = none ∧ H2 = H1) I1 ⟨rfl, rfl⟩) fun vl s2 ⟨l, H2, I2, pl, el, e2⟩ => ?_)
  subst el e2
  refine thn (po_none.run pins s2 σ H2 (fun o H3 => o = none ∧ H3 = H2) I2 ⟨rfl, rfl⟩) fun vu s3 ⟨u, H3, I3, pu, eu, e3⟩ => ?_
  subst eu e3
  refine thn (hst.run pins s3 σ H3 (fun o H4 => o = some (-1) ∧ H4 = H3) I3 ⟨1, rfl, -1, rfl, rfl, rfl⟩) fun vs s4 ⟨o, H4, I4, ps, eo, e4⟩ => ?_
  subst eo e4
  obtain ⟨rfl, rfl⟩ := key vl vu pl pu
  have I5 : Inv X pins σ H4 { s4 with heap := s4.heap.push { cls := .type "slice", data := .fields #[.none, .none, vs] } } := I4.kept (t' := s4.toks) fun b ob q => Heap.get?_push_of_some _ q
  obtain ⟨its, r, ht, hz⟩ := I5.tuple hx
  have hlen := r.length
  show wpAny (model X.prog X.w) X.A (subscriptTail e (.Slice none none (some (.UnaryOp .USub (.Constant (.int 1) k p1) p2)) p3) (.ref a) (.ref s4.heap.objs.size)) (EP X pins σ Q) X.xe { s4 with heap := s4.heap.push { cls := .type "slice", data := .fields #[.none, .none, vs] } }
  refine tail_any (ops := [.ref a, .ref s4.heap.objs.size]) ht.typeIs PyProof.Rows.slot_tuple_getitem.lookup ?_ (by with_unfolding_all rfl)
  refine HT.dn_getItem_tuple_back ht (Heap.IsSliceOf.new _ .none .none vs) ps ?_ (by rw [List.size_toArray]; omega)
  exact ⟨.ref _, _, I5.newTup r.reverse (by rw [List.length_reverse]; exact hz), rfl, q _ _ (I5.hok.fresh (Nat.le_refl _)) rfl⟩
end L2

namespace Dn
open PySem PySem.Spec PyProof.Rows L2
/-! ### enumerate -/
def enumD : Nat → List D → List D
  | _, [] => []
  | i, x :: xs => .tupW [.int (i : Int), x] :: enumD (i + 1) xs
theorem enumD_len : ∀ (i : Nat) (xs : List D), (enumD i xs).length = xs.length
  | _, [] => rfl
  | i, x :: xs => by rw [enumD, List.length_cons, enumD_len, List.length_cons]
theorem enumD_get : ∀ (xs : List D) (k i : Nat) (d : D), (enumD k xs)[i]? = some d → ∃ x, xs[i]? = some x ∧ d = .tupW [.int ((k + i : Nat) : Int), x]
  | [], k, i, d, h => by simp [enumD] at h
  | x :: xs, k, 0, d, h => by
    simp [enumD] at h
    exact ⟨x, rfl, h.symm⟩
  | x :: xs, k, i + 1, d, h => by
    simp [enumD] at h
    obtain ⟨y, h1, h2⟩ := enumD_get xs (k + 1) i d h
    exact ⟨y, by simpa using h1, by rw [h2, show k + 1 + i = k + (i + 1) by omega]⟩
def noStr : X → Bool
  | .im (.str _) => false
  | .im (.scr _) => false
  | _ => true
def diEnum (de : Ev → RE X) : Ev → RE Dn.Its := fun env => (de env).bind fun x e1 => opt ((ofX e1 x).bind fun r => if noStr x = true then some (enumD 0 r.1, r.2) else none) e1
def iEnumU (K : Fg) (te : TE) : TI := fun σ H R => te σ H fun v H1 => (∃ a xs, v = V.ref a ∧ SqL K H1 a xs ∧ R (Ite K a) H1) ∨ (∃ a xs, v = V.ref a ∧ SqT K H1 a xs ∧ R (IteT K a) H1)
theorem pi_enumU {X : Cx} {e : Expr} {te : TE} {p pos tpos : Pos} {elts : List Expr} {kk : Nat} (hg : Gl X "enumerate") (hm : X.mg "enumerate" = none) (ha : PA X [e] (tCons te tNil)) (hs : starEach [e] X.env = [(false, eval e X.env)] := by rfl) :
    PI X (.Tuple elts kk tpos) (.Call (.Name "enumerate" p) [e] [] pos) (iEnumU X.K te) := by
  refine ⟨fun pins s σ H R I h => ?_⟩
  refine Call_ (ld_blt I hg hm boot_enumerate (PyProof.Rows.callWith_type1 (thn (ha.run pos pins s σ H (fun vs H1 => (∃ a xs, vs = [V.ref a] ∧ SqL X.K H1 a xs ∧ R (Ite X.K a) H1) ∨ (∃ a xs, vs = [V.ref a] ∧ SqT X.K H1 a xs ∧ R (IteT X.K a) H1)) I ?_) fun us s1 ⟨vs, H1, I1, r1, q1⟩ => ?_) hs rfl))
  · have h' : te σ H fun v H1 => (∃ a xs, v = V.ref a ∧ SqL X.K H1 a xs ∧ R (Ite X.K a) H1) ∨ (∃ a xs, v = V.ref a ∧ SqT X.K H1 a xs ∧ R (IteT X.K a) H1) := h
    show te σ H fun v H1 => (∃ a xs, [v] = [V.ref a] ∧ SqL X.K H1 a xs ∧ R (Ite X.K a) H1) ∨ (∃ a xs, [v] = [V.ref a] ∧ SqT X.K H1 a xs ∧ R (IteT X.K a) H1)
    simpa using h'
  rcases q1 with ⟨a, xs, ex, hq, q⟩ | ⟨a, xs, ex, hq, q⟩
  · subst ex
    cases r1 with
    | cons r rr =>
      cases rr
      cases r
      obtain ⟨its, rv, p', hz⟩ := I1.list hq
      refine call_enumerate_list p'.isList fun h' he hit hsz hk => wpAny_pyIter_enum he ?_
      have I2 : Inv X pins σ H1 { s1 with heap := h' } := I1.kept (t' := s1.toks) hk
      refine ⟨s1.heap.objs.size + 1, [s1.heap.objs.size + 1, s1.heap.objs.size], _, _, H1, rfl, I2, turn_enum a (s1.heap.objs.size + 1) s1.heap.objs.size, ⟨⟨.none, he⟩, hit, Nat.succ_ne_self _⟩, fun b hb => ?_, q⟩
      have e' : b = s1.heap.objs.size + 1 ∨ b = s1.heap.objs.size := by simpa using hb
      have hle : s1.heap.objs.size ≤ b := by
        rcases e' with z | z
        · rw [z]; exact Nat.le_add_right _ _
        · rw [z]; exact Nat.le_refl _
      exact I1.fpOk hle (I1.hok.fresh hle)
  · subst ex
    cases r1 with
    | cons r rr =>
      cases rr
      cases r
      obtain ⟨its, rv, p', hz⟩ := I1.tuple hq
      have hal : a < s1.heap.objs.size := by obtain ⟨o, q, _⟩ := p'; exact Heap.lt_size q
      refine dn_call_enumerate_tuple p' fun h' he hit hsz hk => wpAny_pyIter_enum he ?_
      have I2 : Inv X pins σ H1 { s1 with heap := h' } := I1.kept (t' := s1.toks) hk
      refine ⟨s1.heap.objs.size + 1, [s1.heap.objs.size + 1, s1.heap.objs.size], _, _, H1, rfl, I2, turn_enumT a (s1.heap.objs.size + 1) s1.heap.objs.size, ⟨⟨.none, he⟩, hit, Nat.succ_ne_self _, Nat.ne_of_gt (Nat.lt_succ_of_lt hal), Nat.ne_of_lt hal⟩, fun b hb => ?_, q⟩
      have e' : b = s1.heap.objs.size + 1 ∨ b = s1.heap.objs.size := by simpa using hb
      have hle : s1.heap.objs.size ≤ b := by
        rcases e' with z | z
        · rw [z]; exact Nat.le_add_right _ _
        · rw [z]; exact Nat.le_refl _
      exact I1.fpOk hle (I1.hok.fresh hle)
section
open Dn
variable {K : Fg} [WD K] {W : WS} {M M' M1 M2 : Hp} {env env' env1 env2 : Ev} {σ σ' σ1 : L2.St} {H H' H1 H2 : Hp} {x y : X} {v u : V} {te : TE} {de : Ev → RE X} {ta : TA} {da : Ev → RE (List X)}
theorem new_pair {a b : D} {v w : V} {T : Addr} (ha : Rep K M a v) (hb : Rep K M b w) (e : Same M H) (n : H T = none) : Ext M H (upd M T (.tup [v, w])) (upd H T (.tup [v, w])) ∧ Rep K (upd M T (.tup [v, w])) (.tupW [a, b]) (.ref T) := by
  have ex := ext_tup (o := .tup [v, w]) e n
  exact ⟨ex, rep_tupW (SqT.of upd_same) (Reps.cons (Rep.mono ex.exM _ _ ha) (Reps.cons (Rep.mono ex.exM _ _ hb) Reps.nil))⟩
theorem it_enumL {a : Addr} {vs : List V} {xs : List D} {as : List Addr} (r : Reps K M xs vs) (src : ∀ M2 H2, Same M M2 → Same M2 H2 → (∀ b ∈ as, ∀ o, H b = some o → H2 b = some o) → SqL K H2 a vs) : ItOk K (Ite K a) as M H (enumD 0 xs) where
  go := fun M2 H2 i d q e1 e2 f => by
    obtain ⟨x, h1, rfl⟩ := enumD_get _ _ _ _ q
    obtain ⟨v, h3, h4⟩ := r.get h1
    have s := src M2 H2 e1 e2 f
    refine ⟨⟨vs, v, s, h3⟩, fun w H3 hy => ?_⟩
    obtain ⟨T, x', rfl, n, rfl, hy⟩ := hy
    have e : x' = v := Option.some.inj ((hy vs s).symm.trans h3)
    subst e
    rw [Nat.zero_add]
    obtain ⟨ex, rp⟩ := new_pair (T := T) (rep_int (i := (i : Int))) (Rep.mono e1 _ _ h4) e2 n
    exact ⟨_, ex, rp⟩
  stop := fun M2 H2 e1 e2 f => ⟨vs, src M2 H2 e1 e2 f, by rw [enumD_len, r.length]; exact Nat.le_refl _⟩
theorem it_enumT {a : Addr} {vs : List V} {xs : List D} (r : Reps K M xs vs) (h : SqT K M a vs) : ItOk K (IteT K a) [] M H (enumD 0 xs) where
  go := fun M2 H2 i d q e1 e2 f => by
    obtain ⟨x, h1, rfl⟩ := enumD_get _ _ _ _ q
    obtain ⟨v, h3, h4⟩ := r.get h1
    have s : SqT K H2 a vs := sqT_mono (e1.trans e2) h
    refine ⟨⟨vs, v, s, h3⟩, fun w H3 hy => ?_⟩
    obtain ⟨T, x', rfl, n, rfl, hy⟩ := hy
    have e : x' = v := Option.some.inj ((hy vs s).symm.trans h3)
    subst e
    rw [Nat.zero_add]
    obtain ⟨ex, rp⟩ := new_pair (T := T) (rep_int (i := (i : Int))) (Rep.mono e1 _ _ h4) e2 n
    exact ⟨_, ex, rp⟩
  stop := fun M2 H2 e1 e2 f => ⟨vs, sqT_mono (e1.trans e2) h, by rw [enumD_len, r.length]⟩
theorem di_enum (h : DE K W te de) : DI K W (iEnumU K te) (diEnum de) := fun M σ H env hh => by
  refine Sat.bind (c := fun v H1 (R : It → Hp → Prop) => (∃ a xs, v = V.ref a ∧ SqL K H1 a xs ∧ R (Ite K a) H1) ∨ (∃ a xs, v = V.ref a ∧ SqT K H1 a xs ∧ R (IteT K a) H1)) back_i hh (h M σ H env hh) (fun Q q => q) fun M1 H1 env1 x v g1 s1 hh1 r1 => ?_
  obtain ⟨r, n⟩ := r1
  cases x with
  | im d =>
    cases d with
    | lst xs =>
      refine fun Q k => ?_
      simp only [RepX, Rep] at r
      obtain ⟨a, vs, rfl, h1, h2⟩ := r
      exact .inl ⟨a, vs, rfl, SqL.of (hh1.ex _ _ h1), k _ M1 H1 .refl (.refl _) hh1 ⟨[], (fun a z => nomatch z), it_enumL h2 fun M2 H2 e1 e2 f => SqL.of (e2 _ _ (e1 _ _ h1)), (fun j z => nomatch z)⟩⟩
    | tup xs =>
      refine fun Q k => ?_
      simp only [RepX, Rep] at r
      obtain ⟨a, vs, rfl, h1, h2⟩ := r
      exact .inr ⟨a, vs, rfl, sqT_mono hh1.ex (SqN.t h1), k _ M1 H1 .refl (.refl _) hh1 ⟨[], (fun a z => nomatch z), it_enumT h2 (SqN.t h1), (fun j z => nomatch z)⟩⟩
    | tupW xs =>
      refine fun Q k => ?_
      simp only [RepX, Rep] at r
      obtain ⟨a, vs, rfl, h1, h2⟩ := r
      exact .inr ⟨a, vs, rfl, sqT_mono hh1.ex h1, k _ M1 H1 .refl (.refl _) hh1 ⟨[], (fun a z => nomatch z), it_enumT h2 h1, (fun j z => nomatch z)⟩⟩
    | _ => trivial
  | ow o =>
    cases o with
    | lst xs =>
      refine fun Q k => ?_
      obtain ⟨a, rfl, ⟨vs, h1, h2⟩, m, no⟩ := r
      exact .inl ⟨a, vs, rfl, SqL.of h1, k _ M1 H1 .refl (.refl _) hh1 ⟨[a], fun b hb => by
        have : b = a := by simpa using hb
        subst this
        exact ⟨no, _, h1⟩, it_enumL h2 fun M2 H2 e1 e2 f => SqL.of (f a (by simp) _ h1), (fun j z => nomatch z)⟩⟩
    | _ => trivial
  | sl j =>
    obtain ⟨⟨p, o, e1⟩, e2⟩ := r
    show Sat K W M1 σ H1 env1 (opt ((ofX env1 (.sl j)).bind fun r => if noStr (.sl j) = true then some (enumD 0 r.1, r.2) else none) env1) (RI K σ) _
    rw [ofX_sl e1]
    cases o with
    | lst xs =>
      refine fun Q k => ?_
      obtain ⟨a, e4, ⟨vs, h1, h2⟩, m⟩ := hh1.slot j _ e1
      rw [e2] at e4
      cases e4
      exact .inl ⟨a, vs, rfl, SqL.of h1, k _ M1 H1 .refl (.refl _) hh1 ⟨[a], fun b hb => by
        have : b = a := by simpa using hb
        subst this
        refine ⟨fun z => ?_, _, h1⟩
        obtain ⟨i, p2, o2, hi, q1, q2⟩ := hide_own z
        exact hh1.dj i j _ p2 o2 p _ hi q1 e1 q2 e2, it_enumL h2 fun M2 H2 e1 e2 f => SqL.of (f a (by simp) _ h1), fun i z => by cases z; exact ⟨p, _, e1⟩⟩⟩
    | _ => trivial
/-! ### t[::-1] -/
def pRev : D → Option X
  | .tup xs => some (.im (.tup xs.reverse))
  | _ => none
theorem de_revT (h : DE K W te de) : DE K W (tRevT K te) (dUn pRev de) := by
  refine de_un (r := fun x H1 Q => ∃ a xs, x = V.ref a ∧ SqT K H1 a xs ∧ ∀ p (o : Obj), H1 p = none → o.dict = none → Q (.ref p) (upd H1 p (.frz o (.tup xs.reverse)))) ?_ h
  intro M H dx x v e hx hf Q q
  unfold pRev at hf
  split at hf
  · cases hf
    obtain ⟨a, vs, rfl, h1, h2⟩ := hx.tup e
    exact ⟨a, vs, rfl, h1, fun p o n hd => q.tup e h2.reverse n hd⟩
  · cases hf
/-! ### all, any, sum, max, min of lists -/
def blsD : List D → Option (List Bool)
  | [] => some []
  | .bl b :: r => (blsD r).map (b :: ·)
  | _ :: _ => none
theorem blsD_rep : ∀ {xs : List D} {vs : List V} {bs : List Bool}, Reps K M xs vs → blsD xs = some bs → vs = bs.map V.bl
  | [], vs, bs, h, e => by
    simp only [Reps] at h
    cases e
    exact h
  | x :: xs, vs, bs, h, e => by
    simp only [Reps] at h
    obtain ⟨v, r, rfl, h1, h2⟩ := h
    cases x with
    | bl b =>
      obtain ⟨cs, e1, rfl⟩ := Option.map_eq_some_iff.mp (show (blsD xs).map (b :: ·) = some bs from e)
      rw [blsD_rep h2 e1, show v = .bl b by simpa [Rep] using h1]
      rfl
    | _ => cases e
def intsD : List D → Option (List Int)
  | [] => some []
  | .int b :: r => (intsD r).map (b :: ·)
  | _ :: _ => none
theorem intsD_rep : ∀ {xs : List D} {vs : List V} {bs : List Int}, Reps K M xs vs → intsD xs = some bs → vs = bs.map V.int
  | [], vs, bs, h, e => by
    simp only [Reps] at h
    cases e
    exact h
  | x :: xs, vs, bs, h, e => by
    simp only [Reps] at h
    obtain ⟨v, r, rfl, h1, h2⟩ := h
    cases x with
    | int b =>
      obtain ⟨cs, e1, rfl⟩ := Option.map_eq_some_iff.mp (show (intsD xs).map (b :: ·) = some bs from e)
      rw [intsD_rep h2 e1, show v = .int b by simpa [Rep] using h1]
      rfl
    | _ => cases e
def pAll : List D → Option X
  | [.lst xs] => (blsD xs).map fun bs => .im (.bl (bs.all id))
  | _ => none
def pAny : List D → Option X
  | [.lst xs] => (blsD xs).map fun bs => .im (.bl (bs.any id))
  | _ => none
theorem ok_all : CallOk K (rAll K) pAll := by
  intro M H ds x vs e r hf Q q
  unfold pAll at hf
  split at hf
  · obtain ⟨bs, h1, rfl⟩ := Option.map_eq_some_iff.mp hf
    obtain ⟨v, rfl, h⟩ := one_rd r
    obtain ⟨a, us, rfl, h2, h3⟩ := h.lst e
    rw [blsD_rep h3 h1] at h2
    exact ⟨a, bs, rfl, SqL.of h2, q.im0 e rep_bl⟩
  · cases hf
theorem ok_any : CallOk K (rAny K) pAny := by
  intro M H ds x vs e r hf Q q
  unfold pAny at hf
  split at hf
  · obtain ⟨bs, h1, rfl⟩ := Option.map_eq_some_iff.mp hf
    obtain ⟨v, rfl, h⟩ := one_rd r
    obtain ⟨a, us, rfl, h2, h3⟩ := h.lst e
    rw [blsD_rep h3 h1] at h2
    exact ⟨a, bs, rfl, SqL.of h2, q.im0 e rep_bl⟩
  · cases hf
def pSum : List D → Option X
  | [.lst xs] => (intsD xs).map fun bs => .im (.int bs.sum)
  | _ => none
theorem ok_sum : CallOk K (rSum K) pSum := by
  intro M H ds x vs e r hf Q q
  unfold pSum at hf
  split at hf
  · obtain ⟨bs, h1, rfl⟩ := Option.map_eq_some_iff.mp hf
    obtain ⟨v, rfl, h⟩ := one_rd r
    obtain ⟨a, us, rfl, h2, h3⟩ := h.lst e
    rw [intsD_rep h3 h1] at h2
    exact ⟨a, bs, rfl, SqL.of h2, q.im0 e rep_int⟩
  · cases hf
/-- the greatest, the least of intsD -/
def maxI : List Int → Option Int
  | [] => none
  | x :: xs => some (xs.foldl (fun a b => if a < b then b else a) x)
def minI : List Int → Option Int
  | [] => none
  | x :: xs => some (xs.foldl (fun a b => if b < a then b else a) x)
theorem maxI_go : ∀ (xs : List Int) (x : Int), (xs.foldl (fun a b => if a < b then b else a) x = x ∨ xs.foldl (fun a b => if a < b then b else a) x ∈ xs) ∧ x ≤ xs.foldl (fun a b => if a < b then b else a) x ∧ ∀ y ∈ xs, y ≤ xs.foldl (fun a b => if a < b then b else a) x
  | [], x => ⟨.inl rfl, Int.le_refl _, fun y h => nomatch h⟩
  | z :: xs, x => by
    rw [List.foldl_cons]
    obtain ⟨h1, h2, h3⟩ := maxI_go xs (if x < z then z else x)
    refine ⟨?_, ?_, fun y hy => ?_⟩
    · rcases h1 with h1 | h1
      · rw [h1]
        by_cases h : x < z
        · rw [if_pos h]; exact .inr (by simp)
        · rw [if_neg h]; exact .inl rfl
      · exact .inr (by simp [h1])
    · refine Int.le_trans ?_ h2
      split <;> omega
    · rcases List.mem_cons.mp hy with rfl | hy
      · refine Int.le_trans ?_ h2
        split <;> omega
      · exact h3 y hy
theorem minI_go : ∀ (xs : List Int) (x : Int), (xs.foldl (fun a b => if b < a then b else a) x = x ∨ xs.foldl (fun a b => if b < a then b else a) x ∈ xs) ∧ xs.foldl (fun a b => if b < a then b else a) x ≤ x ∧ ∀ y ∈ xs, xs.foldl (fun a b => if b < a then b else a) x ≤ y
  | [], x => ⟨.inl rfl, Int.le_refl _, fun y h => nomatch h⟩
  | z :: xs, x => by
    rw [List.foldl_cons]
    obtain ⟨h1, h2, h3⟩ := minI_go xs (if z < x then z else x)
    refine ⟨?_, ?_, fun y hy => ?_⟩
    · rcases h1 with h1 | h1
      · rw [h1]
        by_cases h : z < x
        · rw [if_pos h]; exact .inr (by simp)
        · rw [if_neg h]; exact .inl rfl
      · exact .inr (by simp [h1])
    · refine Int.le_trans h2 ?_
      split <;> omega
    · rcases List.mem_cons.mp hy with rfl | hy
      · refine Int.le_trans h2 ?_
        split <;> omega
      · exact h3 y hy
theorem maxI_ok {xs : List Int} {m : Int} (h : maxI xs = some m) : 0 < xs.length ∧ m ∈ xs ∧ ∀ y ∈ xs, y ≤ m := by
  cases xs with
  | nil => cases h
  | cons x xs =>
    cases h
    obtain ⟨h1, h2, h3⟩ := maxI_go xs x
    refine ⟨by simp, ?_, fun y hy => ?_⟩
    · rcases h1 with h1 | h1
      · rw [h1]; simp
      · simp [h1]
    · rcases List.mem_cons.mp hy with rfl | hy
      · exact h2
      · exact h3 y hy
theorem minI_ok {xs : List Int} {m : Int} (h : minI xs = some m) : 0 < xs.length ∧ m ∈ xs ∧ ∀ y ∈ xs, m ≤ y := by
  cases xs with
  | nil => cases h
  | cons x xs =>
    cases h
    obtain ⟨h1, h2, h3⟩ := minI_go xs x
    refine ⟨by simp, ?_, fun y hy => ?_⟩
    · rcases h1 with h1 | h1
      · rw [h1]; simp
      · simp [h1]
    · rcases List.mem_cons.mp hy with rfl | hy
      · exact h2
      · exact h3 y hy
theorem maxI_eq {xs : List Int} {m n : Int} (h : maxI xs = some n) (h1 : m ∈ xs) (h2 : ∀ y ∈ xs, y ≤ m) : n = m := by
  obtain ⟨_, a, b⟩ := maxI_ok h
  have := h2 n a
  have := b m h1
  omega
theorem minI_eq {xs : List Int} {m n : Int} (h : minI xs = some n) (h1 : m ∈ xs) (h2 : ∀ y ∈ xs, m ≤ y) : n = m := by
  obtain ⟨_, a, b⟩ := minI_ok h
  have := h2 n a
  have := b m h1
  omega
def pMax : List D → Option X
  | [.lst xs] => ((intsD xs).bind maxI).map fun m => .im (.int m)
  | [.int i, .int j] => some (.im (.int (if j > i then j else i)))
  | _ => none
def pMin : List D → Option X
  | [.lst xs] => ((intsD xs).bind minI).map fun m => .im (.int m)
  | [.int i, .int j] => some (.im (.int (if j < i then j else i)))
  | _ => none
abbrev rMaxU (K : Fg) : List V → Hp → VK → Prop := fun xs H Q => rMax K xs H Q ∨ ∃ i j, xs = [.int i, .int j] ∧ Q (.int (if j > i then j else i)) H
abbrev rMinU (K : Fg) : List V → Hp → VK → Prop := fun xs H Q => rMin K xs H Q ∨ ∃ i j, xs = [.int i, .int j] ∧ Q (.int (if j < i then j else i)) H
theorem call_maxU {X : Cx} (hc : X.calm = true) : CallR X (.builtin "max") (rMaxU X.K) := (cr_max hc).or (call_max2 hc)
theorem call_minU {X : Cx} (hc : X.calm = true) : CallR X (.builtin "min") (rMinU X.K) := (cr_min hc).or (call_min2 hc)
theorem two_rd {d d2 : D} {vs : List V} (r : Paired (Rd2 K M H) [d, d2] vs) : ∃ v w, vs = [v, w] ∧ Rd2 K M H d v ∧ Rd2 K M H d2 w := by
  cases r with
  | cons a b =>
    cases b with
    | cons b c => cases c; exact ⟨_, _, rfl, a, b⟩
theorem ok_max : CallOk K (rMaxU K) pMax := by
  intro M H ds x vs e r hf Q q
  unfold pMax at hf
  split at hf
  · obtain ⟨m, h1, rfl⟩ := Option.map_eq_some_iff.mp hf
    obtain ⟨bs, h0, h1⟩ := Option.bind_eq_some_iff.mp h1
    obtain ⟨v, rfl, h⟩ := one_rd r
    obtain ⟨a, us, rfl, h2, h3⟩ := h.lst e
    rw [intsD_rep h3 h0] at h2
    exact .inl ⟨a, bs, rfl, SqL.of h2, (maxI_ok h1).1, fun m' hm hy => by rw [← maxI_eq h1 hm hy]; exact q.im0 e rep_int⟩
  · cases hf
    obtain ⟨v, w, rfl, h1, h2⟩ := two_rd r
    rw [h1.int, h2.int]
    exact .inr ⟨_, _, rfl, q.im0 e rep_int⟩
  · cases hf
theorem ok_min : CallOk K (rMinU K) pMin := by
  intro M H ds x vs e r hf Q q
  unfold pMin at hf
  split at hf
  · obtain ⟨m, h1, rfl⟩ := Option.map_eq_some_iff.mp hf
    obtain ⟨bs, h0, h1⟩ := Option.bind_eq_some_iff.mp h1
    obtain ⟨v, rfl, h⟩ := one_rd r
    obtain ⟨a, us, rfl, h2, h3⟩ := h.lst e
    rw [intsD_rep h3 h0] at h2
    exact .inl ⟨a, bs, rfl, SqL.of h2, (minI_ok h1).1, fun m' hm hy => by rw [← minI_eq h1 hm hy]; exact q.im0 e rep_int⟩
  · cases hf
    obtain ⟨v, w, rfl, h1, h2⟩ := two_rd r
    rw [h1.int, h2.int]
    exact .inr ⟨_, _, rfl, q.im0 e rep_int⟩
  · cases hf
/-! ### a method that changes a slot's object and reads its arguments -/
def dMutR (i : Nat) (isT : OD → Bool) (f : OD → List D → Option (D × OD)) (da : Ev → RE (List X)) : Ev → RE X := fun env => if ((slotOf env i).map fun r => isT r.2) = some true then (da env).bind fun xs e1 => optE ((rds e1 xs).bind fun ds => (slotOf e1 i).bind fun po => (f po.2 ds).bind fun r => some (X.im r.1, e1.set i (.ow po.1 r.2))) else .bad
def MutOkR (K : Fg) [WD K] (r : V → List V → Hp → VK → Prop) (f : OD → List D → Option (D × OD)) : Prop := ∀ M H l o ds vs d o', Same M H → At K M H l o → M l = none → Paired (Rd2 K M H) ds vs → f o ds = some (d, o') → ∀ Q : VK, (∀ z ho, At K M (upd H l ho) l o' → Rep K M d z → Q z (upd H l ho)) → r (.ref l) vs H Q
theorem de_mutR {i : Nat} {T : String} {isT : OD → Bool} {r : V → List V → Hp → VK → Prop} {f : OD → List D → Option (D × OD)} (hT : TyOk K T isT) (hr : MutOkR K r f) (ha : DA K W ta da) : DE K W (tBM K T r (tVar i) ta) (dMutR i isT f da) := fun M σ H env hh => by
  have ht : ∀ σ H Q v, σ[i]? = some (some v) → tyV K T v H → ta σ H (fun xs H2 => r v xs H2 Q) → tBM K T r (tVar i) ta σ H Q := fun σ H Q v e ty q => ⟨v, e, ty, q⟩
  have h1 := ha M σ H env hh
  unfold dMutR
  by_cases hc : ((slotOf env i).map fun r => isT r.2) = some true
  · rw [if_pos hc]
    obtain ⟨⟨p0, o0⟩, q1, q2⟩ := Option.map_eq_some_iff.mp hc
    obtain ⟨l, es, a0, m0⟩ := hh.slot i _ (slotOf_ok q1)
    have ty := hT M H l o0 a0 q2
    cases e1 : da env with
    | bad => trivial
    | exc e env1 => rw [e1] at h1; exact fun Q k => ht σ H Q _ es ty (h1 _ k)
    | ok xs env1 =>
      rw [e1] at h1
      show Sat K W M σ H env (optE ((rds env1 xs).bind fun ds => (slotOf env1 i).bind fun po => (f po.2 ds).bind fun r => some (X.im r.1, env1.set i (.ow po.1 r.2)))) (RX K σ) _
      cases e2 : ((rds env1 xs).bind fun ds => (slotOf env1 i).bind fun po => (f po.2 ds).bind fun r => some (X.im r.1, env1.set i (.ow po.1 r.2))) with
      | none => trivial
      | some rr =>
        obtain ⟨ds, t1, e3⟩ := Option.bind_eq_some_iff.mp e2
        obtain ⟨⟨p, o⟩, t2, e4⟩ := Option.bind_eq_some_iff.mp e3
        obtain ⟨⟨d, o'⟩, t3, e5⟩ := Option.bind_eq_some_iff.mp e4
        cases e5
        refine fun Q k => ht σ H Q _ es ty (h1 _ fun vs M1 H1 g s hh1 r1 => ?_)
        have rs := rds_ok hh1 (ra_x r1) t1
        obtain ⟨l', es', a', m'⟩ := hh1.slot i _ (slotOf_ok t2)
        rw [es] at es'
        cases es'
        refine hr _ H1 l o ds vs d o' hh1.ex a' m' rs t3 Q fun z ho az rz => ?_
        obtain ⟨w1, w2, w3⟩ := own_write hh1 (slotOf_ok t2) es az
        exact k z _ _ (g.trans hh w2) (s.trans w3) w1 (rx_im rz)
  · rw [if_neg hc]
    trivial
def mExt : OD → List D → Option (D × OD)
  | .lst xs, [.lst ys] => if fit (xs.length + ys.length) then some (.non, .lst (xs ++ ys)) else none
  | _, _ => none
theorem ok_ext : MutOkR K rExtend mExt := by
  intro M H l o ds vs d o' e a m r hf Q k
  unfold mExt at hf
  split at hf
  · split at hf
    · rename_i hz
      cases hf
      obtain ⟨v, rfl, h⟩ := one_rd r
      obtain ⟨b, ws, rfl, h3, h4⟩ := h.lst e
      obtain ⟨us, h1, h2⟩ := a
      exact ⟨l, b, us, ws, rfl, rfl, h1, h3, by rw [← h2.length, ← h4.length]; exact fit_ok hz, k _ _ ⟨_, upd_same, h2.append h4⟩ rep_non⟩
    · cases hf
  · cases hf
abbrev rInsert : V → List V → Hp → VK → Prop := fun x vs H Q => ∃ (l : Addr) (xs : List V) (i : Int) (y : V), x = .ref l ∧ vs = [.int i, y] ∧ H l = some (.lst xs) ∧ xs.length < sizeLine ∧ 0 ≤ i ∧ i < 2 ^ 63 ∧ Q .non (upd H l (.lst (xs.take i.toNat ++ [y] ++ xs.drop i.toNat)))
def mIns : OD → List D → Option (D × OD)
  | .lst xs, [.int i, d] => if 0 ≤ i ∧ rgOk i = true ∧ fit (xs.length + 1) = true then some (.non, .lst (xs.take i.toNat ++ [d] ++ xs.drop i.toNat)) else none
  | _, _ => none
theorem ok_ins : MutOk K rInsert mIns := by
  intro M H l o ds vs d o' e a m r hf Q k
  unfold mIns at hf
  split at hf
  · split at hf
    · rename_i xs i d0 hz
      cases hf
      simp only [Reps] at r
      obtain ⟨v, r1, rfl, h, v2, r2, rfl, h5, rfl⟩ := r
      obtain ⟨us, h1, h2⟩ := a
      have hv : v = .int i := by simpa [Rep] using h
      subst hv
      have := (rgOk_ok hz.2.1).1
      refine ⟨l, us, _, v2, rfl, rfl, h1, lst_len h2 hz.2.2, hz.1, by omega, k _ _ ⟨_, upd_same, ?_⟩ rep_non⟩
      exact ((h2.take _).append (Reps.cons h5 Reps.nil)).append (h2.drop _)
    · cases hf
  · cases hf
def pAugAdd : D → D → Option X
  | .int i, .int j => some (.im (.int (i + j)))
  | _, _ => none
theorem ok_augAdd : OpOk K (ipI fun i j => i + j) pAugAdd := by
  intro M H dx dy x v u e hx hy hf Q q
  unfold pAugAdd at hf
  split at hf
  · cases hf
    rw [hx.int, hy.int]
    exact ⟨_, _, rfl, rfl, q.im0 e rep_int⟩
  · cases hf
theorem pe_globE {X : Cx} {x : Str} {pos : Pos} {v : V} (hg : Gl X x) (hm : ∃ u, X.mg x = some u ∧ RelV v u) (hd : (x == ("__debug__" : Str)) = false := by decide) : PE X (.Name x pos) (tC v) := by
  obtain ⟨u, h, r⟩ := hm
  exact pe_glob hg h r hd
end
end Dn

namespace Dn
open PySem PySem.Spec PyProof.Rows L2
/-! ### a slot's object is frozen -/
def fzE (i : Nat) (env : Ev) : Option Ev := match env[i]? with
  | some (.im _) => some env
  | some (.ow false o) => o.toD.map fun d => env.set i (.im d)
  | some .no => some env
  | _ => none
def fzAll : List Nat → Ev → Option Ev
  | [], env => some env
  | i :: is, env => (fzE i env).bind (fzAll is)
def dFz (is : List Nat) (ds : Ev → RS) : Ev → RS := fun env => match fzAll is env with
  | some e => ds e
  | none => .bad
section
variable {K : Fg} [WD K] {W : WS} {M M' M1 M2 : Hp} {env env' env1 env2 : Ev} {σ σ' σ1 : L2.St} {H H' H1 H2 : Hp} {x y : X} {v u : V} {te : TE} {de : Ev → RE X} {ta : TA} {da : Ev → RE (List X)} {ts : TS} {ds : Ev → RS}
theorem fzE_ok {i : Nat} (hh : Holds K M env σ H) (e : fzE i env = some env') : ∃ M', Grow M env σ H M' env' σ H ∧ Holds K M' env' σ H := by
  unfold fzE at e
  split at e
  · cases e
    exact ⟨M, .refl, hh⟩
  · rename_i o e0
    obtain ⟨d, e1, rfl⟩ := Option.map_eq_some_iff.mp e
    have hi : i < env.length := (List.getElem?_eq_some_iff.mp e0).1
    obtain ⟨l, es, a, m⟩ := hh.slot i _ e0
    obtain ⟨u, hu⟩ := a.there
    have sm : Same M (upd M l u) := fun b o q => by
      rw [upd_ne (ne_of_none q m)]
      exact q
    have ow : ∀ l2, Own (env.set i (.im d)) σ l2 → Own env σ l2 ∧ l2 ≠ l := fun l2 ⟨j, p, o2, q1, q2⟩ => by
      by_cases hj : j = i
      · subst hj
        rw [List.getElem?_set_self hi] at q1
        cases q1
      · rw [List.getElem?_set_ne (Ne.symm hj)] at q1
        exact ⟨⟨j, p, o2, q1, q2⟩, fun z => hh.dj j i l2 p o2 false o hj q1 e0 q2 (z ▸ es)⟩
    have rp : Rep K (upd M l u) d (.ref l) := by
      cases o with
      | lst xs =>
        cases e1
        obtain ⟨vs, h1, h2⟩ := a
        rw [h1] at hu
        cases hu
        simp only [Rep]
        exact ⟨l, vs, rfl, upd_same, Reps.mono sm _ _ h2⟩
      | ob c fs =>
        cases e1
        obtain ⟨dx, fvs, h1, h2⟩ := a
        rw [h1] at hu
        cases hu
        simp only [Rep]
        exact ⟨l, dx, fvs, rfl, upd_same, RepF.mono sm _ _ h2⟩
      | dk kvs =>
        cases e1
        obtain ⟨o, vs, h1, h3, h2⟩ := a
        rw [h1] at hu
        cases hu
        simp only [Rep]
        exact ⟨l, o, vs, rfl, upd_same, h3, repG_iff.mpr (RepK.mono sm h2)⟩
      | dt kvs =>
        cases e1
        obtain ⟨o, vs, h1, h3, h2⟩ := a
        rw [h1] at hu
        cases hu
        simp only [Rep]
        exact ⟨l, o, vs, rfl, upd_same, h3, repH_iff.mpr (RepT.mono sm h2)⟩
    refine ⟨upd M l u, ⟨sm, fun _ _ q _ => q, fun b o2 q => ?_, fun l2 z => .inl (ow l2 z).1, fun j s q pn => ⟨rfl, ?_⟩, fun _ q => q, by rw [List.length_set]⟩, ⟨fun b o2 q => ?_, by rw [List.length_set]; exact hh.len, fun j s q => ?_, fun j k l2 p1 o1 p2 o2 hjk q1 q2 q3 q4 => ?_⟩⟩
    · by_cases hb : b = l
      · subst hb
        exact .inr (.inr ⟨i, false, o, e0, es⟩)
      · rw [upd_ne hb] at q
        exact .inl q
    · have hj : j ≠ i := fun z => by
        subst z
        rw [e0] at q
        cases q
        cases pn
      exact ⟨s, by rw [List.getElem?_set_ne (Ne.symm hj)]; exact q, rfl⟩
    · by_cases hb : b = l
      · subst hb
        rw [upd_same] at q
        cases q
        exact hu
      · rw [upd_ne hb] at q
        exact hh.ex _ _ q
    · by_cases hj : j = i
      · subst hj
        rw [List.getElem?_set_self hi] at q
        cases q
        exact ⟨_, es, rp⟩
      · rw [List.getElem?_set_ne (Ne.symm hj)] at q
        have := hh.slot j s q
        cases s with
        | no => trivial
        | hid => trivial
        | im d2 => obtain ⟨w, e2, r⟩ := this; exact ⟨w, e2, Rep.mono sm _ _ r⟩
        | ow p2 o2 =>
          obtain ⟨l2, e2, a2, m2⟩ := this
          have hne : l2 ≠ l := fun z => hh.dj j i l2 p2 o2 false o hj q e0 e2 (z ▸ es)
          exact ⟨l2, e2, a2.mono sm fun _ z => z, by rw [upd_ne hne]; exact m2⟩
    · have f : ∀ (j : Nat) (p : Bool) (o1 : OD), (env.set i (.im d))[j]? = some (Sl.ow p o1) → env[j]? = some (Sl.ow p o1) := fun j p o1 q => by
        by_cases hj : j = i
        · subst hj
          rw [List.getElem?_set_self hi] at q
          cases q
        · rwa [List.getElem?_set_ne (Ne.symm hj)] at q
      exact hh.dj j k l2 p1 o1 p2 o2 hjk (f j p1 o1 q1) (f k p2 o2 q2) q3 q4
  · cases e
    exact ⟨M, .refl, hh⟩
  · cases e
theorem fzAll_ok : ∀ (is : List Nat) {M : Hp} {env env' : Ev}, Holds K M env σ H → fzAll is env = some env' → ∃ M', Grow M env σ H M' env' σ H ∧ Holds K M' env' σ H
  | [], M, env, env', hh, e => by
    cases e
    exact ⟨M, .refl, hh⟩
  | i :: is, M, env, env', hh, e => by
    obtain ⟨e1, h1, h2⟩ := Option.bind_eq_some_iff.mp (show (fzE i env).bind (fzAll is) = some env' from e)
    obtain ⟨M1, g1, hh1⟩ := fzE_ok hh h1
    obtain ⟨M2, g2, hh2⟩ := fzAll_ok is hh1 h2
    exact ⟨M2, g1.trans hh g2, hh2⟩
theorem ds_fz {is : List Nat} (h : DS K W ts ds) : DS K W ts (dFz is ds) := fun M σ H env hh => by
  unfold dFz
  cases e : fzAll is env with
  | none => trivial
  | some env' =>
    obtain ⟨M', g, hh'⟩ := fzAll_ok is hh e
    exact SatS.later hh g (h M' σ H env' hh')
end
end Dn

namespace Dn
open PySem PySem.Spec PyProof.Rows L2 NdefX
/-! ### functions that know their class: super() -/
/-- an expression, a statement, a block, run as the code c itself -/
def PEC (X : Cx) (c : Code) (e : Expr) (t : TE) : Prop := ∀ (pins : List (Addr × Obj)) (s : Shared) (σ : L2.St) (H : Hp) (Q : VK), Inv X pins σ H s → t σ H Q → _root_.PySem.wpAt (model X.prog X.w) X.A c (eval e X.env) (EP X pins σ Q) X.xe s
def PSC (X : Cx) (c : Code) (st : Stmt) (t : TS) : Prop := ∀ (pins : List (Addr × Obj)) (s : Shared) (σ : L2.St) (H : Hp) (D : Ends), Inv X pins σ H s → t D σ H → _root_.PySem.wpAt (model X.prog X.w) X.A c (exec st X.env) (SP X pins D) X.xe s
def PSsC (X : Cx) (c : Code) (st : List Stmt) (t : TS) : Prop := ∀ (pins : List (Addr × Obj)) (s : Shared) (σ : L2.St) (H : Hp) (D : Ends), Inv X pins σ H s → t D σ H → _root_.PySem.wpAt (model X.prog X.w) X.A c (execs st X.env) (SP X pins D) X.xe s
section
variable {X : Cx} {c : Code} {e e1 e2 : Expr} {te te1 te2 : TE} {st : Stmt} {rest : List Stmt} {t u : TS} {pos : Pos}
theorem pec_of (h : PE X e te) : PEC X c e te := fun pins s σ H Q I q => PySem.wpAt_of_wpAny (h.run pins s σ H Q I q)
theorem psc_of (h : PS X st t) : PSC X c st t := fun pins s σ H D I q => PySem.wpAt_of_wpAny (h.run pins s σ H D I q)
theorem pssc_of (h : PSs X rest t) : PSsC X c rest t := fun pins s σ H D I q => PySem.wpAt_of_wpAny (h.run pins s σ H D I q)
theorem pssc_cons (h : PSC X c st t) (hr : PSsC X c rest u) : PSsC X c (st :: rest) (tSeq t u) := fun pins s σ H D I q => by
  refine ks_wpAt_execs_cons (ks_wpAt_mono (h pins s σ H { D with nx := u D } I q) (fun f s' hf => ?_) fun _ _ z => z)
  cases f with
  | next =>
    obtain ⟨σ', H', I', q'⟩ := hf
    exact hr pins s' σ' H' D I' q'
  | ret v => exact hf
  | brk => exact hf
  | cont => exact hf
theorem pssc_one (h : PSC X c st t) : PSsC X c [st] t := fun pins s σ H D I q => by
  refine ks_wpAt_execs_cons (ks_wpAt_mono (h pins s σ H D I q) (fun f s' hf => ?_) fun _ _ z => z)
  cases f with
  | next => exact PySem.wpAt_of_wpAny (wpAny_execs_nil hf)
  | ret v => exact hf
  | brk => exact hf
  | cont => exact hf
theorem psc_ret (h : PEC X c e te) : PSC X c (.Return (some e) pos) (tRet te) := fun pins s σ H D I q =>
  ks_wpAt_Return_some (ks_wpAt_mono (h pins s σ H D.rt I q) (fun v s' ⟨x, H', I', r, q'⟩ => ⟨x, σ, H', I', r, q'⟩) fun _ _ z => z)
theorem psc_expr (h : PEC X c e te) (hi : interactive X.env = false := by rfl) (hs : swapsWith e none pos.line X.env = pure false := by rfl) : PSC X c (.Expr e pos) (tDrop te) := fun pins s σ H D I q =>
  ks_wpAt_Expr_any (ks_wpAt_mono (h pins s σ H (fun _ H1 => D.nx σ H1) I q) (fun v s' ⟨x, H', I', r, q'⟩ => ⟨σ, H', I', q'⟩) fun _ _ z => z) hi hs
theorem psc_if {test : Expr} {body orelse : List Stmt} {tt : TT} (hc : PT X test tt) (ha : PSsC X c body t) (hb : PSsC X c orelse u) : PSC X c (.If test body orelse pos) (tIfS tt t u) := fun pins s σ H D I q => by
  refine ks_wpAt_If (PySem.wpAt_of_wpAny (wpAny_mono (hc.run pins s σ H _ I q) (fun b s' ⟨H', I', q'⟩ => ?_) fun _ _ z => z))
  cases b with
  | true => exact ha pins s' σ H' D I' (by simpa using q')
  | false => exact hb pins s' σ H' D I' (by simpa using q')
theorem pec_op {op : Operator} {r : R2} (ho : OpR X (binaryOp op) r) (ha : PEC X c e1 te1) (hb : PE X e2 te2) : PEC X c (.BinOp e1 op e2 pos) (tOp r te1 te2) := fun pins s σ H Q I q =>
  ks_wpAt_BinOp (ks_wpAt_mono (ha pins s σ H _ I q) (fun v s' ⟨x, H', I', rx, q'⟩ => wpAny_mono (hb.run pins s' σ H' _ I' q') (fun w s2 ⟨y, H2, I2, ry, q2⟩ => ho pins s2 σ H2 x y v w Q I2 rx ry q2) fun _ _ z => z) fun _ _ z => z)
end
/-- what the written part says of such a function, at f: its class at D, the cell at cc -/
structure FunC (K : Fg) (mf : Str) (D : Addr) (name qual : Str) (params : Arguments) (body : List Stmt) (scope : Scope) (f : Addr) (fd : FuncData) : Prop where
  ex : ∃ (oc cl : Value) (od cld : Option Addr) (kV doc pm : Value) (an : Option Addr) (ct : Value) (osl csl : Array (Option Value)) (cc cda : Addr) (cvs : Array Value) (ccl : Value) (cdd : Option Addr) (ccs : Array (Option Value)) (tf : Tok),
    fd = PySem.W.fnX name qual params body scope [("__class__", cc)] .none kV doc pm an (.ref cda) ct ∧ K.lookup f = some ⟨oc, od, .func fd, osl⟩ ∧ PySem.W.codeIn K (.ref cda) qual = true ∧
    K.lookup cc = some ⟨cl, cld, .cell (some (.ref D)), csl⟩ ∧ K.lookup cda = some ⟨ccl, cdd, .fields cvs, ccs⟩ ∧ cvs[2]? = some (.str mf tf)
  kp : PySem.W.keepIn K (.ref f) = true
abbrev nfC (name qual : Str) (params : Arguments) (body : List Stmt) (scope : Scope) (cc cda : Addr) : NF := ⟨name, qual, params, body, scope, [("__class__", cc)], cda⟩
theorem FunC.binds {K : Fg} [WD K] {mf : Str} {D : Addr} {name qual : Str} {params : Arguments} {body : List Stmt} {scope : Scope} {f : Addr} {fd : FuncData} {ps : List Str} (F : FunC K mf D name qual params body scope f fd)
    (h : ∀ (kV doc pm : Value) (an : Option Addr) (cdv ct : Value) (cl : List (Str × Addr)) (us : List Value), us.length = ps.length → bindArgs (PySem.W.fnX name qual params body scope cl .none kV doc pm an cdv ct) ⟨us, []⟩ = pure (ps.zip us)) : Binds K fd ps [] := by
  obtain ⟨oc, cl, od, cld, kV, doc, pm, an, ct, osl, csl, cc, cda, cvs, ccl, cdd, ccs, tf, rfl, lk, hcd, hcell, hcda, hmf⟩ := F.ex
  exact .all (h kV doc pm an (.ref cda) ct [("__class__", cc)])
section
variable {CX : CXT} {P : Program} {w : World} {K : Fg} [WD K] {mg : Str → Option Value} {base : Heap} {N ps : List Str} {mf : Str} {D : Addr} {name qual : Str} {params : Arguments} {body : List Stmt} {scope : Scope} {f : Addr} {fd : FuncData} {k : Nat} {sp : Sp}
/-- THE RULE: such a def by its body -/
theorem FunC.ok (F : FunC K mf D name qual params body scope f fd) (S : NScope N ps ["__class__"] scope) (len : ∀ vs H Q E, sp vs H Q E → vs.length = ps.length)
    (hbody : ∀ (cc cda : Addr) (A : Around) (outer : List Env) (s : Shared) (H : Hp) (vs : List V) (Q : VK) (E : XK), Room k (A.deeper (envF (nfC name qual params body scope cc cda) f s.heap.objs.size)) → sp vs H Q E →
      (∃ oc od osl kV doc pm an ct, K.lookup f = some ⟨oc, od, .func (PySem.W.fnX name qual params body scope [("__class__", cc)] .none kV doc pm an (.ref cda) ct), osl⟩) → (∃ cl cld csl, K.lookup cc = some ⟨cl, cld, .cell (some (.ref D)), csl⟩) →
      (∃ ccl cdd cvs ccs tf, K.lookup cda = some ⟨ccl, cdd, .fields cvs, ccs⟩ ∧ cvs[2]? = some (.str mf tf)) →
      ∃ t, PSsC (ncx CX P w K mg base N (nfC name qual params body scope cc cda) f A outer s H E) (.func body (envF (nfC name qual params body scope cc cda) f s.heap.objs.size)) body t ∧ t { nx := fun _ H' => Q .non H', rt := Q } (startF N vs [some (.ref D)]) H) :
    FnOk P w K mg base CX (k + 1) f fd ps sp := by
  obtain ⟨oc, cl, od, cld, kV, doc, pm, an, ct, osl, csl, cc, cda, cvs, ccl, cdd, ccs, tf, rfl, lk, hcd, hcell, hcda, hmf⟩ := F.ex
  refine ⟨len, fun A outer s H args us vs Q E hr e0 hb r hsp => ?_⟩
  have hl := len _ _ _ _ hsp
  have KX : K.In s.heap := e0.mod.kin.keeps fun b o e => (e0.bs b o e).1
  have lim : s.heap.NoLimit := e0.mod.nolimit.keeps fun b o e => (e0.bs b o e).1
  refine codeAny_call_function hr.depth (KX _ _ lk) rfl S.co S.gen rfl (PySem.W.codeRec_of KX hcd) (hb _ _ _ _ ?_)
  refine wpAny_newFunctionEnv S.nocell (fun ⟨n, _⟩ hy => S.par n (List.of_mem_zip hy).1) (fun h₁ hns hsb => ⟨lim.fresh _ hsb, ?_⟩) S.kind
  have kp : ∀ b o, s.heap.get? b = some o → h₁.get? b = some o := fun b o e => hsb.extBut b o (Nat.ne_of_lt (Heap.lt_size e)) (Heap.get?_push_of_some _ e)
  have hcc : base.get? cc = some ⟨cl, cld, .cell (some (.ref D)), csl⟩ := e0.mod.kin _ _ hcell
  have C : CellsAt [("__class__", cc)] ["__class__"] [some (.ref D)] s.heap H := by
    refine ⟨rfl, fun y c e => ?_, fun x y c e1 e2 => ?_, fun i y e => ?_⟩
    · have : c = cc := by
        simp only [List.lookup] at e
        split at e <;> simp at e
        exact e.symm
      subst this
      exact ⟨(e0.bs _ _ hcc).2, _, _, (e0.bs _ _ hcc).1, rfl⟩
    · have f : ∀ z, List.lookup z [(("__class__" : Str), cc)] = some c → z = "__class__" := fun z h => by
        simp only [List.lookup] at h
        split at h
        · rename_i q; exact beq_iff_eq.mp q
        · simp at h
      rw [f x e1, f y e2]
    · cases i with
      | zero =>
        simp at e
        subst e
        exact ⟨cc, rfl, fun v hv => by simp at hv; subst hv; exact ⟨.ref D, rfl, _, (e0.bs _ _ hcc).1, rfl⟩⟩
      | succ i => simp at e
  obtain ⟨t, ht, hq⟩ := hbody cc cda A outer s H vs Q E (hr.deeper _) hsp ⟨_, _, _, _, _, _, _, _, lk⟩ ⟨_, _, _, hcell⟩ ⟨_, _, _, _, _, hcda, hmf⟩
  show codeAny _ _ (.func body (envF (nfC name qual params body scope cc cda) f s.heap.objs.size)) _ _
  have I : Inv (ncx CX P w K mg base N (nfC name qual params body scope cc cda) f A outer s H E) [] (startF N vs [some (.ref D)]) H { s with heap := h₁, toks := s.toks + (ps.zip us).length } := inv_startN S hr.hd e0 hl r C hns kp
  refine ks_codeAny_funcAt (ks_wpAt_mono (ht [] _ _ H _ I hq) (fun fl s' hs => ?_) fun e s' hs => hs)
  have fin : ∀ {σ' : L2.St} {H' : Hp} {v : V} {u : Value}, Inv (ncx CX P w K mg base N (nfC name qual params body scope cc cda) f A outer s H E) [] σ' H' s' → L2.RelV v u → Q v H' → CE outer P w H s Q u s' :=
    fun {σ' H' v u} J rv q => ⟨v, H', J.os, J.bare, J.base, J.hok, rv, q⟩
  cases fl with
  | ret u =>
    obtain ⟨v, σ', H', J, rv, q⟩ := hs
    exact fin J rv q
  | next =>
    obtain ⟨σ', H', J, q⟩ := hs
    exact fin (v := V.non) (u := Value.none) J rfl q
  | brk =>
    obtain ⟨_, _, _, q⟩ := hs
    exact False.elim q
  | cont =>
    obtain ⟨_, _, _, q⟩ := hs
    exact False.elim q
end
end Dn

namespace Dn
open PySem PySem.Spec PyProof.Rows L2 NdefX
/-! ### super() -/
/-- what stands ready for super() in the body run at X: the def at f, its class at D -/
structure SupX (X : Cx) (mf : Str) (D : Addr) (p0 : Str) : Prop where
  gs : X.env.kindOf "super" = some .globalImplicit
  ms : X.mg "super" = none
  gc : X.env.kindOf "__class__" = some .free
  ex : ∃ (f cc cda : Addr) (oc od oa : Value) (d1 d2 d3 : Option Addr) (fd : FuncData) (ar : Arg) (vs : Array Value) (tf : Tok) (s1 s2 s3 : Array (Option Value)),
    X.env.cells.lookup ("__class__" : Str) = some cc ∧ X.env.func = some f ∧ X.env.code = .ref cda ∧ X.K.lookup f = some ⟨oc, d1, .func fd, s1⟩ ∧ (fd.params.posonlyargs ++ fd.params.args).head? = some ar ∧ ar.arg = p0 ∧
    X.K.lookup cda = some ⟨od, d2, .fields vs, s2⟩ ∧ vs[2]? = some (.str mf tf) ∧ X.K.lookup cc = some ⟨oa, d3, .cell (some (.ref D)), s3⟩
  n0 : X.N[0]? = some p0
  l0 : X.env.scope.names.lookup p0 = some .local
  file : ((X.prog.main.file : Str) == mf) = true
  top : (X.prog.main.scope.names.lookup ("super" : Str)).isSome = false
section
variable {X : Cx} {mf p0 : Str} {D a C : Addr} {pins : List (Addr × Obj)} {σ : L2.St} {H : Hp} {s : Shared} {ox : Obj} {cdD : ClassData} {q0 q1 : Pos} {attr : Str} {whole : Sem Value} {body : List Stmt} {Q : Value → Shared → Prop} {E : Value → Shared → Prop}
theorem sup_base (S : SupX X mf D p0) (I : Inv X pins σ H s) (hs : σ[0]? = some (some (.ref a))) (hD : PySem.W.clsIn X.K D = some cdD) (hx : s.heap.get? a = some ox) (hxc : ox.cls = .ref C) (hnc : ∀ c, ox.data ≠ .cls c) (hsub : PySem.W.mroIn X.K C (.ref D) = some true)
    (k : ∀ so h', h'.get? so = some (PySem.W.ks_superObj D a C) → (∀ y o, s.heap.get? y = some o → h'.get? y = some o) → Q (.ref so) { s with heap := h' }) (hat : (attr == ("__class__" : Str)) = false := by decide) :
    _root_.PySem.wpAt (model X.prog X.w) X.A (.func body X.env) (attributeBase (.Call (.Name "super" q0) [] [] q1) attr X.env whole) Q E s := by
  obtain ⟨f, cc, cda, oc, od, oa, d1, d2, d3, fd, ar, vs, tf, s1, s2, s3, hcc, hf, hcd, lf, hp, e0, lc, hv, lcc⟩ := S.ex
  subst e0
  have KX := I.kIn
  obtain ⟨oD, hD1, hD2⟩ : ∃ oD, s.heap.get? D = some oD ∧ oD.data = .cls cdD := by
    unfold PySem.W.clsIn at hD
    split at hD
    · rename_i c d cd' sl ho
      cases hD
      exact ⟨_, KX _ _ ho, rfl⟩
    · cases hD
  obtain ⟨mb, hb1, hb2⟩ := I.mod.blt
  obtain ⟨m, hn, hlk⟩ := I.loc
  obtain ⟨u, ru, lu⟩ := hlk 0 ar.arg (.ref a) S.n0 hs (.inl S.l0)
  cases ru
  have hm : m ar.arg = some (.ref a) := by
    rcases lu with ⟨_, h⟩ | ⟨h, _⟩
    · exact h
    · have h : X.env.scope.names.lookup ar.arg = some .cell ∨ X.env.scope.names.lookup ar.arg = some .free := h
      rw [S.l0] at h
      rcases h with h | h <;> cases h
  refine ks_wpAt_super_base (env := X.env) S.gs S.gc hat hf (KX _ _ lf) rfl hp hcd (KX _ _ lc) rfl hv S.file S.top ?_
  refine PySem.W.ks_loadName_global I.ok.kind S.gs (Calls.loadGlobal_builtin (by rw [I.ok.glob]; exact I.mod.glob.keeps I.bk) S.ms (by rw [I.ok.blt]; exact hb1.keeps I.bk) ((hb2 _ (by decide +kernel)).trans (by decide +kernel)) ⟨rfl, ?_⟩)
  refine wpAny_loadName_free I.ok.kind S.gc hcc ⟨_, KX _ _ lcc, rfl⟩ ?_
  refine wpAny_loadName_local I.ok.kind S.l0 hn hm ?_
  refine ks_wpAny_isType_cls hD1 hD2 ⟨rfl, ?_⟩
  obtain ⟨hp2, g, dr, tk, os⟩ := s
  exact ks_wpAny_call_super hD1 hD2 hx hxc hnc (PySem.W.looks_mroIn KX hsub) fun h' e kk => k _ _ e kk
end
/-! ### an own exception's __init__ -/
/-- what the written part says of the exception class at C beside OexC -/
structure OexS (K : Fg) (C : Addr) : Prop extends OexC K C where
  ve : PySem.W.subIn K (.ref C) (.type "ValueError") = some true
  self : PySem.W.mroIn K C (.ref C) = some true
  sup : PySem.W.ks_superIn K C C "__init__" = some (some (.builtin "ValueError.__init__"))
  opq : PySem.W.nsIn K cStatics "thirdparty.any" = some none
theorem Inv.unpin {X : Cx} {p : Addr × Obj} {pins : List (Addr × Obj)} {σ : L2.St} {H : Hp} {s : Shared} (I : Inv X (p :: pins) σ H s) : Inv X pins σ H s :=
  ⟨I.ok, I.os, I.bare, I.base, I.loc, I.cell, I.free, I.freeC, fun q hq => I.pin q (by
    rcases List.mem_append.mp hq with h | h
    · exact List.mem_append_left _ h
    · exact List.mem_append_right _ (List.mem_cons_of_mem _ h)), I.hok, I.len⟩
theorem Inv.pinNew {X : Cx} {pins : List (Addr × Obj)} {σ : L2.St} {H : Hp} {s : Shared} {u : Addr} {o : Obj} (I : Inv X pins σ H s) {h' : Heap} {t' : Nat} (k : ∀ b o, s.heap.get? b = some o → h'.get? b = some o) (hu : s.heap.objs.size ≤ u) (e : h'.get? u = some o) (hc : ∀ v, o.data ≠ .cell v) :
    Inv X ((u, o) :: pins) σ H { s with heap := h', toks := t' } := by
  have J : Inv X pins σ H { s with heap := h', toks := t' } := I.kept k
  refine ⟨J.ok, J.os, J.bare, J.base, J.loc, J.cell, J.free, J.freeC, fun q hq => ?_, J.hok, J.len⟩
  rcases List.mem_append.mp hq with h | h
  · exact J.pin q (List.mem_append_left _ h)
  · rcases List.mem_cons.mp h with rfl | h
    · refine ⟨e, I.hok.fresh hu, fun z => ?_, I.nofs hu, hc⟩
      have := I.lt
      have z' : u = X.env.locals := z
      rw [z'] at hu
      exact absurd (Nat.lt_of_lt_of_le this hu) (Nat.lt_irrefl _)
    · exact J.pin q (List.mem_append_right _ h)
/-- super().__init__('..') -/
def tSupE (K : Fg) (C : Addr) : TE := fun σ H Q => ∃ a, σ[0]? = some (some (.ref a)) ∧ H a = some (exo a C none) ∧ Q .non H
section
variable {X : Cx} {mf p0 : Str} {C : Addr} {body : List Stmt} {q0 q1 ap cp pos : Pos} {m : Str} {j : Nat}
theorem pec_supE {pl : Sem Bool} (S : SupX X mf C p0) (T : OexS X.K C)
    (he : eval (.Call (.Attribute (.Call (.Name "super" q0) [] [] q1) "__init__" ap) [.Constant (.str m) j cp] [] pos) X.env = (do
      let ov ← attributeBase (.Call (.Name "super" q0) [] [] q1) "__init__" X.env (eval (.Call (.Name "super" q0) [] [] q1) X.env)
      standAt ap.atName
      let (f, first) ← holding [ov] (getMethod ov "__init__" pl)
      callWith pos f first (backTo pos (starEach [.Constant (.str m) j cp] X.env)) []) := by rfl) : PEC X (.func body X.env) (.Call (.Attribute (.Call (.Name "super" q0) [] [] q1) "__init__" ap) [.Constant (.str m) j cp] [] pos) (tSupE X.K C) := by
  intro pins s σ H Q I ⟨a, hs, ea, q⟩
  obtain ⟨nm, qn, N, bs, bm, sn, sub, ab, col, dd, k0, k1, k2, k3, k5, hC, hbm⟩ := T.cls
  have hcl : PySem.W.clsIn X.K C = some { name := nm, bases := bs, mro := .ref C :: bm, ns := N, qualname := qn, hasDict := true, slotNames := sn, subclasses := sub, abstract := ab, collection := col, hasDel := false } := by unfold PySem.W.clsIn; rw [hC] <;> rfl
  obtain ⟨t1, ho⟩ := exo_at I.hok ea
  have hsup := T.sup
  unfold PySem.W.ks_superIn at hsup
  rw [hcl] at hsup
  have hx : a ≠ C := fun z => by
    have := (I.bs _ _ (I.ok.mod.kin _ _ hC)).2
    rw [← z, ea] at this
    cases this
  refine ks_wpAt_MethodCall (he := he) (sup_base S I hs hcl ho rfl (fun c z => nomatch z) T.self fun so h' e kk => ?_)
  have I1 : Inv X pins σ H { s with heap := h' } := I.kept (t' := s.toks) kk
  obtain ⟨hp, g, dr, tk, os⟩ := s
  have ho1 : h'.get? a = some ({ cls := .ref C, dict := none, data := .fields #[.ref t1, .none, .none, .none, .bool false, .none] } : Obj) := kk _ _ ho
  have LT : PySem.W.Looks (model X.prog X.w) h' (typeOf (.ref a)) (.ref C) := fun A Q E s k q => wpAny_typeOf_ref (k _ _ ho1) q
  refine PySem.W.kxs_getMethod PySem.W.kxs_ValueError e (PySem.W.looks_opaque I1.kIn T.opq) (l₀ := .ref C :: bm) ?_ rfl I1.kIn hsup (LT.andThen (PySem.W.looks_subIn I1.kIn T.ve)) hx (by decide) ?_
  · exact fun A Q E s k q => wpAny_bind ((PySem.W.looks_clsIn I1.kIn hcl) A _ E s k (wpAny_pure q))
  · have I2 : Inv X ((h'.objs.size, PySem.W.kxs_mw "ValueError.__init__" a) :: pins) σ H ⟨h'.push (PySem.W.kxs_mw "ValueError.__init__" a), g, dr, tk + 1, os⟩ :=
      Inv.pinNew (s := ⟨h', g, dr, tk, os⟩) I1 (fun b o e => Heap.get?_push_of_some _ e) (Nat.le_refl _) (Heap.get?_push_size _ rfl) (fun v z => nomatch z)
    refine PySem.W.kxs_callWith (i := "ValueError.__init__") (x := a) rfl (PySem.Calls.evalArgs_plain ?_)
    have pa : PA X [.Constant (.str m) j cp] (tCons (tC (.str m)) tNil) := pa_cons pe_str pa_nil
    refine thn (pa.run pos _ _ σ H (fun vs H1 => vs = [.str m] ∧ H1 = H) I2 ⟨rfl, rfl⟩) fun us s1 ⟨vs, H1, I3, r1, ev, eH⟩ => ?_
    subst ev eH
    obtain ⟨hu, _⟩ := I3.pin (h'.objs.size, PySem.W.kxs_mw "ValueError.__init__" a) (List.mem_append_right _ List.mem_cons_self)
    refine ⟨hu, ?_⟩
    have I4 := Inv.unpin I3
    obtain ⟨t2, ho2⟩ := exo_at I4.hok ea
    have hlen : us.length ≤ sizeLine := by
      rw [← Paired.length r1, sizeLine_eq]
      show 1 ≤ 16777216
      decide
    obtain ⟨h3, g3, dr3, tk3, os3⟩ := s1
    have hC3 := I4.kIn _ _ hC
    refine wpAny_call (codeAny_of_tree ?_)
    show wpAny _ X.A.in1 (callAny (.ref h'.objs.size) ⟨us, []⟩) _ _ _
    simp only [callAny]
    refine wpAny_bind (wpAny_load hu ?_)
    simp only [PySem.W.kxs_mw, show (Value.type "method-wrapper" == Value.type "method" || Value.type "method-wrapper" == Value.type "builtin_function_or_method" || Value.type "method-wrapper" == Value.type "method-wrapper") = true by decide, if_true]
    refine PySem.W.KFB.if_so (by decide) ?_
    refine wpAny_bind (PySem.W.check_bound_init F.excBase_ValueError.toExcCallFacts hC3 ho2 rfl ?_)
    refine wpAny_bind (wpAny_pure (wpAny_pure ?_))
    refine ⟨plainId_quiet F.excBase_ValueError.init.plain _, codeAny_builtin F.excBase_ValueError.initEntry ?_⟩
    rw [Around.under_plainId F.excBase_ValueError.init.plain _]
    wp_walk
    have k3 : ∀ b o, b ≠ a → h3.get? b = some o → ((h3.push { cls := .type "tuple", data := .seq us.toArray }).update a (Obj.mapFields fun x => x.setIfInBounds 0 (Value.ref h3.objs.size))).get? b = some o := fun b o hb e => by
      rw [Heap.get?_update_other _ _ (Ne.symm hb)]
      exact Heap.get?_push_of_some _ e
    have hx3 : ((h3.push { cls := .type "tuple", data := .seq us.toArray }).update a (Obj.mapFields fun x => x.setIfInBounds 0 (Value.ref h3.objs.size))).get? a = some ({ cls := .ref C, dict := none, data := .fields #[.ref h3.objs.size, .none, .none, .none, .bool false, .none] } : Obj) := by
      rw [Heap.get?_update_self _ (Heap.get?_push_of_some _ ho2) rfl]
      rfl
    have J := I4.write (t' := tk3) (x := a) (e := a) (o := exo a C none) (by rw [ea]; exact True.intro) (.inl rfl) k3 ⟨_, hx3⟩ (exo_ok hx3)
    have eu : upd H1 a (exo a C none) = H1 := by
      funext b
      by_cases hb : b = a
      · rw [hb, upd_same, ea]
      · rw [upd_ne hb]
    rw [eu] at J
    exact ⟨.non, H1, J, rfl, q⟩
end
end Dn

namespace Dn
open PySem PySem.Spec PyProof.Rows L2 NdefX
/-! ### own exceptions: made, raised -/
section
variable {CX : CXT} {P : Program} {w : World} {K : Fg} [WD K] {mg : Str → Option Value} {base : Heap} {N ps : List Str} {mf p0 : Str} {D : Addr} {name qual : Str} {params : Arguments} {body : List Stmt} {scope : Scope} {f : Addr} {A : Around} {outer : List Env} {s : Shared} {H : Hp} {E : XK} {cc cda : Addr}
theorem supX_ncx {ar : Arg} (h1 : ∃ oc od osl kV doc pm an ct, K.lookup f = some ⟨oc, od, .func (PySem.W.fnX name qual params body scope [("__class__", cc)] .none kV doc pm an (.ref cda) ct), osl⟩) (h2 : ∃ cl cld csl, K.lookup cc = some ⟨cl, cld, .cell (some (.ref D)), csl⟩)
    (h3 : ∃ ccl cdd cvs ccs tf, K.lookup cda = some ⟨ccl, cdd, .fields cvs, ccs⟩ ∧ cvs[2]? = some (.str mf tf)) (hp : (params.posonlyargs ++ params.args).head? = some ar) (e0 : ar.arg = p0) (hgs : scope.names.lookup ("super" : Str) = some .globalImplicit) (hgc : scope.names.lookup ("__class__" : Str) = some .free)
    (hN : N[0]? = some p0) (hl : scope.names.lookup p0 = some .local) (ms : mg "super" = none) (file : ((P.main.file : Str) == mf) = true) (top : (P.main.scope.names.lookup ("super" : Str)).isSome = false) :
    SupX (ncx CX P w K mg base N (nfC name qual params body scope cc cda) f A outer s H E) mf D p0 := by
  obtain ⟨oc, od, osl, kV, doc, pm, an, ct, lk⟩ := h1
  obtain ⟨cl, cld, csl, lc⟩ := h2
  obtain ⟨ccl, cdd, cvs, ccs, tf, la, hv⟩ := h3
  exact ⟨hgs, ms, hgc, ⟨f, cc, cda, oc, ccl, cl, od, cdd, cld, _, ar, cvs, tf, osl, ccs, csl, rfl, rfl, rfl, lk, hp, e0, la, hv, lc⟩, hN, hl, file, top⟩
end
/-- an exception's __init__ keeps: the fields stand in its dict -/
def spI (C : Addr) (fs : List Str) : Sp := fun vs H Q _ => ∃ (a : Addr) (ws : List V), vs = .ref a :: ws ∧ ws.length = fs.length ∧ H a = some (exo a C none) ∧
  ∀ dx H', H dx = none → dx ≠ a → H' a = some (exo a C (some dx)) → H' dx = some (exd dx (fs.zip ws).reverse) → (∀ b, b ≠ a → b ≠ dx → H' b = H b) → Q .non H'
theorem spI_len {C : Addr} {fs : List Str} {vs : List V} {H : Hp} {Q : VK} {E : XK} (h : spI C fs vs H Q E) : vs.length = fs.length + 1 := by
  obtain ⟨a, ws, rfl, h, _⟩ := h
  rw [List.length_cons, h]
theorem init1_run {K : Fg} [WD K] {C : Addr} {f1 : Str} {vs : List V} {H : Hp} {Q : VK} {E : XK} {ws : List (Option V)} {N : List Str} (T : OexS K C) (n1 : PySem.W.findIn K (.ref C) f1 = some none) (h : spI C [f1] vs H Q E) :
    tSeq (tDrop (tSupE K C)) (tOst K f1 (tVar 0) (tVar 1)) { nx := fun _ H' => Q .non H', rt := Q } (startF N vs ws) H := by
  obtain ⟨a, us, rfl, hl, ea, k⟩ := h
  obtain ⟨v, rfl⟩ : ∃ v, us = [v] := by
    cases us with
    | nil => cases hl
    | cons v us =>
      cases us with
      | nil => exact ⟨v, rfl⟩
      | cons _ _ => simp at hl
  refine ⟨a, rfl, ea, v, rfl, .ref a, rfl, a, C, rfl, T.toOexC, n1, .inl ⟨ea, fun dx n ne => ?_⟩⟩
  exact k dx _ n ne upd_same (by rw [upd_ne ne, upd_same]; rfl) fun b h1 h2 => by rw [upd_ne h1, upd_ne h2]
theorem init2_run {K : Fg} [WD K] {C : Addr} {f1 f2 : Str} {vs : List V} {H : Hp} {Q : VK} {E : XK} {ws : List (Option V)} {N : List Str} (T : OexS K C) (n1 : PySem.W.findIn K (.ref C) f1 = some none) (n2 : PySem.W.findIn K (.ref C) f2 = some none) (h : spI C [f1, f2] vs H Q E) :
    tSeq (tDrop (tSupE K C)) (tSeq (tOst K f1 (tVar 0) (tVar 1)) (tOst K f2 (tVar 0) (tVar 2))) { nx := fun _ H' => Q .non H', rt := Q } (startF N vs ws) H := by
  obtain ⟨a, us, rfl, hl, ea, k⟩ := h
  obtain ⟨v, u, rfl⟩ : ∃ v u, us = [v, u] := by
    cases us with
    | nil => cases hl
    | cons v us =>
      cases us with
      | nil => cases hl
      | cons u us =>
        cases us with
        | nil => exact ⟨v, u, rfl⟩
        | cons _ _ => simp at hl
  refine ⟨a, rfl, ea, v, rfl, .ref a, rfl, a, C, rfl, T.toOexC, n1, .inl ⟨ea, fun dx n ne => ?_⟩⟩
  refine ⟨u, rfl, .ref a, rfl, a, C, rfl, T.toOexC, n2, .inr ⟨dx, [(f1, v)], upd_same, by rw [upd_ne ne, upd_same], (by show 1 ≤ 900; decide), ?_⟩⟩
  exact k dx _ n ne (by rw [upd_ne (Ne.symm ne), upd_same]) (by rw [upd_same]; rfl) fun b h1 h2 => by rw [upd_ne h2, upd_ne h1, upd_ne h2]
theorem mk_key {C : Addr} {fs : List Str} {Q : XK} {vs : List V} {H1 : Hp} (hf : fs.length ≤ 900) (hl : vs.length = fs.length) (q : ∀ d, H1 d = none → Q (.ref C) (some d) (upd H1 d (.xd (fs.zip vs).reverse))) : vs.length ≤ 1000 ∧ ∀ a, H1 a = none → spI C fs (.ref a :: (vs ++ [])) (upd H1 a (exo a C none))
      (fun v H2 => v = .non ∧ ∃ (d : Addr) (fs : List (Str × V)), H2 a = some (exo a C (some d)) ∧ H2 d = some (exd d fs) ∧ H1 d = none ∧ Q (.ref C) (some d) (upd (del H2 a) d (.xd fs))) (fun _ _ _ => False) := by
  refine ⟨by omega, fun a na => ⟨a, vs, by rw [List.append_nil], hl, upd_same, fun dx H' n ne e1 e2 e3 => ⟨rfl, dx, _, e1, e2, ?_, ?_⟩⟩⟩
  · rw [upd_ne ne] at n; exact n
  · have n' : H1 dx = none := by rw [upd_ne ne] at n; exact n
    have eq : upd (del H' a) dx (.xd (fs.zip vs).reverse) = upd H1 dx (.xd (fs.zip vs).reverse) := by
      funext b
      by_cases hb : b = dx
      · rw [hb, upd_same, upd_same]
      · rw [upd_ne hb, upd_ne hb]
        by_cases hba : b = a
        · rw [hba, del_same, na]
        · rw [del_ne hba, e3 b hba hb, upd_ne hba]
    rw [eq]
    exact q dx n'
/-- raise C(..) -/
def dRaise (C : Str) (fs : List Str) (da : Ev → RE (List X)) : Ev → RS := fun env => (da env).stm fun xs e1 => match frzs xs with
  | some ds => if ds.length = fs.length ∧ 0 < fs.length ∧ fs.length ≤ 900 then .exc (C, (fs.zip ds).reverse) e1 else .bad
  | none => .bad
def dRaise0 (C : Str) : Ev → RS := fun env => .exc (C, []) env
section
variable {K : Fg} [WD K] {W : WS} {M M' M1 M2 : Hp} {env env' env1 env2 : Ev} {σ σ' σ1 : L2.St} {H H' H1 H2 : Hp} {ta : TA} {da : Ev → RE (List X)}
theorem repF_zip : ∀ {fs : List Str} {ds : List D} {vs : List V}, Reps K M ds vs → RepF K M (fs.zip ds) (fs.zip vs)
  | [], ds, vs, h => by simp [RepF]
  | f :: fs, [], vs, h => by
    simp only [Reps] at h
    subst h
    simp [RepF]
  | f :: fs, d :: ds, vs, h => by
    simp only [Reps] at h
    obtain ⟨v, r, rfl, h1, h2⟩ := h
    simp only [List.zip_cons_cons, RepF]
    exact ⟨v, _, rfl, h1, repF_zip h2⟩
theorem RepF.append : ∀ {xs ys : List (Str × D)} {vs us : List (Str × V)}, RepF K M xs vs → RepF K M ys us → RepF K M (xs ++ ys) (vs ++ us)
  | [], ys, vs, us, h, h' => by
    simp only [RepF] at h
    subst h
    exact h'
  | (k, x) :: xs, ys, vs, us, h, h' => by
    simp only [RepF] at h
    obtain ⟨v, r, rfl, h1, h2⟩ := h
    simp only [List.cons_append, RepF]
    exact ⟨v, _, rfl, h1, RepF.append h2 h'⟩
theorem RepF.reverse : ∀ {xs : List (Str × D)} {vs : List (Str × V)}, RepF K M xs vs → RepF K M xs.reverse vs.reverse
  | [], vs, h => by
    simp only [RepF] at h
    subst h
    simp [RepF]
  | (k, x) :: xs, vs, h => by
    simp only [RepF] at h
    obtain ⟨v, r, rfl, h1, h2⟩ := h
    rw [List.reverse_cons, List.reverse_cons]
    refine RepF.append (RepF.reverse h2) ?_
    simp only [RepF]
    exact ⟨v, [], rfl, h1, rfl⟩
theorem ds_raise {C : Str} {fs : List Str} (h : DA K W ta da) : DS K W (fun _ σ H => tMkO (He.ga K C) (spI (He.ga K C) fs) [] ta σ H fun cls d H' => W σ cls d H') (dRaise C fs da) := fun M σ H env hh => by
  have h1 := h M σ H env hh
  unfold dRaise
  cases e1 : da env with
  | bad => trivial
  | exc e env1 =>
    rw [e1] at h1
    exact fun D k => h1 _ fun cls d M' H' g s hh' r => k cls d σ M' H' g hh' r
  | ok xs env1 =>
    rw [e1] at h1
    show SatS K W M σ H env (match frzs xs with
      | some ds => if ds.length = fs.length ∧ 0 < fs.length ∧ fs.length ≤ 900 then RS.exc (C, (fs.zip ds).reverse) env1 else .bad
      | none => .bad) _
    cases e2 : frzs xs with
    | none => trivial
    | some ds =>
      by_cases hc : ds.length = fs.length ∧ 0 < fs.length ∧ fs.length ≤ 900
      · show SatS K W M σ H env (if ds.length = fs.length ∧ 0 < fs.length ∧ fs.length ≤ 900 then RS.exc (C, (fs.zip ds).reverse) env1 else .bad) _
        rw [if_pos hc]
        refine fun D k => h1 _ fun vs M1 H1 g s hh1 r1 => ?_
        have g2 := frzM_grow g
        have hh2 := frzM_holds (H := H) hh1
        have rs := frzs_rep r1 e2
        refine mk_key hc.2.2 (by rw [← rs.length]; exact hc.1) fun d n => ?_
        have ex := ext_tup (o := .xd (fs.zip vs).reverse) hh2.ex n
        have rf : RepF K (upd (frzM M1 H H1 env1 σ) d (.xd (fs.zip vs).reverse)) (fs.zip ds).reverse (fs.zip vs).reverse := RepF.mono ex.exM _ _ (RepF.reverse (repF_zip rs))
        refine k _ _ σ _ _ (g2.trans hh (ex.grow hh2)) (ex.holds hh2) ⟨rfl, .inr ⟨?_, d, _, rfl, upd_same, rf⟩⟩
        intro z
        have := congrArg List.length z
        have h1 := hc.1
        have h2 := hc.2.1
        simp only [List.length_reverse, List.length_zip, List.length_nil] at this
        omega
      · show SatS K W M σ H env (if ds.length = fs.length ∧ 0 < fs.length ∧ fs.length ≤ 900 then RS.exc (C, (fs.zip ds).reverse) env1 else .bad) _
        rw [if_neg hc]
        trivial
theorem ds_raise0 {C : Str} : DS K W (fun _ σ H => W σ (.ref (He.ga K C)) none H) (dRaise0 C) := fun M σ H env hh D k => k _ _ σ M H .refl hh ⟨rfl, .inl ⟨rfl, rfl⟩⟩
end
/-! ### defs that raise -/
section
variable {P : Program} {w : World} {K : Fg} [WD K] {mg : Str → Option Value} {base : Heap} {X : Cx}
theorem mk_callFX {x : Str} {ps N : List Str} {k n nn : Nat} {st : Stmt} {f : Addr} {ds : Ev → RS} (F : ∃ fd, FunD K x x (defArgs st) (defBody st) (defScope st) [] [] f fd) (g : mg x = some (.ref f)) (S : FnScope N ps (defScope st)) (hn : ps.length = n) (hN : N.length = nn)
    (b : ∀ (kV doc pm : Value) (an : Option Addr) (cdv ct : Value) (us : List Value), us.length = ps.length → bindArgs (PySem.W.fnOf x x (defArgs st) (defBody st) (defScope st) .none kV doc pm an cdv ct) ⟨us, []⟩ = pure (ps.zip us))
    (h : ∀ (cdv : Value) (A : Around) (outer : List Env) (s : Shared) (H : Hp) (E : XK), Room k (A.deeper (envOfC x (defScope st) s.heap.objs.size f cdv)) →
      ∃ t, PSs (cxOf (L2.CX P w) P w K mg base N x (defScope st) f cdv A outer s H E) (defBody st) t ∧ DS K (fun _ => E) t ds) : CallF (L2.CX P w) P w K mg base (k + 1) x ps (fnM nn n ds) := by
  subst hn hN
  obtain ⟨fd, F⟩ := F
  refine ⟨f, fd, g, F.kp, F.bindsN b, F.ok S (fun vs H Q E h => spD_len h) fun cdv A outer s H vs Q E hr hs => ?_⟩
  obtain ⟨t, h1, h2⟩ := h cdv A outer s H E hr
  exact ⟨t, h1, fn_body h2 hs⟩
/-- a call where what is raised is wished for at the slots -/
theorem pe_callFS {iw : WD X.K} {k : Nat} {x : Str} {ps : List Str} {m : Ev → RE Dn.X} {W : WX} {p pos : Pos} {e : Expr} {es : List Expr} {t : TA} (c : CallF (L2.CX X.prog X.w) X.prog X.w X.K X.mg X.base k x ps m) (hr : Room k X.A) (tk : Takes X W) (hg : Gl X x) (ha : PA X (e :: es) t)
    (hdb : (x == ("__debug__" : Str)) = false := by decide) (he : starEach (e :: es) X.env = (false, eval e X.env) :: starEach es X.env := by rfl) (hpl : (backTo pos (starEach es X.env)).any (·.1) = false := by rfl) :
    PE X (.Call (.Name x p) (e :: es) [] pos) (tCallSD (spD X.K m) [] (WE W) t) := by
  obtain ⟨f, fd, h1, h2, h3, h4⟩ := c
  exact pe_callSD h4 hr hg h1 h2 h3 .nil (fun σ => passAt tk σ) ha hdb he hpl
end
/-- exceptions are not looked for -/
def RE.calm {α : Type} : RE α → RE α
  | .exc _ _ => .bad
  | r => r
def dCall0 (m : Ev → RE X) (da : Ev → RE (List X)) : Ev → RE X := dCall (fun ps => (m ps).calm) da
section
variable {K : Fg} [WD K] {W : WS} {m : Ev → RE X} {ta : TA} {da : Ev → RE (List X)}
theorem de_callS (hm : NoSl m) (ha : DA K W ta da) : DE K W (tCallSD (spD K m) [] W ta) (dCall m da) := fun M σ H env hh => by
  have h1 := ha M σ H env hh
  unfold dCall
  cases e1 : da env with
  | bad => trivial
  | exc e env1 => rw [e1] at h1; exact fun Q k => h1 _ k
  | ok xs env1 =>
    rw [e1] at h1
    show Sat K _ M σ H env (match passXs env1 xs with
      | none => .bad
      | some ps => if (slots xs).Nodup ∧ temps xs ≤ 1 then match m ps with
          | .ok y ps' => .ok y (wb xs ps' env1)
          | .exc e ps' => .exc e (wb xs ps' env1)
          | .bad => .bad
        else .bad) (RX K σ) _
    cases e2 : passXs env1 xs with
    | none => trivial
    | some ps =>
      show Sat K _ M σ H env (if (slots xs).Nodup ∧ temps xs ≤ 1 then match m ps with
          | .ok y ps' => .ok y (wb xs ps' env1)
          | .exc e ps' => .exc e (wb xs ps' env1)
          | .bad => .bad
        else .bad) (RX K σ) _
      by_cases nd : (slots xs).Nodup ∧ temps xs ≤ 1
      · rw [if_pos nd]
        cases e3 : m ps with
        | bad => trivial
        | ok y ps' =>
          refine fun Q k => h1 _ fun vs M1 H1 g s hh1 r => ?_
          rw [List.append_nil]
          refine ⟨_, ps, call_in hh g hh1 r e2 nd.1 nd.2, ?_⟩
          rw [e3]
          intro v M2 H2 g2 s2 hh2 ry
          obtain ⟨a, b, c, d⟩ := call_out hh g s hh1 r e2 nd.1 g2 s2 hh2
          exact k v M2 H2 a b c (d y v ry (hm ps y ps' e3))
        | exc x ps' =>
          refine fun Q k => h1 _ fun vs M1 H1 g s hh1 r => ?_
          rw [List.append_nil]
          refine ⟨_, ps, call_in hh g hh1 r e2 nd.1 nd.2, ?_⟩
          rw [e3]
          intro cls dd M2 H2 g2 s2 hh2 ry
          obtain ⟨a, b, c, d⟩ := call_out hh g s hh1 r e2 nd.1 g2 s2 hh2
          exact k cls dd M2 H2 a b c ry
      · rw [if_neg nd]
        trivial
theorem de_call0 (hm : NoSl m) (ha : DA K W ta da) : DE K W (tCall (spD K m) [] L2.E0 ta) (dCall0 m da) := fun M σ H env hh => by
  have h1 := ha M σ H env hh
  unfold dCall0 dCall
  cases e1 : da env with
  | bad => trivial
  | exc e env1 => rw [e1] at h1; exact fun Q k => h1 _ k
  | ok xs env1 =>
    rw [e1] at h1
    show Sat K _ M σ H env (match passXs env1 xs with
      | none => .bad
      | some ps => if (slots xs).Nodup ∧ temps xs ≤ 1 then match (m ps).calm with
          | .ok y ps' => .ok y (wb xs ps' env1)
          | .exc e ps' => .exc e (wb xs ps' env1)
          | .bad => .bad
        else .bad) (RX K σ) _
    cases e2 : passXs env1 xs with
    | none => trivial
    | some ps =>
      show Sat K _ M σ H env (if (slots xs).Nodup ∧ temps xs ≤ 1 then match (m ps).calm with
          | .ok y ps' => .ok y (wb xs ps' env1)
          | .exc e ps' => .exc e (wb xs ps' env1)
          | .bad => .bad
        else .bad) (RX K σ) _
      by_cases nd : (slots xs).Nodup ∧ temps xs ≤ 1
      · rw [if_pos nd]
        cases e3 : m ps with
        | bad => trivial
        | ok y ps' =>
          refine fun Q k => h1 _ fun vs M1 H1 g s hh1 r => ?_
          rw [List.append_nil]
          refine ⟨_, ps, call_in hh g hh1 r e2 nd.1 nd.2, ?_⟩
          rw [e3]
          intro v M2 H2 g2 s2 hh2 ry
          obtain ⟨a, b, c, d⟩ := call_out hh g s hh1 r e2 nd.1 g2 s2 hh2
          exact k v M2 H2 a b c (d y v ry (hm ps y ps' e3))
        | exc x ps' => trivial
      · rw [if_neg nd]
        trivial
end
end Dn

namespace Dn
open PySem PySem.Spec PyProof.Rows L2 NdefX
/-! ### try: several clauses, the caught exception is an object of the heap -/
def setO (oi : Option Nat) (a : Addr) (σ : L2.St) : L2.St := match oi with
  | some i => σ.set i (some (.ref a))
  | none => σ
def unO (oi : Option Nat) (σ : L2.St) : L2.St := match oi with
  | some i => σ.set i none
  | none => σ
def unD (oi : Option Nat) (D : Ends) : Ends := { nx := fun σ H => D.nx (unO oi σ) H, rt := D.rt, bk := fun σ H => D.bk (unO oi σ) H, ct := fun σ H => D.ct (unO oi σ) H }
abbrev Hdl := Value × Option Nat × TS
def wMX (K : Fg) (Wout : WX) (D : Ends) : List Hdl → WX
  | [] => Wout
  | (c, oi, ts) :: r => fun cls d σ H => ∃ b, PySem.W.exmOne K cls c = some b ∧ (b = true → ∀ a, H a = none → ts (unD oi D) (setO oi a σ) (upd H a (exw a cls d))) ∧ (b = false → wMX K Wout D r cls d σ H)
inductive HdX (X : Cx) : List ExceptHandler → List Hdl → Prop
  | nil : HdX X [] []
  | cons {x : Str} {c : Value} {ts : TS} {b₀ : Stmt} {suite : List Stmt} {np pos' : Pos} {hds : List ExceptHandler} {l : List Hdl} (hc : Names X x c) (hsu : ∀ (a : Addr) (pn : List (Addr × Obj)), PSs (X.suite a pn) (b₀ :: suite) ts) (r : HdX X hds l) :
      HdX X (.ExceptHandler (some (.Name x np)) none (b₀ :: suite) pos' :: hds) ((c, none, ts) :: l)
  | consAs {x n : Str} {i : Nat} {c : Value} {ts : TS} {b₀ : Stmt} {suite : List Stmt} {np pos' : Pos} {hds : List ExceptHandler} {l : List Hdl} (hi : X.N[i]? = some n) (hln : X.env.kindOf n = some .local) (hc : Names X x c) (hsu : ∀ (a : Addr) (pn : List (Addr × Obj)), PSs (X.suite a pn) (b₀ :: suite) ts) (r : HdX X hds l) :
      HdX X (.ExceptHandler (some (.Name x np)) (some n) (b₀ :: suite) pos' :: hds) ((c, some i, ts) :: l)
section
variable {X : Cx} {pins : List (Addr × Obj)} {σ : L2.St} {H : Hp} {s : Shared} {a : Addr} {o : HO}
theorem Inv.track (I : Inv X pins σ H s) (na : H a = none) (oo : ObjOk X.prog X.w (upd H a o) s.heap a o) (ne0 : X.s_0.heap.get? a = none) (nL : a ≠ X.env.locals) (nc : ∀ x c, X.env.cells.lookup x = some c → c ≠ a) (np : ∀ p ∈ X.pn ++ pins, p.1 ≠ a) : Inv X pins σ (upd H a o) s := by
  have ns : ∀ {b : Addr} {u : HO}, H b = some u → b ≠ a := fun e z => by rw [z, na] at e; cases e
  refine ⟨I.ok, I.os, I.bare, ⟨I.base.keep, I.base.slot, fun b ob e n hx => ?_, I.base.there, fun b xs e => ?_, fun b ob u e => ?_, fun b ps e => ?_⟩, I.loc, I.cell, ?_, fun x c e => ?_, fun p hp => ?_, fun b ob e => ?_, I.len⟩
  · have : b ≠ a := fun z => by rw [z, ne0] at e; cases e
    rw [upd_ne this]
    exact I.base.free b ob e n hx
  · have h1 := I.base.tups b xs e
    rw [upd_ne (ns h1)]
    exact h1
  · have h1 := I.base.frzs b ob u e
    rw [upd_ne (ns h1)]
    exact h1
  · obtain ⟨more, h1⟩ := I.base.tbls b ps e
    exact ⟨more, by rw [upd_ne (ns h1)]; exact h1⟩
  · rw [upd_ne (Ne.symm nL)]; exact I.free
  · rw [upd_ne (nc x c e)]; exact I.freeC x c e
  · obtain ⟨h1, h2, h3, h4, h5⟩ := I.pin p hp
    exact ⟨h1, by rw [upd_ne (np p hp)]; exact h2, h3, h4, h5⟩
  · by_cases hb : b = a
    · subst hb
      rw [upd_same] at e
      cases e
      exact oo
    · rw [upd_ne hb] at e
      exact (I.hok b ob e).stay (fun c v hc q => q) (fun c hc => by rw [upd_ne (ns hc)]; exact hc) (fun c xs hc => by rw [upd_ne (ns hc)]; exact hc)
theorem Inv.suiteX (I : Inv X pins σ H s) : Inv (X.suite a (X.pn ++ pins)) [] σ H s :=
  ⟨I.ok.suite _ _, I.os, I.bare, I.base, I.loc, I.cell, I.free, I.freeC, fun p hp => I.pin p (by simpa using hp), I.hok, I.len⟩
theorem Inv.unsuiteX {pn' : List (Addr × Obj)} (I : Inv (X.suite a (X.pn ++ pins)) pn' σ H s) (ok : X.Ok) : Inv X pins σ H s :=
  ⟨ok, I.os, I.bare, I.base, I.loc, I.cell, I.free, I.freeC, fun p hp => I.pin p (List.mem_append_left _ hp), I.hok, I.len⟩
end
section
variable {X : Cx} {body : List Stmt} {h₀ : ExceptHandler} {hds : List ExceptHandler} {l : List Hdl} {pos : Pos} {tb : WX → TS} {Wout : WX}
theorem ps_tryX (hs : X.stack = X.env :: X.outer) (hf : X.env.frame = some X.env.locals) (hex : X.ex = []) (hN : X.N.Nodup) (tk : Takes X Wout)
    (hb : ∀ (W : WX) (pn : List (Addr × Obj)) (xe : Value → Shared → Prop), Takes (X.tr pn xe) W → PassesOwn (model X.prog X.w) X.A X.env xe → PSs (X.tr pn xe) body (tb W))
    (hh : HdX X (h₀ :: hds) l) : PS X (.Try body (h₀ :: hds) [] [] pos) (fun D σ H => tb (wMX X.K Wout D l) D σ H) := by
  refine ⟨fun pins s σ H D I h => ?_⟩
  have ok := I.ok
  have hfr : X.A.frames = some (X.env :: X.outer) := by rw [ok.frames, hs]
  refine wpAny_Try_except ?_
  refine wpAny_mono ((hb (wMX X.K Wout D l) (X.pn ++ pins) (fun e s₁ => wpAny (model X.prog X.w) X.A (noteFrame e X.env) (fun _ s₂ => wpAny (model X.prog X.w) X.A (setFlight e none) (fun _ s₃ =>
    wpAny (model X.prog X.w) X.A (handleBy e X.env (h₀ :: hds)) (SP X pins D) X.xe s₃) X.xe s₂) X.xe s₁) (fun u s' xx => ?_) PassesOwn.looking).run [] s σ H D (I.toTry _) h) (fun f s1 hsp => ?_) (fun e s1 he => he)
  · -- the catch
    obtain ⟨a, B, sI, pins', σ', H', cls, d, rfl, J', nb, up, sky, na, os, ag, w⟩ := xx
    have J : Inv X pins σ' H' sI := J'.ofTry ok
    have sky' : Sky B (X.env :: X.outer) a (Zc cls d) X.env.locals s'.heap := by rw [← hs]; exact sky
    show wpAny (model X.prog X.w) X.A (noteFrame (.ref a) X.env) _ _ _
    refine Sky.land Zc.steady hfr hf sky' fun h3 fl3 up3 => ?_
    have J3 : Inv X pins σ' H' { s' with heap := h3 } := J.landed nb fl3.1 (up.trans up3) os ag
    obtain ⟨oe3, vs3, he3, hz3, hd3⟩ := fl3.there
    have nBa : B.get? a = none := fl3.2.1
    have notFr : ∀ {h : Heap} {o : Obj} {vs : Array Value}, h.FunFrames B (X.env :: X.outer) → h.get? a = some o → o.data = .fields vs → a ∉ frs (X.env :: X.outer) := fun {h o vs} ff e dd hm => by
      obtain ⟨_, o', e', hnf⟩ := ff.mem hm
      rw [e] at e'; cases e'
      exact hnf _ dd
    have nfr := notFr fl3.2.2.1 he3 hd3
    have nL : a ≠ X.env.locals := fun z => nfr (List.mem_filterMap.mpr ⟨X.env, List.mem_cons_self, by rw [hf, z]⟩)
    have nF : a ∉ X.fs := fun hm => by
      obtain ⟨e, he, q⟩ := List.mem_filterMap.mp hm
      exact nfr (List.mem_filterMap.mpr ⟨e, List.mem_cons_of_mem _ he, q⟩)
    have nfrS : a ∉ frs X.stack := by rw [hs]; exact nfr
    have nsI : sI.heap.get? a = none := by
      cases q : sI.heap.get? a with
      | none => rfl
      | some o =>
        have := nb a o q nfrS
        rw [nBa] at this
        cases this
    have ne0 : X.s_0.heap.get? a = none := by
      cases q : X.s_0.heap.get? a with
      | none => rfl
      | some o =>
        obtain ⟨o', e'⟩ := J.base.there a o q (by rw [hex]; simp)
        rw [nsI] at e'
        cases e'
    have npin : ∀ p ∈ X.pn ++ pins, p.1 ≠ a := fun p hp z => by
      have := (J.pin p hp).1
      rw [z, nsI] at this
      cases this
    have ncell : ∀ x c, X.env.cells.lookup x = some c → c ≠ a := fun x c e z => by
      obtain ⟨v, o, e1, e2⟩ := J.cell x c e
      rw [z, nsI] at e1
      cases e1
    have go : ∀ {hds' : List ExceptHandler} {l' : List Hdl}, HdX X hds' l' → wMX X.K Wout D l' cls d σ' H' →
        wpAny (model X.prog X.w) X.A (handleBy (.ref a) X.env hds') (SP X pins D) X.xe { s' with heap := h3 } := by
      intro hds' l' hk
      have test : ∀ {x : Str} {c : Value} {np : Pos}, Names X x c → ∀ {Q : Value → Shared → Prop} {E : Value → Shared → Prop}, Q c { s' with heap := h3 } → wpAny (model X.prog X.w) (X.A.mark (some (.ref a))) (eval (.Name x np) X.env) Q E { s' with heap := h3 } := fun {x c np} hc {Q E} q => by
        obtain ⟨hg, hdbg, hm | ⟨hm, hv, hnn⟩⟩ := hc
        · exact ld_glob (X := X.suite a (X.pn ++ pins)) (Inv.suiteX J3) hg hm q hdbg
        · exact ld_blt (X := X.suite a (X.pn ++ pins)) (Inv.suiteX J3) hg hm hv q hnn hdbg
      have track : ∀ {h4 : Heap}, Inv X pins σ' H' { s' with heap := h4 } → (∃ oe vs, h4.get? a = some oe ∧ Zc cls d oe ∧ oe.data = .fields vs) → Inv X pins σ' (upd H' a (exw a cls d)) { s' with heap := h4 } := fun {h4} J4 ⟨oe, vs, e1, e2, e3⟩ =>
        Inv.track J4 na ⟨⟨oe, vs, e1, e2.1, e2.2, e3⟩, ⟨_, e1⟩, fun g1 g2 ⟨oe', vs', z1, z2, z3, z4⟩ st => ⟨oe', vs', st _ z1, z2, z3, z4⟩⟩ ne0 nL ncell npin
      induction hk with
      | nil =>
        intro w
        refine wpAny_handleBy_nil ?_
        obtain ⟨k1, k2, k3, oe, vs, T, oT, ts', he, hz, hd, h1, hr⟩ := id fl3
        unfold PySem.passOn
        refine wpAny_bind (wpAny_field he hd h1 ?_)
        rw [if_neg (show ¬ ((Value.ref T == Value.none) = true) from by simp)]
        have fin : wpAny (model X.prog X.w) X.A (setFlight (.ref a) X.env.frame) (fun _ s4 => wpAny (model X.prog X.w) X.A (throw (.ref a) : Sem Flow) (SP X pins D) X.xe s4) X.xe { s' with heap := h3 } := by
          rw [hf]
          refine HandSPX.setFlight_upZ fl3 fun h4 hh4 up4 => wpAny_throw (tk _ _ ?_)
          exact ⟨a, B, sI, pins, σ', H', cls, d, rfl, J, nb, (up.trans up3).trans up4, .inr (.inr (by rw [hs]; exact hh4)), na, os, ag, w⟩
        first
          | exact wpAny_bind (wpAny_pure (wpAny_bind fin))
          | exact wpAny_bind fin
      | @cons x c ts b₀ suite np pos' hds2 l2 hc hsu r ih =>
        intro w
        obtain ⟨b, hb1, hyes, hno⟩ := w
        refine wpAny_handleBy_cons (codeAny_handlers_test ?_) (by intro q; cases q)
        have LT : PySem.W.Looks (model X.prog X.w) h3 (typeOf (.ref a)) cls := fun A Q E s k q => wpAny_typeOf_ref (k _ _ he3) (by rw [hz3.1]; exact q)
        have LM := PySem.W.exm_one (M := model X.prog X.w) (J3.kIn) LT hb1
        refine test hc (LM.here ?_)
        cases b with
        | true =>
          refine codeAny_handlers_suite ?_
          refine HandSPX.lands_againZ fl3 fun h4 fl4 up4 => ?_
          have J4 : Inv X pins σ' H' { s' with heap := h4 } := J.landed nb fl4.1 ((up.trans up3).trans up4) os ag
          obtain ⟨oe4, vs4, he4, hz4, hd4⟩ := fl4.there
          have S4 := Inv.suiteX (a := a) (track J4 ⟨oe4, vs4, he4, hz4, hd4⟩)
          refine wpAny_mono ((hsu a (X.pn ++ pins)).run [] _ _ _ _ S4 (hyes rfl a na)) (fun f s6 hsp => ?_) (fun _ _ z => False.elim z)
          cases f with
          | next =>
            obtain ⟨σ6, H6, S6, q6⟩ := hsp
            exact ⟨_, _, Inv.unsuiteX S6 ok, q6⟩
          | brk =>
            obtain ⟨σ6, H6, S6, q6⟩ := hsp
            exact ⟨_, _, Inv.unsuiteX S6 ok, q6⟩
          | cont =>
            obtain ⟨σ6, H6, S6, q6⟩ := hsp
            exact ⟨_, _, Inv.unsuiteX S6 ok, q6⟩
          | ret u =>
            obtain ⟨v6, σ6, H6, S6, r6, q6⟩ := hsp
            exact ⟨_, _, _, Inv.unsuiteX S6 ok, r6, q6⟩
        | false =>
          show wpAny _ X.A (handleBy (.ref a) X.env hds2) _ _ _
          exact ih (hno rfl)
      | @consAs x n i c ts b₀ suite np pos' hds2 l2 hi hln hc hsu r ih =>
        intro w
        obtain ⟨b, hb1, hyes, hno⟩ := w
        have hloc : Loc X.env.scope n := .inl hln
        refine wpAny_handleBy_cons (codeAny_handlers_test ?_) (by intro q; cases q)
        have LT : PySem.W.Looks (model X.prog X.w) h3 (typeOf (.ref a)) cls := fun A Q E s k q => wpAny_typeOf_ref (k _ _ he3) (by rw [hz3.1]; exact q)
        have LM := PySem.W.exm_one (M := model X.prog X.w) (J3.kIn) LT hb1
        refine test hc (LM.here ?_)
        cases b with
        | true =>
          refine codeAny_handlers_suite_as ?_
          refine HandSPX.lands_againZ fl3 fun h4 fl4 up4 => ?_
          have J4 : Inv X pins σ' H' { s' with heap := h4 } := J.landed nb fl4.1 ((up.trans up3).trans up4) os ag
          obtain ⟨oe4, vs4, he4, hz4, hd4⟩ := fl4.there
          have S4 := Inv.suiteX (a := a) (track J4 ⟨oe4, vs4, he4, hz4, hd4⟩)
          refine store_ok (X := X.suite a (X.pn ++ pins)) (v := .ref a) S4 hN hi hloc rfl (fun s5 S5 => ?_) (.inr hln)
          refine wpAny_mono ((hsu a (X.pn ++ pins)).run [] s5 _ _ _ S5 (hyes rfl a na)) (fun f s6 hsp => ?_) (fun _ _ z => False.elim z)
          have end_ : ∀ {σ6 : L2.St} {H6 : Hp} {Q : Shared → Prop}, Inv (X.suite a (X.pn ++ pins)) [] σ6 H6 s6 → (∀ s7, Inv X pins (σ6.set i none) H6 s7 → Q s7) →
              wpAny (model X.prog X.w) X.A (do bindName X.env n .none; unbindBehindTheSuite X.env n pos') (fun _ s7 => Q s7) X.xe s6 := fun {σ6 H6 Q} S6 hq => gone_ok (Inv.unsuiteX S6 ok) hN hi hln hq
          cases f with
          | next =>
            obtain ⟨σ6, H6, S6, q6⟩ := hsp
            exact end_ S6 fun s7 J7 => ⟨_, _, J7, q6⟩
          | brk =>
            obtain ⟨σ6, H6, S6, q6⟩ := hsp
            exact end_ S6 fun s7 J7 => ⟨_, _, J7, q6⟩
          | cont =>
            obtain ⟨σ6, H6, S6, q6⟩ := hsp
            exact end_ S6 fun s7 J7 => ⟨_, _, J7, q6⟩
          | ret u =>
            obtain ⟨v6, σ6, H6, S6, r6, q6⟩ := hsp
            exact end_ S6 fun s7 J7 => ⟨_, _, _, J7, r6, q6⟩
        | false =>
          show wpAny _ X.A (handleBy (.ref a) X.env hds2) _ _ _
          exact ih (hno rfl)
    exact go hh w
  · cases f with
    | next =>
      obtain ⟨σ', H', J', q⟩ := hsp
      exact wpAny_execs_nil ⟨σ', H', J'.ofTry ok, q⟩
    | brk =>
      obtain ⟨σ', H', J', q⟩ := hsp
      exact ⟨σ', H', J'.ofTry ok, q⟩
    | cont =>
      obtain ⟨σ', H', J', q⟩ := hsp
      exact ⟨σ', H', J'.ofTry ok, q⟩
    | ret u =>
      obtain ⟨v, σ', H', J', r, q⟩ := hsp
      exact ⟨v, σ', H', J'.ofTry ok, r, q⟩
end
end Dn

namespace Dn
open PySem PySem.Spec PyProof.Rows L2 NdefX
/-! ### try, at the data -/
/-- slot i let go -/
def unSl (i : Nat) (env : Ev) : Option Ev := match env[i]? with
  | none => none
  | some (.ow true _) => none
  | some .hid => none
  | some _ => some (env.set i .no)
section
variable {K : Fg} [WD K] {W : WS} {M M' M1 M2 : Hp} {env env' env1 env2 : Ev} {σ σ' σ1 : L2.St} {H H' H1 H2 : Hp} {x y : X} {v u : V}
theorem unSl_ok {i : Nat} (hh : Holds K M env σ H) (e : unSl i env = some env') : Holds K M env' (σ.set i none) H ∧ Grow M env σ H M env' (σ.set i none) H := by
  unfold unSl at e
  have hex : ∃ s, env[i]? = some s ∧ s.pinned = false ∧ env' = env.set i .no := by
    cases q : env[i]? with
    | none => rw [q] at e; cases e
    | some s =>
      refine ⟨s, rfl, ?_⟩
      rw [q] at e
      cases s with
      | no => cases e; exact ⟨rfl, rfl⟩
      | im d => cases e; exact ⟨rfl, rfl⟩
      | hid => cases e
      | ow p o =>
        cases p with
        | true => cases e
        | false => cases e; exact ⟨rfl, rfl⟩
  obtain ⟨s, hs, hp, rfl⟩ := hex
  have hi : i < env.length := (List.getElem?_eq_some_iff.mp hs).1
  have hiσ : i < σ.length := by rw [hh.len]; exact hi
  have hpin : ∀ (j : Nat) s, env[j]? = some s → s.pinned = true → j ≠ i := fun j s2 q p z => by
    subst z
    rw [hs] at q
    cases q
    rw [hp] at p
    cases p
  have hne : ∀ (j : Nat) (p : Bool) (o : OD), (env.set i Sl.no)[j]? = some (Sl.ow p o) → j ≠ i := fun j p o q z => by
    subst z
    rw [List.getElem?_set_self hi] at q
    cases q
  have hown : ∀ l, Own (env.set i Sl.no) (σ.set i none) l → Own env σ l := fun l ⟨j, p, o, q1, q2⟩ => by
    have hj := hne j p o q1
    rw [List.getElem?_set_ne (Ne.symm hj)] at q1 q2
    exact ⟨j, p, o, q1, q2⟩
  refine ⟨⟨hh.ex, by simpa using hh.len, fun j t q => ?_, fun j k l p o p' o' hjk q1 q2 q3 q4 => ?_⟩, ⟨Same.refl M, fun _ _ h _ => h, fun _ _ h => .inl h, fun l z => .inl (hown l z), fun j s2 q p => ?_, fun _ h => h, by simp⟩⟩
  · by_cases hj : j = i
    · subst hj
      rw [List.getElem?_set_self hi] at q
      cases q
      trivial
    · rw [List.getElem?_set_ne (Ne.symm hj)] at q ⊢
      exact hh.slot j t q
  · have hj := hne j p o q1
    have hk := hne k p' o' q2
    rw [List.getElem?_set_ne (Ne.symm hj)] at q1 q3
    rw [List.getElem?_set_ne (Ne.symm hk)] at q2 q4
    exact hh.dj j k l p o p' o' hjk q1 q2 q3 q4
  · have hj := hpin j s2 q p
    exact ⟨List.getElem?_set_ne (Ne.symm hj), s2, by rw [List.getElem?_set_ne (Ne.symm hj)]; exact q, rfl⟩
end
def RS.un (oi : Option Nat) (r : RS) : RS := match oi with
  | none => (match r with
    | .exc _ _ => .bad
    | r => r)
  | some i => (match r with
    | .nx e => optS (unSl i e)
    | .rt x e => .rt x e
    | .bk e => (match unSl i e with
      | some e' => .bk e'
      | none => .bad)
    | .ct e => (match unSl i e with
      | some e' => .ct e'
      | none => .bad)
    | _ => .bad)
section
variable {K : Fg} [WD K] {W W' : WS} {M M' M1 M2 : Hp} {env env' env1 env2 : Ev} {σ σ' σ1 : L2.St} {H H' H1 H2 : Hp} {x y : X} {v u : V} {r : RS}
theorem satS_un {oi : Option Nat} {t : Ends → Prop} (hh : Holds K M env σ H) (h : SatS K W' M σ H env r t) : SatS K W M σ H env (r.un oi) (fun D => t (unD oi D)) := by
  cases oi with
  | none =>
    cases r with
    | bad => trivial
    | exc e env' => trivial
    | nx env' => exact fun D k => h (unD none D) k
    | bk env' => exact fun D k => h (unD none D) k
    | ct env' => exact fun D k => h (unD none D) k
    | rt x env' => exact fun D k => h (unD none D) k
  | some i =>
    cases r with
    | bad => trivial
    | exc e env' => trivial
    | rt x env' => exact fun D k => h (unD (some i) D) k
    | nx env1 =>
      show SatS K W M σ H env (optS (unSl i env1)) _
      cases e : unSl i env1 with
      | none => trivial
      | some env' => exact fun D k => h (unD (some i) D) fun σ' M' H' g hh' => (by obtain ⟨a, b⟩ := unSl_ok hh' e; exact k _ _ _ (g.trans hh b) a)
    | bk env1 =>
      show SatS K W M σ H env (match unSl i env1 with
        | some e' => .bk e'
        | none => .bad) _
      cases e : unSl i env1 with
      | none => trivial
      | some env' => exact fun D k => h (unD (some i) D) fun σ' M' H' g hh' => (by obtain ⟨a, b⟩ := unSl_ok hh' e; exact k _ _ _ (g.trans hh b) a)
    | ct env1 =>
      show SatS K W M σ H env (match unSl i env1 with
        | some e' => .ct e'
        | none => .bad) _
      cases e : unSl i env1 with
      | none => trivial
      | some env' => exact fun D k => h (unD (some i) D) fun σ' M' H' g hh' => (by obtain ⟨a, b⟩ := unSl_ok hh' e; exact k _ _ _ (g.trans hh b) a)
theorem satS_all {ι : Sort _} {t : ι → Ends → Prop} (h : ∀ i, SatS K W M σ H env r (t i)) : SatS K W M σ H env r (fun D => ∀ i, t i D) := by
  cases r with
  | bad => trivial
  | nx env' => exact fun D k i => h i D k
  | bk env' => exact fun D k i => h i D k
  | ct env' => exact fun D k i => h i D k
  | rt x env' => exact fun D k i => h i D k
  | exc e env' => exact fun D k i => h i D k
theorem satS_true : SatS K W M σ H env r (fun _ => True) := by
  cases r with
  | bad => trivial
  | nx env' => exact fun D k => trivial
  | bk env' => exact fun D k => trivial
  | ct env' => exact fun D k => trivial
  | rt x env' => exact fun D k => trivial
  | exc e env' => exact fun D k => trivial
end
abbrev HdD := Str × Option Nat × (Ev → RS)
def dHds (T : Str → Str → Option Bool) (e : Xn) : List HdD → Ev → RS
  | [] => fun env => .exc e env
  | (C, oi, b) :: r => fun env => match T e.1 C with
    | some true => (match oi with
      | none => (b env).un none
      | some i => (match setSl i (.im (.exn e.1 e.2)) env with
        | some env' => (b env').un (some i)
        | none => .bad))
    | some false => dHds T e r env
    | none => .bad
def dTry (T : Str → Str → Option Bool) (hs : List HdD) (body : Ev → RS) : Ev → RS := fun env => match body env with
  | .exc e env1 => dHds T e hs env1
  | r => r
inductive HdR (K : Fg) [WD K] (T : Str → Str → Option Bool) : List Hdl → List HdD → Prop
  | nil : HdR K T [] []
  | cons {C : Str} {cv : Value} {oi : Option Nat} {ts : TS} {b : Ev → RS} {l : List Hdl} {hs : List HdD} (hC : ∀ c q, T c C = some q → PySem.W.exmOne K (.ref (He.ga K c)) cv = some q) (hd : DS K (fun _ => L2.E0) ts b) (r : HdR K T l hs) :
      HdR K T ((cv, oi, ts) :: l) ((C, oi, b) :: hs)
section
variable {K : Fg} [WD K] {W W' : WS} {M M' M1 M2 : Hp} {env env' env1 env2 : Ev} {σ σ' σ1 : L2.St} {H H' H1 H2 : Hp} {T : Str → Str → Option Bool} {l : List Hdl} {hs : List HdD} {Wout : WX} {e : Xn} {cls : Value} {d : Option Addr}
theorem hds_ok (r : HdR K T l hs) (hh : Holds K M env σ H) (re : RepE K M H e cls d) : SatS K (WE Wout) M σ H env (dHds T e hs env) (fun D => wMX K Wout D l cls d σ H) := by
  induction r with
  | nil => exact fun D k => k cls d σ M H .refl hh re
  | @cons C cv oi ts b l2 hs2 hC hd r2 ih =>
    show SatS K (WE Wout) M σ H env (match T e.1 C with
      | some true => (match oi with
        | none => (b env).un none
        | some i => (match setSl i (.im (.exn e.1 e.2)) env with
          | some env' => (b env').un (some i)
          | none => .bad))
      | some false => dHds T e hs2 env
      | none => .bad) _
    cases eT : T e.1 C with
    | none => trivial
    | some q =>
      have hx := hC _ _ eT
      rw [← re.1] at hx
      cases q with
      | false =>
        refine SatS.imp (t := fun D => wMX K Wout D l2 cls d σ H) ih fun D h => ⟨false, hx, fun z => (nomatch z), fun _ => h⟩
      | true =>
        have rep : ∀ a, H a = none → Rep K (upd M a (exw a cls d)) (.exn e.1 e.2) (.ref a) := fun a n => by
          simp only [Rep]
          refine ⟨a, d, rfl, by rw [upd_same, re.1], ?_⟩
          rcases re.2 with h | ⟨h1, dx, fvs, h2, h3, h4⟩
          · exact .inl h
          · refine .inr ⟨h1, dx, fvs, h2, ?_, RepF.mono (ext_tup hh.ex n).exM _ _ h4⟩
            rw [upd_ne (fun z => ?_)]
            · exact h3
            · have := hh.ex _ _ h3
              rw [z, n] at this
              cases this
        have fin : ∀ {r : RS}, (∀ a, H a = none → SatS K (WE Wout) M σ H env r fun D => ts (unD oi D) (setO oi a σ) (upd H a (exw a cls d))) → SatS K (WE Wout) M σ H env r (fun D => wMX K Wout D ((cv, oi, ts) :: l2) cls d σ H) := fun {r} h =>
          SatS.imp (t := fun D => ∀ (p : { a : Addr // H a = none }), ts (unD oi D) (setO oi p.1 σ) (upd H p.1 (exw p.1 cls d))) (satS_all fun p => h p.1 p.2) fun D h => ⟨true, hx, fun _ a n => h ⟨a, n⟩, fun z => (nomatch z)⟩
        cases oi with
        | none =>
          refine fin fun a n => ?_
          have ex := ext_tup (o := exw a cls d) hh.ex n
          have h2 := ex.holds hh
          exact SatS.later hh (ex.grow hh) (satS_un h2 (hd _ _ _ _ h2))
        | some i =>
          show SatS K (WE Wout) M σ H env (match setSl i (.im (.exn e.1 e.2)) env with
            | some env' => (b env').un (some i)
            | none => .bad) _
          cases eS : setSl i (.im (.exn e.1 e.2)) env with
          | none => trivial
          | some env' =>
            refine fin fun a n => ?_
            have ex := ext_tup (o := exw a cls d) hh.ex n
            have h2 := ex.holds hh
            obtain ⟨g3, h3⟩ := setSl_grow h2 .refl h2 (rx_im (rep a n)) eS
            exact SatS.later hh ((ex.grow hh).trans hh g3) (satS_un h3 (hd _ _ _ _ h3))
theorem ds_try {tb : WX → TS} {db : Ev → RS} (hr : HdR K T l hs) (hb : ∀ W : WX, DS K (WE W) (tb W) db) : DS K (WE Wout) (fun D σ H => tb (wMX K Wout D l) D σ H) (dTry T hs db) := fun M σ H env hh => by
  have h1 := fun W => hb W M σ H env hh
  unfold dTry
  cases e1 : db env with
  | bad => trivial
  | nx env' => rw [e1] at h1; exact fun D k => h1 (wMX K Wout D l) D k
  | bk env' => rw [e1] at h1; exact fun D k => h1 (wMX K Wout D l) D k
  | ct env' => rw [e1] at h1; exact fun D k => h1 (wMX K Wout D l) D k
  | rt x env' => rw [e1] at h1; exact fun D k => h1 (wMX K Wout D l) D k
  | exc e env1 =>
    rw [e1] at h1
    show SatS K (WE Wout) M σ H env (dHds T e hs env1) _
    have key : SatS K (WE Wout) M σ H env (dHds T e hs env1) (fun D => ∀ (p : { p : Value × Option Addr × L2.St × Hp × Hp // Grow M env σ H p.2.2.2.1 env1 p.2.2.1 p.2.2.2.2 ∧ Holds K p.2.2.2.1 env1 p.2.2.1 p.2.2.2.2 ∧ RepE K p.2.2.2.1 p.2.2.2.2 e p.1 p.2.1 }), wMX K Wout D l p.1.1 p.1.2.1 p.1.2.2.1 p.1.2.2.2.2) :=
      satS_all fun ⟨⟨cls, d, σ', M', H'⟩, g, hh', re⟩ => SatS.later hh g (hds_ok hr hh' re)
    exact SatS.imp key fun D h => h1 _ D fun cls d σ' M' H' g hh' re => h ⟨⟨cls, d, σ', M', H'⟩, g, hh', re⟩
end
/-! ### e.f -/
/-- the field f of an exception that a suite holds -/
def tXfD (K : Fg) (n : Str) (te : TE) : TE := fun σ H Q => te σ H fun x H1 => ∃ (a C dd : Addr) (fs : List (Str × V)) (v : V), x = .ref a ∧ H1 a = some (exw a (.ref C) (some dd)) ∧ XfC K C ∧ PySem.W.findIn K (.ref C) n = some none ∧ H1 dd = some (.xd fs) ∧ fs.lookup n = some v ∧ Q v H1
theorem exw_at {X : Cx} {H : Hp} {h : Heap} {a b : Addr} {cls : Value} {d : Option Addr} (o : ObjOk X.prog X.w H h b (exw a cls d)) : ∃ (oe : Obj) (vs : Array Value), h.get? a = some oe ∧ oe.cls = cls ∧ oe.dict = d ∧ oe.data = .fields vs := o.1
theorem pe_xfD {X : Cx} {K : Fg} [WD K] {e : Expr} {te : TE} {pos : Pos} {n : Str} (he : PE X e te) (hK : X.K = K := by rfl) (hb : attributeBase e n X.env (eval e X.env) = eval e X.env := by rfl) : PE X (.Attribute e n pos) (tXfD K n te) := by
  subst hK
  refine ⟨fun pins s σ H Q I h => ?_⟩
  refine attr_of hb (thn (he.run pins s σ H _ I h) fun u s1 hh => ?_)
  obtain ⟨x, H1, I1, rx, a, C, dd, fs, v, ex, ea, T, hno, ed, l, q⟩ := hh
  subst ex
  obtain rfl : u = Value.ref a := rx
  obtain ⟨oe, vs, ha, hc, hdc, hd⟩ := exw_at (I1.hok a _ ea)
  have hx : ObjOk X.prog X.w H1 s1.heap dd (.xd fs) := I1.hok dd _ ed
  obtain ⟨mA, hns, hr⟩ := hx
  obtain ⟨od, ho, hl⟩ := lookIn_ns hns
  obtain ⟨u, hu, ru⟩ := RelO.some_of (v := v) (o := mA n) (by rw [← l]; exact hr n)
  have J : PySem.W.InstAt s1.heap a oe C (some od) := ⟨ha, hc, by unfold PySem.W.notCls; rw [hd] <;> rfl, by rw [hdc]; exact ho⟩
  exact HandSPX.exc_get I1.kIn J T.ga T.gg T.exC (PySem.W.findObj_own T.hdC hno rfl (by rw [hl, hu])) (handed_of ru) ⟨v, H1, I1.tok _, ru, q⟩
/-- its data: the classes cs have no attribute n of their own -/
def dXf (cs : List Str) (n : Str) (de : Ev → RE X) : Ev → RE X := fun env => (de env).bind fun x e1 => match x with
  | .im (.exn c fs) => if c ∈ cs then (match fs.lookup n with
    | some d => .ok (.im d) e1
    | none => .bad) else .bad
  | _ => .bad
end Dn

namespace Dn
open PySem PySem.Spec PyProof.Rows L2 NdefX
section
variable {K : Fg} [WD K] {W : WS} {te : TE} {de : Ev → RE X} {cs : List Str} {n : Str}
theorem repF_lookup {M : Hp} : ∀ {xs : List (Str × D)} {vs : List (Str × V)} {d : D}, RepF K M xs vs → xs.lookup n = some d → ∃ v, vs.lookup n = some v ∧ Rep K M d v
  | [], vs, d, h, e => nomatch e
  | (k, x) :: xs, vs, d, h, e => by
    simp only [RepF] at h
    obtain ⟨v, r, rfl, h1, h2⟩ := h
    rw [List.lookup_cons] at e ⊢
    cases q : (n == k) with
    | true =>
      rw [q] at e
      cases e
      exact ⟨v, rfl, h1⟩
    | false =>
      rw [q] at e
      exact repF_lookup h2 e
theorem de_xf (T : ∀ c ∈ cs, XfC K (He.ga K c) ∧ PySem.W.findIn K (.ref (He.ga K c)) n = some none) (h : DE K W te de) : DE K W (tXfD K n te) (dXf cs n de) := fun M σ H env hh => by
  refine Sat.bind (c := fun x H1 Q => ∃ (a C dd : Addr) (fs : List (Str × V)) (v : V), x = V.ref a ∧ H1 a = some (exw a (.ref C) (some dd)) ∧ XfC K C ∧ PySem.W.findIn K (.ref C) n = some none ∧ H1 dd = some (.xd fs) ∧ fs.lookup n = some v ∧ Q v H1) back_x hh (h M σ H env hh) (fun Q q => q) fun M1 H1 env1 x v g1 s1 hh1 r1 => ?_
  cases x with
  | sl i => trivial
  | ow o => trivial
  | im d =>
    cases d with
    | exn c fs =>
      show Sat K W M1 σ H1 env1 (if c ∈ cs then (match fs.lookup n with
        | some d => .ok (.im d) env1
        | none => .bad) else .bad) (RX K σ) _
      by_cases hc : c ∈ cs
      · rw [if_pos hc]
        cases el : fs.lookup n with
        | none => trivial
        | some d =>
          intro Q k
          have r := r1.1
          simp only [RepX, Rep] at r
          obtain ⟨a, dd, rfl, e1, e2 | ⟨e2, dx, fvs, rfl, e3, e4⟩⟩ := r
          · rw [e2.1] at el
            cases el
          · obtain ⟨v, e5, e6⟩ := repF_lookup e4 el
            exact ⟨a, _, dx, fvs, v, rfl, hh1.ex _ _ e1, (T c hc).1, (T c hc).2, hh1.ex _ _ e3, e5, k _ _ _ .refl (.refl _) hh1 (rx_im e6)⟩
      · rw [if_neg hc]
        trivial
    | _ => trivial
end
/-! ### isinstance of a caught exception -/
end Dn
namespace PySem.W
open PySem PySem.Spec PySem.Calls PyProof.Rows
section
variable {prog : Program} {w : World} {A : Around} {E : Value → Shared → Prop} {s : Shared} {K : Frag} {x D : Addr} {ox : Obj} {od : Option Obj}
theorem dn_findObj {C : Addr} {name : Str} {a g : Value} (hc : (clsIn K C).isSome = true) (ha : findIn K (.ref C) name = some (some a)) (hg : specialIn K a "__get__" = some (some g)) (ht : takesIn K a = some true) : findObj K C od name = some (.bind g a) := by
  obtain ⟨cd, hc⟩ := Option.isSome_iff_exists.mp hc
  unfold findObj
  rw [hc, Option.bind_some, ha, Option.bind_some]
  simp [hg, ht]
theorem dn_classE {Q : Option Value → Shared → Prop} (T : L2.ExcC K D) (X : K.In s.heap) (I : InstAt s.heap x ox D od) (h : Q (some (.ref D)) { s with toks := s.toks + 1 }) : wpAny (model prog w) A (getAttr? (.ref x) "__class__") Q E s := by
  obtain ⟨hga, hgt, hsub, hdct, ha, hn, htk, hm⟩ := T
  have hf : findObj K D od "__class__" = some (.bind (.builtin "getset_descriptor.__get__") (.builtin "object.__class__")) := dn_findObj (by obtain ⟨cd, hc, _⟩ := any_some hdct; rw [hc]; rfl) ha hn htk
  obtain ⟨hp, g, d, t, os⟩ := s
  have L0 := I.type (M := model prog w)
  have L1 := looks_findIn (M := model prog w) X hga
  have L2 := looks_findIn (M := model prog w) X hgt
  have L3 := looks_find (M := model prog w) X I hf
  have sub : Looks (model prog w) hp (isInstance (.ref x) (.type "BaseException")) true := L0.andThen (looks_subIn X hsub)
  have hx0 : (false && onTheHeap (Value.builtin "BaseException.__getattribute__")) = false := rfl
  have hx2 : (Value.builtin "BaseException.__getattribute__" == Value.builtin "object.__getattribute__") = false := by decide +kernel
  have hx1 : (onTheHeap (Value.ref D) && Value.builtin "BaseException.__getattribute__" == Value.builtin "object.__getattribute__") = false := by rw [hx2]; rfl
  unfold getAttr? getAttrBy? getAttrBy
  refine wpAny_bind (wpAny_mkText (wpAny_bind (wpAny_attempt (wpAny_holding (wpAny_bind (L0.at (wpAny_bind (L1.at ?_))))))))
  show wpAny _ _ (if (onTheHeap (Value.ref D) && Value.builtin "BaseException.__getattribute__" == Value.builtin "object.__getattribute__") = true then _ else _) _ _ _
  rw [hx1, if_neg Bool.false_ne_true]
  unfold getAttrByItsOwn hookBefore
  refine wpAny_bind ?_
  rw [if_pos (show onTheHeap (Value.ref D) = true from rfl)]
  refine L2.at ?_
  refine wpAny_bind (wpAny_attempt (wpAny_holding ?_))
  unfold callGetattribute
  rw [hx0, if_neg Bool.false_ne_true]
  unfold boundAndCalled
  rw [PySem.F.excAttr_ValueError.ga.bind (.ref x)]
  refine wpAny_bind (wpAny_pure ?_)
  show wpAny _ _ (call (.builtin "BaseException.__getattribute__") [.ref x, .str "__class__" t]) _ _ _
  refine wpAny_call (codeAny_call_builtin PySem.F.excAttr_ValueError.ga.plain PySem.F.entry_bexc_ga ?_)
  refine @check_slot (model prog w) _ _ ⟨hp, g, d, t + 1, os⟩ "BaseException.__getattribute__" "BaseException" "__getattribute__" (.ref x) [.str "__class__" t] [] _ (by decide +kernel) (by decide +kernel) sub (PySem.F.args_bexc_ga (.ref x) (.str "__class__" t)) ?_
  unfold Builtin.«object.__getattribute__»
  refine wpAny_bind (wpAny_of_eq (a := ((Value.ref x : Value), [Value.str "__class__" t])) (by first | rfl | (simp only [slotArgs]; rfl)) ?_)
  refine wpAny_bind (wpAny_pure (wpAny_bind (L0.at (wpAny_bind (L3.at ?_)))))
  show wpAny _ _ (holding [Value.builtin "object.__class__"] (call (.builtin "getset_descriptor.__get__") [.builtin "object.__class__", .ref x, .ref D]) >>= ret) _ _ _
  refine wpAny_bind (wpAny_holding (wpAny_call (class_get (s := ⟨hp, g, d, t + 1, os⟩) (ox := ox) (od := od) X I hm ?_)))
  refine wpAny_pure ?_
  show wpAny _ _ (handedOut (.ref D)) _ _ _
  rw [handedOut_of (v := .ref D) rfl]
  first
    | exact wpAny_pure (wpAny_pure h)
    | exact wpAny_pure h
    | exact wpAny_pure (wpAny_bind (wpAny_pure (wpAny_pure h)))
theorem dn_kitx (T : L2.ExcC K D) : KitX K (.ref x) (.ref D) (fun h => InstAt h x ox D od) where
  ty := fun _ _ _ I => I.type
  it := fun _ _ X _ => by
    obtain ⟨cdD, hcD, _⟩ := any_some T.hd
    unfold clsIn at hcD
    split at hcD
    · rename_i c' d' cd' sl' ho
      intro A' Q' E' s' k q
      unfold isType loadHead
      exact wpAny_bind (wpAny_loadPart (k _ _ (X _ _ ho)) (wpAny_pure q))
    · cases hcD
  ne := fun h tp dd its n sl X htp => by
    obtain ⟨cdD, hcD, _⟩ := any_some T.hd
    refine Bool.eq_false_iff.mpr fun q => ?_
    have e : D = tp := Value.ref.inj (beq_iff_eq.mp q)
    subst e
    unfold clsIn at hcD
    split at hcD
    · rename_i c' d' cd' sl' ho
      have z := (X _ _ ho).symm.trans htp
      cases z
    · cases hcD
  ca := fun X I k => dn_classE T X I k
end
end PySem.W
namespace Dn
open PySem PySem.Spec PyProof.Rows L2 NdefX
/-- isinstance(e, c), e an exception that a suite holds -/
def rIsE2 (K : Fg) : List V → Hp → VK → Prop := fun xs H Q => ∃ (a C : Addr) (d : Option Addr) (c : V) (cv : Value) (b : Bool), xs = [.ref a, c] ∧ H a = some (exw a (.ref C) d) ∧ (∀ dd, d = some dd → ∃ fs, H dd = some (.xd fs)) ∧ ExcC K C ∧ (∀ u, RelV c u → u = cv) ∧ PySem.W.kitOne K (.ref C) cv = some b ∧ Q (.bl b) H
theorem call_isE2 {X : Cx} {K : Fg} [WD K] (hK : X.K = K := by rfl) : CallR X (.builtin "isinstance") (rIsE2 K) := by
  subst hK
  intro pins s σ H xs us Q I r h
  obtain ⟨a, C, d, c, cv, b, rfl, ea, hd, T, hcv, e, q⟩ := h
  cases r with
  | cons rx rr =>
    cases rr with
    | cons rt rr =>
      cases rr
      cases rx
      have ec := hcv _ rt
      subst ec
      obtain ⟨oe, vs, ha, hc, hdc, hdt⟩ := exw_at (I.hok a _ ea)
      have J : ∃ od, PySem.W.InstAt s.heap a oe C od := by
        cases d with
        | none => exact ⟨none, ha, hc, by unfold PySem.W.notCls; rw [hdt] <;> rfl, by rw [hdc]; exact trivial⟩
        | some dd =>
          obtain ⟨fs, ed⟩ := hd dd rfl
          have hx : ObjOk X.prog X.w H s.heap dd (.xd fs) := I.hok dd _ ed
          obtain ⟨mA, hns, hr⟩ := hx
          obtain ⟨od, ho, hl⟩ := lookIn_ns hns
          exact ⟨some od, ha, hc, by unfold PySem.W.notCls; rw [hdt] <;> rfl, by rw [hdc]; exact ho⟩
      obtain ⟨od, J⟩ := J
      exact PySem.W.kia_one (PySem.W.dn_kitx T) I.kIn J e (fun z => nomatch z) fun tk => ⟨.bl b, H, I.kept (t' := tk) fun _ _ z => z, rfl, q⟩
/-- its data: T says which classes are above which -/
def pIsE (T : Str → Str → Option Bool) (T2 : Str → String → Option Bool) : List D → Option X
  | [.exn c _, .cls C] => (T c C).map fun b => .im (.bl b)
  | [.exn c _, .ty n] => (T2 c n).map fun b => .im (.bl b)
  | _ => none
theorem ok_isE {K : Fg} [WD K] {T : Str → Str → Option Bool} {T2 : Str → String → Option Bool} (h1 : ∀ c C b, T c C = some b → ExcC K (He.ga K c) ∧ PySem.W.kitOne K (.ref (He.ga K c)) (.ref (He.ga K C)) = some b)
    (h2 : ∀ c n b, T2 c n = some b → ExcC K (He.ga K c) ∧ PySem.W.kitOne K (.ref (He.ga K c)) (.type n) = some b) : CallOk K (rIsE2 K) (pIsE T T2) := by
  intro M H ds x vs e r hf Q q
  have get : ∀ {c : Str} {fs : List (Str × D)} {v : V}, Rd2 K M H (.exn c fs) v → ∃ a d, v = .ref a ∧ H a = some (exw a (.ref (He.ga K c)) d) ∧ ∀ dd, d = some dd → ∃ fs, H dd = some (.xd fs) := fun {c fs v} h => by
    rcases h with h | ⟨l, o, _, _, z⟩
    · simp only [Rep] at h
      obtain ⟨a, d, rfl, e1, e2⟩ := h
      refine ⟨a, d, rfl, e _ _ e1, fun dd z => ?_⟩
      rcases e2 with e2 | ⟨_, dx, fvs, e2, e3, _⟩
      · rw [e2.2] at z
        cases z
      · rw [z] at e2
        cases e2
        exact ⟨fvs, e _ _ e3⟩
    · cases o <;> cases z
  unfold pIsE at hf
  split at hf
  · rename_i c fs C
    obtain ⟨b, e1, rfl⟩ := Option.map_eq_some_iff.mp hf
    obtain ⟨k1, k2⟩ := h1 _ _ _ e1
    cases r with
    | cons a r =>
      cases r with
      | cons a2 r =>
        cases r
        obtain ⟨ad, d, rfl, e3, e4⟩ := get a
        have ea2 : ∀ v, Rd2 K M H (.cls C) v → v = .ref (He.ga K C) := fun v h => by
          rcases h with h | ⟨l, o, _, _, z⟩
          · simpa [Rep] using h
          · cases o <;> cases z
        rw [ea2 _ a2]
        exact ⟨ad, _, d, _, .ref (He.ga K C), b, rfl, e3, e4, k1, fun u h => h, k2, q.im0 e rep_bl⟩
  · rename_i c fs n
    obtain ⟨b, e1, rfl⟩ := Option.map_eq_some_iff.mp hf
    obtain ⟨k1, k2⟩ := h2 _ _ _ e1
    cases r with
    | cons a r =>
      cases r with
      | cons a2 r =>
        cases r
        obtain ⟨ad, d, rfl, e3, e4⟩ := get a
        rw [a2.ty]
        exact ⟨ad, _, d, _, .type n, b, rfl, e3, e4, k1, fun u h => h, k2, q.im0 e rep_bl⟩
  · cases hf
abbrev boot_ValueError := PyProof.Rows.Boot.«ValueError»
/-! ### a class by its name -/
theorem de_cls {K : Fg} [WD K] {W : WS} {C : Str} : DE K W (tC (.ref (He.ga K C))) (dC (.cls C)) := de_c _ _ fun M => by simp [Rep]
/-! ### the head's further facts -/
def fndB (K : Fg) (C : Value) (n : Str) (v : Option Value) : Bool := decide (PySem.W.findIn K C n = some v)
def excCB (K : Fg) (C : Addr) : Bool := fndB K (.ref C) "__getattribute__" (some (.builtin "BaseException.__getattribute__")) && (fndB K (.ref C) "__getattr__" none && (decide (PySem.W.subIn K (.ref C) (.type "BaseException") = some true) && (PySem.W.hasDictIn K C && (fndB K (.ref C) "__class__" (some (.builtin "object.__class__")) &&
  (decide (PySem.W.specialIn K (.builtin "object.__class__") "__get__" = some (some (.builtin "getset_descriptor.__get__"))) && (decide (PySem.W.takesIn K (.builtin "object.__class__") = some true) && decide (PySem.W.mroIn K C (.type "object") = some true)))))))
theorem excCB_ok {K : Fg} [WD K] {C : Addr} (h : excCB K C = true) : ExcC K C ∧ XfC K C := by
  obtain ⟨h1, h⟩ := He.ba h
  obtain ⟨h2, h⟩ := He.ba h
  obtain ⟨h3, h⟩ := He.ba h
  obtain ⟨h4, h⟩ := He.ba h
  obtain ⟨h5, h⟩ := He.ba h
  obtain ⟨h6, h⟩ := He.ba h
  obtain ⟨h7, h8⟩ := He.ba h
  exact ⟨⟨of_decide_eq_true h1, of_decide_eq_true h2, of_decide_eq_true h3, h4, of_decide_eq_true h5, of_decide_eq_true h6, of_decide_eq_true h7, of_decide_eq_true h8⟩, ⟨of_decide_eq_true h1, of_decide_eq_true h2, of_decide_eq_true h3, h4⟩⟩
def oexB (K : Fg) (C : Addr) : Bool := (match K.lookup C with
  | some ⟨.type "type", _, .cls cd, sl⟩ => (match cd.mro, sl.toList with
    | .ref C' :: bm, [_, _, _, _, some (.builtin n), _] => C' == C && (n == "ValueError.__new__" && (!cd.hasDel && (cd.hasDict && PySem.HandSPX.refsVE bm)))
    | _, _ => false)
  | _ => false) && (fndB K (.ref C) "__setattr__" (some (.builtin "object.__setattr__")) && (decide (PySem.W.subIn K (.ref C) (.type "BaseException") = some true) && (decide (PySem.W.typeIn K (.ref C) = some (.type "type")) && PySem.W.keepIn K (.ref C))))
theorem oexB_ok {K : Fg} [WD K] {C : Addr} (h : oexB K C = true) : OexC K C := by
  obtain ⟨h1, h⟩ := He.ba h
  obtain ⟨h2, h⟩ := He.ba h
  obtain ⟨h3, h⟩ := He.ba h
  obtain ⟨h4, h5⟩ := He.ba h
  refine ⟨?_, of_decide_eq_true h2, of_decide_eq_true h3, of_decide_eq_true h4, h5⟩
  split at h1
  · rename_i dd cd sl ho
    split at h1
    · rename_i C' bm k0 k1 k2 k3 n k5 hm hs
      simp only [Bool.and_eq_true, beq_iff_eq, Bool.not_eq_true'] at h1
      obtain ⟨rfl, rfl, hdel, hdict, ht⟩ := h1
      obtain ⟨nm, bs, mro, ns, qn, hd, sn, sub, ab, col, del⟩ := cd
      dsimp only at hm hdel hdict
      subst hm hdel hdict
      have hsl : sl = #[k0, k1, k2, k3, some (.builtin "ValueError.__new__"), k5] := by
        obtain ⟨l⟩ := sl
        simp only at hs
        rw [hs]
      subst hsl
      exact ⟨nm, qn, ns, bs, bm, sn, sub, ab, col, dd, k0, k1, k2, k3, k5, ho, ht⟩
    · cases h1
  · cases h1
def oexSB (K : Fg) (C : Addr) : Bool := oexB K C && (decide (PySem.W.subIn K (.ref C) (.type "ValueError") = some true) && (decide (PySem.W.mroIn K C (.ref C) = some true) && (decide (PySem.W.ks_superIn K C C "__init__" = some (some (.builtin "ValueError.__init__"))) && decide (PySem.W.nsIn K cStatics "thirdparty.any" = some none))))
theorem oexSB_ok {K : Fg} [WD K] {C : Addr} (h : oexSB K C = true) : OexS K C := by
  obtain ⟨h1, h⟩ := He.ba h
  obtain ⟨h2, h⟩ := He.ba h
  obtain ⟨h3, h⟩ := He.ba h
  obtain ⟨h4, h5⟩ := He.ba h
  exact { oexB_ok h1 with ve := of_decide_eq_true h2, self := of_decide_eq_true h3, sup := of_decide_eq_true h4, opq := of_decide_eq_true h5 }
/-- own facts -/
inductive Fx where
  | oex (c : Str) | exc (c : Str) | noat (c f : Str) | exm (c d : Str) (b : Bool) | kit (c d : Str) (b : Bool) | kitT (c : Str) (n : String) (b : Bool) | ini (c : Str)
  | any (f : Fg → Bool)
def Fx.ok (K : Fg) : Fx → Bool
  | .any f => f K
  | .oex c => oexSB K (He.ga K c)
  | .exc c => excCB K (He.ga K c)
  | .noat c f => fndB K (.ref (He.ga K c)) f none
  | .exm c d b => decide (PySem.W.exmOne K (.ref (He.ga K c)) (.ref (He.ga K d)) = some b)
  | .kit c d b => decide (PySem.W.kitOne K (.ref (He.ga K c)) (.ref (He.ga K d)) = some b)
  | .kitT c n b => decide (PySem.W.kitOne K (.ref (He.ga K c)) (.type n) = some b)
  | .ini c => decide (PySem.W.findIn K (.ref (He.ga K c)) "__init__" = some (some (.ref (He.ma K (He.ga K c) "__init__")))) && decide (PySem.W.typeIn K (.ref (He.ma K (He.ga K c) "__init__")) = some (.type "function"))
/-- a method that knows its class: the class, its name -/
structure FnS where
  cls : Str
  name : Str
  qual : Str
  params : Arguments
  body : List Stmt
  scope : Scope
abbrev FnSV : Type := Option (Str × Str × Arguments × FuncBody × Scope × Addr × Addr)
def fnS (K : Fg) (d : FnS) : FnSV := match K.lookup (He.ma K (He.ga K d.cls) d.name) with
  | some ⟨_, _, .func fd, _⟩ => some (fd.name, fd.qualname, fd.params, fd.body, fd.scope, fd.globals, fd.builtins)
  | _ => none
def FnS.val (d : FnS) : FnSV := some (d.name, d.qual, d.params, .stmts d.body, d.scope, mainGlobals, builtinsNs)
def FnS.ok (mf : Str) (K : Fg) (d : FnS) : Bool := PySem.W.keepIn K (.ref (He.ma K (He.ga K d.cls) d.name)) && (match K.lookup (He.ma K (He.ga K d.cls) d.name) with
  | some ⟨_, _, .func fd, _⟩ => (match fd.defaults, fd.closure, fd.code with
    | .none, [(x, cc)], .ref cda => (x == ("__class__" : Str)) && (PySem.W.codeIn K (.ref cda) d.qual && ((match K.lookup cc with
      | some ⟨_, _, .cell (some (.ref D)), _⟩ => D == He.ga K d.cls
      | _ => false) && (match K.lookup cda with
        | some ⟨_, _, .fields vs, _⟩ => (match vs[2]? with
          | some (Value.str f _) => decide (f = mf)
          | _ => false)
        | _ => false)))
    | _, _, _ => false)
  | _ => false)
theorem FnS.funC {K : Fg} [WD K] {mf : Str} {d : FnS} (e : fnS K d = d.val) (c : d.ok mf K = true) : ∃ fd, FunC K mf (He.ga K d.cls) d.name d.qual d.params d.body d.scope (He.ma K (He.ga K d.cls) d.name) fd := by
  obtain ⟨kp, c2⟩ := He.ba c
  unfold fnS at e
  cases q : K.lookup (He.ma K (He.ga K d.cls) d.name) with
  | none =>
    rw [q] at c2
    cases c2
  | some o =>
    obtain ⟨oc, od, dt, osl⟩ := o
    rw [q] at c2 e
    cases dt with
    | func fd =>
      obtain ⟨n1, n2, n3, n4, n5, n6, n7, n8, n9, n10, n11, n12, n13, n14, n15⟩ := fd
      have e2 : (some (n1, n2, n3, n4, n5, n6, n15) : FnSV) = some (d.name, d.qual, d.params, .stmts d.body, d.scope, mainGlobals, builtinsNs) := e
      simp only [Option.some.injEq, Prod.mk.injEq] at e2
      obtain ⟨h1, h2, h3, h4, h5, h6, h7⟩ := e2
      subst h1 h2 h3 h4 h5 h6 h7
      dsimp only at c2
      split at c2
      · rename_i x cc cda
        simp only [Bool.and_eq_true, beq_iff_eq] at c2
        obtain ⟨rfl, k1, k2, k3⟩ := c2
        split at k2
        · rename_i cl cld D csl hcc
          have k2 : D = He.ga K d.cls := by simpa using k2
          subst k2
          split at k3
          · rename_i ccl cdd vs ccs hcda
            split at k3
            · rename_i f tf hv
              have k3 : f = mf := of_decide_eq_true k3
              subst k3
              exact ⟨_, ⟨oc, cl, od, cld, n9, n10, n11, n12, n14, osl, csl, cc, cda, vs, ccl, cdd, ccs, tf, rfl, q, k1, hcc, hcda, hv⟩, kp⟩
            · cases k3
          · cases k3
        · cases k2
      · cases c2
    | _ => cases c2
/-! ### the Hook -/
abbrev AlX : Type := He.AlD × Bool × List FnSV
def obsX (mf : Str) (fa : List He.Fa) (fn : List He.DefD) (fx : List Fx) (fs : List FnS) (K : Fg) : AlX := (He.obsD fa fn K, (fx.all fun f => f.ok K) && fs.all fun d => d.ok mf K, fs.map (fnS K))
def valX (fn : List He.DefD) (fs : List FnS) : AlX := (He.valD fn, true, fs.map FnS.val)
def SaysX (mf : Str) (fa : List He.Fa) (fn : List He.DefD) (fx : List Fx) (fs : List FnS) (K : Fg) : Prop := obsX mf fa fn fx fs K = valX fn fs
def asX (g : Addr → Option Obj) (n : Nat) : List Addr := cStatics :: He.asD g n
def obsXG (n : Nat) (mf : Str) (fa : List He.Fa) (fn : List He.DefD) (fx : List Fx) (fs : List FnS) (g : Addr → Option Obj) : AlX := obsX mf fa fn fx fs (He.frG g (asX g n))
def hookX (n : Nat) (mf : Str) (fa : List He.Fa) (fn : List He.DefD) (fx : List Fx) (fs : List FnS) : PySem.W.Hook where
  α := AlX
  obs := fun s => obsXG n mf fa fn fx fs s.heap.get?
  val := fun _ => valX fn fs
  says := fun _ h => ∃ K : PySem.W.Frag, K.In h ∧ SaysX mf fa fn fx fs K
  of := fun _ _ e => ⟨_, He.frG_in, e⟩
  keeps := fun _ _ _ ⟨K, hK, c⟩ k => ⟨K, PySem.W.Frag.In.keeps hK k, c⟩
theorem obsXG_eq {n : Nat} {mf : Str} {fa : List He.Fa} {fn : List He.DefD} {fx : List Fx} {fs : List FnS} {g : Addr → Option Obj} {s : Shared} (h : ∀ a, g a = s.heap.get? a) : obsXG n mf fa fn fx fs g = (hookX n mf fa fn fx fs).obs s := by
  have e : g = s.heap.get? := funext h
  rw [e] <;> rfl
section
variable {mf : Str} {fa : List He.Fa} {fn : List He.DefD} {fx : List Fx} {fs : List FnS} {K : Fg} [WD K]
theorem SaysX.dd (c : SaysX mf fa fn fx fs K) : He.SaysD fa fn K := congrArg (fun z : AlX => z.1) c
theorem SaysX.fact (c : SaysX mf fa fn fx fs K) (i : Nat) {f : Fx} (h : fx[i]? = some f := by rfl) : f.ok K = true := by
  have c1 := (He.ba (show ((fx.all fun f => f.ok K) && fs.all fun d => d.ok mf K) = true from congrArg (fun z : AlX => z.2.1) c)).1
  exact List.all_eq_true.mp c1 f (List.mem_of_getElem? h)
theorem SaysX.mem (c : SaysX mf fa fn fx fs K) {f : Fx} (h : f ∈ fx) : f.ok K = true := by
  have c1 := (He.ba (show ((fx.all fun f => f.ok K) && fs.all fun d => d.ok mf K) = true from congrArg (fun z : AlX => z.2.1) c)).1
  exact List.all_eq_true.mp c1 f h
theorem SaysX.meth (c : SaysX mf fa fn fx fs K) (i : Nat) {d : FnS} (h : fs[i]? = some d := by rfl) : ∃ fd, FunC K mf (He.ga K d.cls) d.name d.qual d.params d.body d.scope (He.ma K (He.ga K d.cls) d.name) fd := by
  have c2 := (He.ba (show ((fx.all fun f => f.ok K) && fs.all fun d => d.ok mf K) = true from congrArg (fun z : AlX => z.2.1) c)).2
  have e : fs.map (fnS K) = fs.map FnS.val := congrArg (fun z : AlX => z.2.2) c
  have e2 : (fs.map (fnS K))[i]? = (fs.map FnS.val)[i]? := by rw [e]
  rw [List.getElem?_map, List.getElem?_map, h] at e2
  exact FnS.funC (Option.some.inj e2) (List.all_eq_true.mp c2 d (List.mem_of_getElem? h))
end
end Dn

namespace Dn
open PySem PySem.Spec PyProof.Rows L2 NdefX
/-! ### tuples that are known to have no dict: made, their methods called -/
def tTM (K : Fg) (r : V → List V → Hp → VK → Prop) (to : TE) (t : TA) : TE := fun σ H Q => to σ H fun x H1 => (∃ p xs, x = .ref p ∧ SqN K H1 p xs) ∧ t σ H1 fun xs H2 => r x xs H2 Q
theorem pe_tm {X : Cx} {o e : Expr} {es : List Expr} {to : TE} {t : TA} {name : Str} {apos cpos : Pos} {id : String} {r : V → List V → Hp → VK → Prop} (slot : Slot "tuple" name id) (hty : typeOf (.builtin id) = pure (.type "method_descriptor")) (hm : MtR X id r) (ho : PE X o to) (ha : PA X (e :: es) t)
    (hbase : attributeBase o name X.env (eval o X.env) = eval o X.env := by rfl)
    (hfew : ((backTo cpos (starEach (e :: es) X.env)).all (fun x => !x.1) && (backToKw cpos (keywordEach [] X.env)).all (fun x => x.1.isSome)
      && decide ((e :: es).length + ([] : List Keyword).length + (if ([] : List Keyword).isEmpty then 0 else 1) < 30)) = true := by rfl)
    (hline : (apos.endLine == cpos.line) = true := by rfl) (hs : starEach (e :: es) X.env = (false, eval e X.env) :: starEach es X.env := by rfl) (hplain : (backTo cpos (starEach es X.env)).any (·.1) = false := by rfl) :
    PE X (.Call (.Attribute o name apos) (e :: es) [] cpos) (tTM X.K r to t) := by
  refine ⟨fun pins s σ H Q I h => ?_⟩
  refine wpAny_Call_method_late hbase hfew hline rfl (thn (ho.run pins s σ H _ I h) fun v s1 ⟨x, H1, I1, r1, ty, q1⟩ => ?_)
  obtain ⟨p, xs, rfl, hq⟩ := ty
  obtain rfl : v = Value.ref p := r1
  have hh : s1.TypeIs (.ref p) "tuple" ∧ ∀ a, Value.ref p = .ref a → ∃ ob, s1.heap.get? a = some ob ∧ ob.dict = none := by
    rcases hq with ⟨ob, h1, h2⟩ | ⟨ob, its, n, h1, h2, h3, _⟩
    · obtain ⟨e1, z, its, r', pl⟩ := I1.hok p _ h1
      obtain ⟨o', ho', hc', _⟩ := pl
      refine ⟨⟨o', ho', hc'⟩, fun a e => ?_⟩
      cases e
      exact ⟨ob, e1, h2⟩
    · refine ⟨⟨ob, I1.kIn p ob h1, h2⟩, fun a e => ?_⟩
      cases e
      exact ⟨ob, I1.kIn _ ob h1, h3⟩
  refine ⟨"tuple", id, PySem.F.plainAttrs_tuple, slot, hty, hh.1, hh.2, ?_⟩
  have hA := ha.run cpos pins s1 σ H1 _ I1 q1
  rw [hs] at hA ⊢
  refine Calls.callWith_builtin (by show (false || (backTo cpos (starEach es X.env)).any (·.1)) = false; rw [hplain] <;> rfl) (Calls.evalArgs_plain ?_)
  exact thn hA fun us s2 ⟨vs, H2, I2, r2, q2⟩ => hm pins s2 σ H2 (.ref p) vs _ us Q I2 rfl r2 q2
abbrev rTIx (K : Fg) : V → List V → Hp → VK → Prop := fun x xs H Q => ∃ p, ∃ ys : List Str, ∃ z j, x = .ref p ∧ xs = [.str z] ∧ SqT K H p (ys.map V.str) ∧ ys[j]? = some z ∧ (∀ m, m < j → ys[m]? ≠ some z) ∧ Q (.int (j : Nat)) H
/-- the first place of z -/
def ixOf (z : Str) : List Str → Option Nat
  | [] => none
  | y :: ys => if y = z then some 0 else (ixOf z ys).map (· + 1)
theorem ixOf_ok {z : Str} : ∀ {ys : List Str} {j : Nat}, ixOf z ys = some j → ys[j]? = some z ∧ ∀ m, m < j → ys[m]? ≠ some z
  | [], j, e => nomatch e
  | y :: ys, j, e => by
    have e' : (if y = z then some 0 else (ixOf z ys).map (· + 1)) = some j := e
    by_cases h : y = z
    · rw [if_pos h] at e'
      cases e'
      exact ⟨by simp [h], fun m hm => absurd hm (Nat.not_lt_zero _)⟩
    · rw [if_neg h] at e'
      obtain ⟨k, e1, rfl⟩ := Option.map_eq_some_iff.mp e'
      obtain ⟨h1, h2⟩ := ixOf_ok e1
      refine ⟨by simpa using h1, fun m hm => ?_⟩
      cases m with
      | zero => simpa using h
      | succ m => simpa using h2 m (by omega)
theorem ixOf_none {z : Str} : ∀ {ys : List Str}, ixOf z ys = none ↔ z ∉ ys
  | [] => by simp [ixOf]
  | y :: ys => by
    unfold ixOf
    by_cases h : y = z
    · simp [h]
    · rw [if_neg h]
      simp [ixOf_none (ys := ys), Ne.symm h]
/-- t.index(z) -/
def dTIx (da db : Ev → RE X) : Ev → RE X := fun env => (da env).bind fun x e1 => match x with
  | .im (.tup xs) => (db e1).bind fun y e2 => match y with
    | .im (.str z) => opt ((textsD xs).bind fun ys => (ixOf z ys).map fun j => .im (.int (j : Nat))) e2
    | _ => .bad
  | _ => .bad
section
variable {K : Fg} [WD K] {W : WS} {te tb : TE} {de db : Ev → RE X}
theorem de_tix (ha : DE K W te de) (hb : DE K W tb db) : DE K W (tTM K (rTIx K) te (tCons tb tNil)) (dTIx de db) := fun M σ H env hh => by
  refine Sat.bind (c := fun v H1 Q => (∃ p xs, v = V.ref p ∧ SqN K H1 p xs) ∧ tb σ H1 fun y H2 => rTIx K v [y] H2 Q) back_x hh (ha M σ H env hh) (fun Q q => q) fun M1 H1 env1 x v g1 s1 hh1 r1 => ?_
  cases x with
  | sl i => trivial
  | ow o => trivial
  | im d =>
    cases d with
    | tup xs =>
      have r := r1.1
      simp only [RepX, Rep] at r
      obtain ⟨a, vs, rfl, h1, h2⟩ := r
      refine Sat.bind (c := fun u H2 Q => rTIx K (.ref a) [u] H2 Q) back_x hh1 (hb M1 σ H1 env1 hh1) (fun Q q => ⟨⟨a, vs, rfl, h1.mono hh1.ex⟩, q⟩) fun M2 H2 env2 y u g2 s2 hh2 r2 => ?_
      cases y with
      | sl i => trivial
      | ow o => trivial
      | im dy =>
        cases dy with
        | str z =>
          show Sat K W M2 σ H2 env2 (opt ((textsD xs).bind fun ys => (ixOf z ys).map fun j => .im (.int (j : Nat))) env2) (RX K σ) _
          cases e1 : textsD xs with
          | none => trivial
          | some ys =>
            show Sat K W M2 σ H2 env2 (opt ((ixOf z ys).map fun j => X.im (.int (j : Nat))) env2) (RX K σ) _
            cases e2 : ixOf z ys with
            | none => trivial
            | some j =>
              intro Q k
              have hz : u = .str z := by simpa [RepX, Rep] using r2.1
              subst hz
              have := textsD_ok e1 h2
              subst this
              obtain ⟨k1, k2⟩ := ixOf_ok e2
              exact ⟨a, ys, z, j, rfl, rfl, (h1.mono (g2.exM.trans hh2.ex)).t, k1, k2, k _ _ _ .refl (.refl _) hh2 (rx_im rep_int)⟩
        | _ => trivial
    | _ => trivial
end
/-! ### x.upper() -/
def pUpper : D → Option X
  | .str z => if z.length ≤ 5000 then some (.im (.str (Txt.upper z))) else none
  | _ => none
abbrev rUpper : V → List V → Hp → VK → Prop := fun x xs H Q => ∃ a, x = .str a ∧ xs = [] ∧ a.length ≤ 5592405 ∧ Q (.str (Txt.upper a)) H
theorem de_upper {K : Fg} [WD K] {W : WS} {te : TE} {de : Ev → RE X} (h : DE K W te de) : DE K W (tM0 rUpper te) (dUn pUpper de) := fun M σ H env hh => by
  refine Sat.bind (c := fun v H1 Q => (∃ a, v = V.str a) ∧ rUpper v [] H1 Q) back_x hh (h M σ H env hh) (fun Q q => q) fun M1 H1 env1 x v g1 s1 hh1 r1 => ?_
  refine sat_fin hh1 fun z e Q q => ?_
  obtain ⟨dx, e1, e⟩ := Option.bind_eq_some_iff.mp e
  cases dx with
  | str w =>
    have hv := (rd_ok hh1 r1.1 e1).str
    have e' : (if w.length ≤ 5000 then some (X.im (.str (Txt.upper w))) else none) = some z := e
    by_cases hw : w.length ≤ 5000
    · rw [if_pos hw] at e'
      cases e'
      exact ⟨⟨w, hv⟩, w, hv, rfl, Nat.le_trans hw (by decide), q.im0 hh1.ex rep_str⟩
    · rw [if_neg hw] at e'
      cases e'
  | _ => cases e
/-! ### try where nothing is let out -/
def RS.calm : RS → RS
  | .exc _ _ => .bad
  | r => r
def dTry0 (T : Str → Str → Option Bool) (hs : List HdD) (body : Ev → RS) : Ev → RS := fun env => (dTry T hs body env).calm
abbrev WNo : WX := fun _ _ _ _ => False
theorem takes_no {X : Cx} : Takes X WNo := fun _ _ ⟨_, _, _, _, _, _, _, _, _, _, _, _, _, _, _, _, w⟩ => w.elim
theorem ds_try0 {K : Fg} [WD K] {W : WS} {l : List Hdl} {hs : List HdD} {T : Str → Str → Option Bool} {tb : WX → TS} {db : Ev → RS} (hr : HdR K T l hs) (hb : ∀ W : WX, DS K (WE W) (tb W) db) : DS K W (fun D σ H => tb (wMX K WNo D l) D σ H) (dTry0 T hs db) := fun M σ H env hh => by
  have h1 := ds_try (Wout := WNo) hr hb M σ H env hh
  unfold dTry0
  cases e1 : dTry T hs db env with
  | bad => trivial
  | exc e env' => trivial
  | nx env' => rw [e1] at h1; exact h1
  | bk env' => rw [e1] at h1; exact h1
  | ct env' => rw [e1] at h1; exact h1
  | rt x env' => rw [e1] at h1; exact h1
/-! ### calls in the body of a try: the context's parts by name -/
section
variable {X : Cx}
theorem pe_callFSK {K : Fg} [WD K] {P : Program} {w : World} {mg : Str → Option Value} {base : Heap} {k : Nat} {x : Str} {ps : List Str} {m : Ev → RE Dn.X} {W : WX} {p pos : Pos} {e : Expr} {es : List Expr} {t : TA} (c : CallF (L2.CX P w) P w K mg base k x ps m) (hr : Room k X.A) (tk : Takes X W) (hg : Gl X x) (ha : PA X (e :: es) t)
    (hK : X.K = K := by rfl) (hP : X.prog = P := by rfl) (hw : X.w = w := by rfl) (hmg : X.mg = mg := by rfl) (hb : X.base = base := by rfl)
    (hdb : (x == ("__debug__" : Str)) = false := by decide) (he : starEach (e :: es) X.env = (false, eval e X.env) :: starEach es X.env := by rfl) (hpl : (backTo pos (starEach es X.env)).any (·.1) = false := by rfl) :
    PE X (.Call (.Name x p) (e :: es) [] pos) (tCallSD (spD K m) [] (WE W) t) := by
  subst hK hP hw hmg hb
  exact pe_callFS c hr tk hg ha hdb he hpl
theorem pe_callFK {CX : CXT} {K : Fg} [WD K] {P : Program} {w : World} {mg : Str → Option Value} {base : Heap} {k : Nat} {x : Str} {ps : List Str} {m : Ev → RE Dn.X} {E : XK} {p pos : Pos} {e : Expr} {es : List Expr} {t : TA} (c : CallF CX P w K mg base k x ps m) (hr : Room k X.A) (hx : Passes CX X E) (hg : Gl X x) (ha : PA X (e :: es) t)
    (hK : X.K = K := by rfl) (hP : X.prog = P := by rfl) (hw : X.w = w := by rfl) (hmg : X.mg = mg := by rfl) (hb : X.base = base := by rfl)
    (hdb : (x == ("__debug__" : Str)) = false := by decide) (he : starEach (e :: es) X.env = (false, eval e X.env) :: starEach es X.env := by rfl) (hpl : (backTo pos (starEach es X.env)).any (·.1) = false := by rfl) :
    PE X (.Call (.Name x p) (e :: es) [] pos) (tCall (spD K m) [] E t) := by
  subst hK hP hw hmg hb
  exact pe_callF c hr hx hg ha hdb he hpl
end
/-! ### tables of classes -/
abbrev XTab := List ((Str × Str) × Bool)
def XTab.get (t : XTab) (c C : Str) : Option Bool := t.lookup (c, C)
abbrev XTab2 := List ((Str × String) × Bool)
def XTab2.get (t : XTab2) (c : Str) (C : String) : Option Bool := t.lookup (c, C)
theorem lookup_mem {α β : Type} [BEq α] [LawfulBEq α] {a : α} {b : β} : ∀ {t : List (α × β)}, t.lookup a = some b → (a, b) ∈ t
  | [], e => nomatch e
  | (a', b') :: t, e => by
    rw [List.lookup_cons] at e
    cases q : (a == a') with
    | true =>
      rw [q] at e
      cases e
      rw [eq_of_beq q]
      exact List.mem_cons_self
    | false =>
      rw [q] at e
      exact List.mem_cons_of_mem _ (lookup_mem e)
/-! ### raise C(..), C with its own __init__ -/
theorem mk_raise {X : Cx} {C : Str} {fs ps : List Str} {k : Nat} {p pos : Pos} {e : Expr} {es : List Expr} {ta : TA} (i : ∃ fd, FnOk X.prog X.w X.K X.mg X.base CX0 k (He.ma X.K (He.ga X.K C) "__init__") fd ps (spI (He.ga X.K C) fs) ∧ Binds X.K fd ps []) (O : OexS X.K (He.ga X.K C))
    (iC : PySem.W.findIn X.K (.ref (He.ga X.K C)) "__init__" = some (some (.ref (He.ma X.K (He.ga X.K C) "__init__"))) ∧ PySem.W.typeIn X.K (.ref (He.ma X.K (He.ga X.K C) "__init__")) = some (.type "function")) (hr : Room (k + 1) X.A) (hg : Gl X C) (hm : X.mg C = some (.ref (He.ga X.K C))) (ha : PA X (e :: es) ta)
    (hdb : (C == ("__debug__" : Str)) = false := by decide) (he : starEach (e :: es) X.env = (false, eval e X.env) :: starEach es X.env := by rfl) (hpl : (backTo pos (starEach es X.env)).any (·.1) = false := by rfl) :
    PMk X (.Call (.Name C p) (e :: es) [] pos) (tMkO (He.ga X.K C) (spI (He.ga X.K C) fs) [] ta) := by
  obtain ⟨fd, F, hb⟩ := i
  exact pmk_oex O.toOexC iC.1 iC.2 F hr hb .nil passN hg hm ha hdb he hpl
end Dn

namespace Dn
open PySem PySem.Spec PyProof.Rows L2
/-! ### comprehensions of two generators -/
/-- the inner sequence: plain data, nothing of its own stands behind it -/
def RI0 (K : Fg) [WD K] : Hp → Hp → Hp → Ev → List D → It → Prop := fun _ M' H' _ xs J => ItOk K J [] M' H' xs
def DI0 (K : Fg) [WD K] (W : WS) (ti : TI) (di : Ev → RE (List D)) : Prop := ∀ (M : Hp) (σ : L2.St) (H : Hp) (env : Ev), Holds K M env σ H → Sat K W M σ H env (di env) (RI0 K) (ti σ H)
theorem back_i0 {K : Fg} [WD K] : Back (RI0 K) := fun _ _ _ _ _ _ _ _ h => h
def diSeqI (de : Ev → RE X) : Ev → RE (List D) := fun env => (de env).bind fun x e1 => match x with
  | .im (.tup xs) => .ok xs e1
  | .im (.tupW xs) => .ok xs e1
  | _ => .bad
def lc2Go (dg : D → Ev → Option Ev) (dt : Ev → RE Bool) (di1 : Ev → RE (List D)) (dg1 : D → Ev → Option Ev) (dt1 : Ev → RE Bool) (de : Ev → RE X) (vs vs1 : List Nat) : List D → Ev → List D → RE (List D)
  | [], e, acc => .ok acc e
  | x :: xs, e, acc => match dg x e with
    | none => .bad
    | some e2 => match dt e2 with
      | .ok true e3 => match di1 e3 with
        | .ok ys e4 => if vs1.all (freeSl e4) = true then match lcGo dg1 dt1 de vs1 ys (wipeE e4 vs1) acc with
          | .ok acc' e5 => lc2Go dg dt di1 dg1 dt1 de vs vs1 xs (wipeE e5 vs) acc'
          | _ => .bad else .bad
        | _ => .bad
      | .ok false e3 => lc2Go dg dt di1 dg1 dt1 de vs vs1 xs (wipeE e3 vs) acc
      | _ => .bad
def dLc2 (di : Ev → RE Its) (dg : D → Ev → Option Ev) (dt : Ev → RE Bool) (di1 : Ev → RE (List D)) (dg1 : D → Ev → Option Ev) (dt1 : Ev → RE Bool) (de : Ev → RE X) (vs vs1 : List Nat) : Ev → RE X := fun env => (di env).bind fun xh e1 => if vs.all (freeSl (hideE xh.2 e1)) = true then lcEnd xh.2 e1 vs (lc2Go dg dt di1 dg1 dt1 de vs vs1 xh.1 (wipeE (hideE xh.2 e1) vs) []) else .bad
section
variable {K : Fg} [WD K] {W : WS} {M M' M1 M2 : Hp} {env env' env1 env2 e e1 : Ev} {σ σ' σ1 : L2.St} {H H' H1 H2 : Hp} {x y : X} {v u : V} {te : TE} {de : Ev → RE X} {tt tt1 : TT} {dt dt1 : Ev → RE Bool} {vs vs1 : List Nat}
theorem di_seqI (h : DE K W te de) : DI0 K W (iSeq K te) (diSeqI de) := fun M σ H env hh => by
  refine Sat.bind (c := fun v H1 (R : It → Hp → Prop) => (∃ a xs, v = V.ref a ∧ SqL K H1 a xs ∧ R (Itl K a) H1) ∨ (∃ a xs, v = V.ref a ∧ SqT K H1 a xs ∧ R (Itt K a) H1) ∨ ∃ z, v = V.str z ∧ R (L2.Its z) H1) back_i0 hh (h M σ H env hh) (fun Q q => q) fun M1 H1 env1 x v g1 s1 hh1 r1 => ?_
  obtain ⟨r, n⟩ := r1
  cases x with
  | sl j => trivial
  | ow o => trivial
  | im d =>
    cases d with
    | tup xs =>
      refine fun Q k => ?_
      simp only [RepX, Rep] at r
      obtain ⟨a, vs, rfl, h1, h2⟩ := r
      exact .inr (.inl ⟨a, vs, rfl, sqT_mono hh1.ex h1.t, k _ M1 H1 .refl (.refl _) hh1 (it_seqT h2 h1.t)⟩)
    | tupW xs =>
      refine fun Q k => ?_
      simp only [RepX, Rep] at r
      obtain ⟨a, vs, rfl, h1, h2⟩ := r
      exact .inr (.inl ⟨a, vs, rfl, sqT_mono hh1.ex h1, k _ M1 H1 .refl (.refl _) hh1 (it_seqT h2 h1)⟩)
    | _ => trivial
/-- the heap without D -/
def rem (H : Hp) (D : Addr) : Hp := fun b => if b = D then none else H b
theorem rem_same {D : Addr} : rem H D D = none := if_pos rfl
theorem rem_ne {D b : Addr} (h : b ≠ D) : rem H D b = H b := if_neg h
theorem rem_upd {D : Addr} {o : HO} (h : H D = some o) : upd (rem H D) D o = H := by
  funext b
  by_cases hb : b = D
  · rw [hb, upd_same, h]
  · rw [upd_ne hb, rem_ne hb]
theorem rem_grow {D : Addr} (g : Grow M env σ H M' env' σ' H') (h : H D = none) : Grow M env σ H M' env' σ' (rem H' D) where
  exM := g.exM
  fr := fun l u q n => by
    have : l ≠ D := fun z => by subst z; rw [h] at q; cases q
    rw [rem_ne this]
    exact g.fr l u q n
  new := g.new
  own := g.own
  pin := g.pin
  dom := fun l q => by
    by_cases z : l = D
    · exact z ▸ h
    · rw [rem_ne z] at q; exact g.dom l q
  len := g.len
theorem rem_holds {D : Addr} (hh : Holds K M env σ H) (m : M D = none) (n : ¬ Own env σ D) : Holds K M env σ (rem H D) where
  ex := fun a u q => by
    have : a ≠ D := fun z => by subst z; rw [m] at q; cases q
    rw [rem_ne this]
    exact hh.ex a u q
  len := hh.len
  slot := fun i s q => by
    have := hh.slot i s q
    cases s with
    | no => trivial
    | hid => trivial
    | im d => exact this
    | ow pn od =>
      obtain ⟨l, e1, a, m2⟩ := this
      have : l ≠ D := fun z => n ⟨i, pn, od, q, z ▸ e1⟩
      exact ⟨l, e1, a.mono (Same.refl M) fun u z => by rw [rem_ne this]; exact z, m2⟩
  dj := hh.dj
/-- slots let go -/
theorem wipe_grow (hf : vs.all (freeSl env) = true) : Grow M env σ H M (wipeE env vs) (wipe σ vs) H where
  exM := Same.refl M
  fr := fun _ _ h _ => h
  new := fun _ _ h => .inl h
  own := fun l z => .inl (wipe_own (fun _ _ => rfl) z)
  pin := fun i s q p => by
    have hi : i ∉ vs := fun hi => by
      have := List.all_eq_true.mp hf i hi
      unfold freeSl at this
      rw [q] at this
      cases s with
      | no => cases p
      | im d => cases p
      | hid => cases this
      | ow a b => cases this
    exact ⟨by rw [wipe_get, if_neg hi], s, by rw [wipeE_get, if_neg hi]; exact q, rfl⟩
  dom := fun _ h => h
  len := wipeE_len vs
/-- back to the block's own slots -/
theorem back0 {Mx Hx : Hp} {ex : Ev} {σx : L2.St} (hw : wipeE env vs = env) (gx : Grow M env (wipe σ vs) H Mx ex σx Hx) (sx : ∀ i, i ∉ vs → (ex.map Sl.kind)[i]? = (env.map Sl.kind)[i]?) (hx : Holds K Mx ex σx Hx) (ko : ∀ i, i ∉ vs → σx[i]? = σ[i]?) (hl : σx.length = σ.length) :
    Grow M env (wipe σ vs) H Mx (wipeE ex vs) (wipe σ vs) Hx ∧ Shape env (wipeE ex vs) ∧ Holds K Mx (wipeE ex vs) (wipe σ vs) Hx ∧ (∀ l, Own (wipeE ex vs) (wipe σ vs) l → Own ex σx l) := by
  have ow : ∀ l, Own (wipeE ex vs) (wipe σ vs) l → Own ex σx l := fun l z => wipe_own (fun i hi => (ko i hi).symm) z
  have sh : Shape env (wipeE ex vs) := by
    show (wipeE ex vs).map Sl.kind = env.map Sl.kind
    apply List.ext_getElem?
    intro i
    rw [List.getElem?_map, List.getElem?_map, wipeE_get]
    by_cases hi : i ∈ vs
    · rw [if_pos hi]
      have h1 : env[i]? = if i < env.length then some .no else none := by
        have := wipeE_get (env := env) vs i
        rw [hw, if_pos hi] at this
        exact this
      have h2 : ex.length = env.length := gx.len
      rw [h1, h2]
    · rw [if_neg hi]
      have := sx i hi
      simp only [List.getElem?_map] at this
      rw [this]
  refine ⟨⟨gx.exM, gx.fr, gx.new, fun l z => gx.own l (ow l z), fun i s q pn => ⟨rfl, ?_⟩, gx.dom, by rw [wipeE_len, gx.len]⟩, sh, wipe_holds hx (fun i hi => (ko i hi).symm) hl.symm, ow⟩
  have := congrArg (fun l => l[i]?) (show (wipeE ex vs).map Sl.kind = env.map Sl.kind from sh)
  simp only [List.getElem?_map] at this
  rw [q] at this
  obtain ⟨s', e1, e2⟩ := Option.map_eq_some_iff.mp this
  exact ⟨s', e1, e2⟩
theorem wipe_idem (ex : Ev) : wipeE (wipeE ex vs) vs = wipeE ex vs := by
  apply List.ext_getElem?
  intro i
  rw [wipeE_get, wipeE_len, wipeE_get]
  by_cases hi : i ∈ vs
  · rw [if_pos hi, if_pos hi]
  · rw [if_neg hi, if_neg hi]
/-- the block's turns -/
theorem lc_goA {J : It} {as : List Addr} {xs : List D} {g : TG} {dg : D → Ev → Option Ev} (hg : DGv K g dg vs) (ht : DT K WF tt dt) (he : DE K WF te de) (hh : Holds K M env (wipe σ vs) H) (hi : ItOk K J as M H xs) (hn : ∀ a ∈ as, ¬ Own env (wipe σ vs) a ∧ ∃ o, H a = some o)
    {ds acc0 : List D} {ws0 : List V} {e : Ev} (hr : lcGo dg dt de vs xs env acc0 = .ok ds e) (D : Addr) (hD : H D = none) (h0 : Reps K M acc0 ws0) (Q : Hp → Prop) (k : ∀ (M' H' : Hp), Grow M env (wipe σ vs) H M' e (wipe σ vs) H' → Shape env e → Holds K M' e (wipe σ vs) H' → At K M' H' D (.lst ds) → M' D = none → ¬ Own e (wipe σ vs) D → Q H') (hw : wipeE env vs = env) :
    ∃ Wd : Nat → Nat → Hp → Prop, (∃ m, Wd 0 m (upd H D (.lst ws0))) ∧ ∀ i m H, Wd i m H →
      (J.stop i H ∧ Q H) ∨ (J.go i H ∧ ∃ Nx : Hp → Prop, (∀ H', Nx H' → ∃ m', m' < m ∧ Wd (i + 1) m' H') ∧ ∀ x H', J.yld i H x H' → g x (wipe σ vs) H' fun σ2 H2 => wipe σ2 vs = wipe σ vs ∧ tt σ2 H2 fun b H3 =>
        if b = true then te σ2 H3 fun y H4 => ∃ acc, H4 D = some (.lst acc) ∧ acc.length < sizeLine ∧ Nx (upd H4 D (.lst (acc ++ [y]))) else Nx H3) := by
  have noD : ¬ Own env (wipe σ vs) D := fun z => by
    obtain ⟨u, q⟩ := hh.ownSome z
    rw [hD] at q; cases q
  have mD : M D = none := hh.ex.free hD
  refine ⟨fun i m H' => m = xs.length - i ∧ i ≤ xs.length ∧ ∃ M' e' acc ws, lcGo dg dt de vs (xs.drop i) e' acc = .ok ds e ∧ Grow M env (wipe σ vs) H M' e' (wipe σ vs) H' ∧ Shape env e' ∧ Holds K M' e' (wipe σ vs) H' ∧ H' D = some (.lst ws) ∧ Reps K M' acc ws ∧ M' D = none ∧ ¬ Own e' (wipe σ vs) D ∧ wipeE e' vs = e',
    ⟨xs.length, by simp, Nat.zero_le _, M, env, acc0, ws0, hr, upd_grow .refl hD, .refl _, upd_holds hh mD noD, upd_same, h0, mD, noD, hw⟩, ?_⟩
  rintro i m H1 ⟨rfl, hi1, M1, e1, acc, ws, f1, g1, s1, hh1, hD1, rA, mD1, noD1, hw1⟩
  have src : ∀ a ∈ as, ∀ o, H a = some o → H1 a = some o := fun a ha o q => g1.fr a o q (hn a ha).1
  cases q : xs[i]? with
  | none =>
    have hl : i = xs.length := by
      have := List.getElem?_eq_none_iff.mp q
      omega
    subst hl
    rw [List.drop_length] at f1
    have f2 : RE.ok acc e1 = RE.ok ds e := f1
    cases f2
    exact .inl ⟨hi.stop M1 H1 g1.exM hh1.ex src, k M1 H1 g1 s1 hh1 ⟨ws, hD1, rA⟩ mD1 noD1⟩
  | some d =>
    obtain ⟨go, yl⟩ := hi.go M1 H1 i d q g1.exM hh1.ex src
    have hlt : i < xs.length := (List.getElem?_eq_some_iff.mp q).1
    have hd : xs.drop i = d :: xs.drop (i + 1) := by
      rw [List.drop_eq_getElem_cons hlt]
      rw [List.getElem?_eq_getElem hlt] at q
      cases q
      rfl
    rw [hd] at f1
    refine .inr ⟨go, fun H' => ∃ M' e' acc ws, lcGo dg dt de vs (xs.drop (i + 1)) e' acc = .ok ds e ∧ Grow M env (wipe σ vs) H M' e' (wipe σ vs) H' ∧ Shape env e' ∧ Holds K M' e' (wipe σ vs) H' ∧ H' D = some (.lst ws) ∧ Reps K M' acc ws ∧ M' D = none ∧ ¬ Own e' (wipe σ vs) D ∧ wipeE e' vs = e', fun H' h => ⟨xs.length - (i + 1), by omega, rfl, hlt, h⟩, fun w H2 hy => ?_⟩
    obtain ⟨M2, ex, rp⟩ := yl w H2 hy
    have hh2 := ex.holds hh1
    cases q1 : dg d e1 with
    | none =>
      exfalso
      have : (match dg d e1 with
        | none => (RE.bad : RE (List Dn.D))
        | some e2 => match dt e2 with
          | .ok true e3 => match de e3 with
            | .ok y e4 => match frz y with
              | some d => if fit (acc.length + 1) then lcGo dg dt de vs (xs.drop (i + 1)) (wipeE e4 vs) (acc ++ [d]) else .bad
              | none => .bad
            | _ => .bad
          | .ok false e3 => lcGo dg dt de vs (xs.drop (i + 1)) (wipeE e3 vs) acc
          | _ => .bad) = RE.ok ds e := f1
      rw [q1] at this
      cases this
    | some e2 =>
      have f2 : (match dt e2 with
          | .ok true e3 => match de e3 with
            | .ok y e4 => match frz y with
              | some d => if fit (acc.length + 1) then lcGo dg dt de vs (xs.drop (i + 1)) (wipeE e4 vs) (acc ++ [d]) else .bad
              | none => .bad
            | _ => .bad
          | .ok false e3 => lcGo dg dt de vs (xs.drop (i + 1)) (wipeE e3 vs) acc
          | _ => .bad) = RE.ok ds e := by
        have : (match dg d e1 with
          | none => (RE.bad : RE (List Dn.D))
          | some e2 => match dt e2 with
            | .ok true e3 => match de e3 with
              | .ok y e4 => match frz y with
                | some d => if fit (acc.length + 1) then lcGo dg dt de vs (xs.drop (i + 1)) (wipeE e4 vs) (acc ++ [d]) else .bad
                | none => .bad
              | _ => .bad
            | .ok false e3 => lcGo dg dt de vs (xs.drop (i + 1)) (wipeE e3 vs) acc
            | _ => .bad) = RE.ok ds e := f1
        rw [q1] at this
        exact this
      have out := hg.2 d e1 e2 q1
      refine hg.1 M2 (wipe σ vs) H2 e1 e2 d w hh2 rp q1 _ fun σ3 g3 hh3 ko => ?_
      have hl3 : σ3.length = σ.length := by
        have h1 := hh3.len
        have h2 := hh2.len
        have h3 := g3.len
        have h4 := wipe_length σ vs
        omega
      have ko' : ∀ i, i ∉ vs → σ3[i]? = σ[i]? := fun i hi => by rw [ko i hi, wipe_get, if_neg hi]
      refine ⟨wipe_eq ko' hl3, ?_⟩
      -- the state of the turn against the block's
      have g4 : Grow M1 e1 (wipe σ vs) H1 M2 e2 σ3 H2 := (ex.grow hh1).trans hh1 g3
      have hD2 : H2 D = some (.lst ws) := ex.exH _ _ hD1
      have mD2 : M2 D = none := by
        cases z : M2 D with
        | none => rfl
        | some u =>
          rcases ex.new D u z with w | w
          · rw [mD1] at w; cases w
          · rw [hD1] at w; cases w
      have noD2 : ¬ Own e2 σ3 D := fun z => by
        rcases g3.own D z with w | w
        · exact noD1 w
        · rw [hD2] at w; cases w
      -- back to the block's own slots
      have back : ∀ {Mx Hx : Hp} {ex : Ev}, Grow M1 e1 (wipe σ vs) H1 Mx ex σ3 Hx → Shape e2 ex → Holds K Mx ex σ3 Hx → Grow M1 e1 (wipe σ vs) H1 Mx (wipeE ex vs) (wipe σ vs) Hx ∧ Shape e1 (wipeE ex vs) ∧ Holds K Mx (wipeE ex vs) (wipe σ vs) Hx ∧ (∀ l, Own (wipeE ex vs) (wipe σ vs) l → Own ex σ3 l) := fun {Mx Hx ex} gx sx hx => by
        have ow : ∀ l, Own (wipeE ex vs) (wipe σ vs) l → Own ex σ3 l := fun l z => wipe_own (fun i hi => (ko' i hi).symm) z
        have sh : Shape e1 (wipeE ex vs) := by
          show (wipeE ex vs).map Sl.kind = e1.map Sl.kind
          apply List.ext_getElem?
          intro i
          rw [List.getElem?_map, List.getElem?_map, wipeE_get]
          by_cases hi : i ∈ vs
          · rw [if_pos hi]
            have h1 : e1[i]? = if i < e1.length then some .no else none := by
              have := wipeE_get (env := e1) vs i
              rw [hw1, if_pos hi] at this
              exact this
            have h2 : ex.length = e1.length := gx.len
            rw [h1, h2]
          · rw [if_neg hi]
            have := congrArg (fun l => l[i]?) (show ex.map Sl.kind = e2.map Sl.kind from sx)
            simp only [List.getElem?_map] at this
            rw [this, out i hi]
        refine ⟨⟨gx.exM, gx.fr, gx.new, fun l z => gx.own l (ow l z), fun i s q pn => ⟨rfl, ?_⟩, gx.dom, by rw [wipeE_len, gx.len]⟩, sh, wipe_holds hx (fun i hi => (ko' i hi).symm) hl3.symm, ow⟩
        have := congrArg (fun l => l[i]?) (show (wipeE ex vs).map Sl.kind = e1.map Sl.kind from sh)
        simp only [List.getElem?_map] at this
        rw [q] at this
        obtain ⟨s', e1, e2⟩ := Option.map_eq_some_iff.mp this
        exact ⟨s', e1, e2⟩
      have idem : ∀ ex : Ev, wipeE (wipeE ex vs) vs = wipeE ex vs := fun ex => by
        apply List.ext_getElem?
        intro i
        rw [wipeE_get, wipeE_len, wipeE_get]
        by_cases hi : i ∈ vs
        · rw [if_pos hi, if_pos hi]
        · rw [if_neg hi, if_neg hi]
      have h5 := ht M2 σ3 H2 e2 hh3
      cases q2 : dt e2 with
      | bad => rw [q2] at f2; cases f2
      | exc _ _ => rw [q2] at f2; cases f2
      | ok b e3 =>
        rw [q2] at f2 h5
        refine h5 _ fun b' M3 H3 g5 s5 hh5 eb => ?_
        cases (show b = b' from eb)
        have hD3 : H3 D = some (.lst ws) := g5.fr D _ hD2 noD2
        have noD3 : ¬ Own e3 σ3 D := fun z => noD2 (own_shape s5 z)
        have mD3 : M3 D = none := by
          cases z : M3 D with
          | none => rfl
          | some u =>
            rcases g5.new D u z with w | w | w
            · rw [mD2] at w; cases w
            · rw [hD2] at w; cases w
            · exact (noD2 w).elim
        have g6 := g4.trans hh1 g5
        cases b with
        | false =>
          rw [if_neg (by decide)]
          obtain ⟨a1, a2, a3, a4⟩ := back g6 s5 hh5
          exact ⟨M3, wipeE e3 vs, acc, ws, f2, g1.trans hh a1, s1.trans a2, a3, hD3, Reps.mono (g4.exM.trans g5.exM) _ _ rA, mD3, fun z => noD3 (a4 D z), idem _⟩
        | true =>
          rw [if_pos rfl]
          have f3 : (match de e3 with
            | .ok y e4 => match frz y with
              | some d => if fit (acc.length + 1) then lcGo dg dt de vs (xs.drop (i + 1)) (wipeE e4 vs) (acc ++ [d]) else .bad
              | none => .bad
            | _ => .bad) = RE.ok ds e := f2
          have h6 := he M3 σ3 H3 e3 hh5
          cases q3 : de e3 with
          | bad => rw [q3] at f3; cases f3
          | exc _ _ => rw [q3] at f3; cases f3
          | ok y e4 =>
            rw [q3] at f3 h6
            have f4 : (match frz y with
              | some d => if fit (acc.length + 1) then lcGo dg dt de vs (xs.drop (i + 1)) (wipeE e4 vs) (acc ++ [d]) else .bad
              | none => .bad) = RE.ok ds e := f3
            cases q4 : frz y with
            | none => rw [q4] at f4; cases f4
            | some d' =>
              rw [q4] at f4
              have f5 : (if fit (acc.length + 1) then lcGo dg dt de vs (xs.drop (i + 1)) (wipeE e4 vs) (acc ++ [d']) else .bad) = RE.ok ds e := f4
              cases q5 : fit (acc.length + 1) with
              | false => rw [q5, if_neg (by decide)] at f5; cases f5
              | true =>
                rw [q5, if_pos rfl] at f5
                refine h6 _ fun w' M4 H4 g7 s7 hh7 r7 => ?_
                have rd := frz_rep r7 q4
                have g8 := frzM_grow g7
                have hh8 := frzM_holds (H := H3) hh7
                have hD4 : H4 D = some (.lst ws) := g7.fr D _ hD3 noD3
                have noD4 : ¬ Own e4 σ3 D := fun z => noD3 (own_shape s7 z)
                have mD4 : frzM M4 H3 H4 e4 σ3 D = none := by
                  cases z : frzM M4 H3 H4 e4 σ3 D with
                  | none => rfl
                  | some u =>
                    rcases g8.new D u z with w | w | w
                    · rw [mD3] at w; cases w
                    · rw [hD3] at w; cases w
                    · exact (noD3 w).elim
                have g9 := g6.trans hh1 g8
                obtain ⟨a1, a2, a3, a4⟩ := back g9 (s5.trans s7) hh8
                have noD5 : ¬ Own (wipeE e4 vs) (wipe σ vs) D := fun z => noD4 (a4 D z)
                have hlen := rA.length
                refine ⟨ws, hD4, by have := fit_ok q5; omega, _, wipeE e4 vs, acc ++ [d'], ws ++ [w'], f5, upd_grow (g1.trans hh a1) hD, s1.trans a2, upd_holds a3 mD4 noD5, upd_same, ?_, mD4, noD5, idem _⟩
                exact (Reps.mono ((g4.exM.trans g5.exM).trans g8.exM) _ _ rA).append (Reps.cons rd Reps.nil)
theorem lc2_go {J : It} {as : List Addr} {xs : List D} {g g1 : TG} {dg dg1 : D → Ev → Option Ev} {wi1 : TI} {di1 : Ev → RE (List D)} (hv : ∀ i ∈ vs1, i ∈ vs) (hg : DGv K g dg vs) (ht : DT K WF tt dt) (hi1 : DI0 K WF wi1 di1) (hg1 : DGv K g1 dg1 vs1) (ht1 : DT K WF tt1 dt1) (he : DE K WF te de)
    (hh : Holds K M env (wipe σ vs) H) (hi : ItOk K J as M H xs) (hn : ∀ a ∈ as, ¬ Own env (wipe σ vs) a ∧ ∃ o, H a = some o)
    {ds : List D} {e : Ev} (hr : lc2Go dg dt di1 dg1 dt1 de vs vs1 xs env [] = .ok ds e) (Q : VK) (k : ∀ (D : Addr) (M' H' : Hp), H D = none → Grow M env (wipe σ vs) H M' e (wipe σ vs) H' → Shape env e → Holds K M' e (wipe σ vs) H' → At K M' H' D (.lst ds) → M' D = none → ¬ Own e (wipe σ vs) D → Q (.ref D) H') (hw : wipeE env vs = env) :
    ∀ D, H D = none → ∃ Wd : Nat → Nat → Hp → Prop, (∃ m, Wd 0 m (upd H D (.lst []))) ∧ ∀ i m H, Wd i m H →
      (J.stop i H ∧ Q (.ref D) H) ∨ (J.go i H ∧ ∃ Nx : Hp → Prop, (∀ H', Nx H' → ∃ m', m' < m ∧ Wd (i + 1) m' H') ∧ ∀ x H', J.yld i H x H' → g x (wipe σ vs) H' fun σ2 H2 => wipe σ2 vs = wipe σ vs ∧ tt σ2 H2 fun b H3 =>
        if b = true then wi1 σ2 H3 fun J1 H4 => ∃ W1 : Nat → Nat → Hp → Prop, (∃ m, W1 0 m H4) ∧ ∀ j k H, W1 j k H →
          (J1.stop j H ∧ Nx H) ∨ (J1.go j H ∧ ∃ Nx1 : Hp → Prop, (∀ H', Nx1 H' → ∃ k', k' < k ∧ W1 (j + 1) k' H') ∧ ∀ x H', J1.yld j H x H' → g1 x (wipe σ2 vs1) H' fun σ3 H5 => wipe σ3 vs1 = wipe σ2 vs1 ∧ tt1 σ3 H5 fun b H6 =>
            if b = true then te σ3 H6 fun y H7 => ∃ acc, H7 D = some (.lst acc) ∧ acc.length < sizeLine ∧ Nx1 (upd H7 D (.lst (acc ++ [y]))) else Nx1 H6)
        else Nx H3) := by
  intro D hD
  have noD : ¬ Own env (wipe σ vs) D := fun z => by
    obtain ⟨u, q⟩ := hh.ownSome z
    rw [hD] at q; cases q
  have mD : M D = none := hh.ex.free hD
  refine ⟨fun i m H' => m = xs.length - i ∧ i ≤ xs.length ∧ ∃ M' e' acc ws, lc2Go dg dt di1 dg1 dt1 de vs vs1 (xs.drop i) e' acc = .ok ds e ∧ Grow M env (wipe σ vs) H M' e' (wipe σ vs) H' ∧ Shape env e' ∧ Holds K M' e' (wipe σ vs) H' ∧ H' D = some (.lst ws) ∧ Reps K M' acc ws ∧ M' D = none ∧ ¬ Own e' (wipe σ vs) D ∧ wipeE e' vs = e',
    ⟨xs.length, by simp, Nat.zero_le _, M, env, [], [], hr, upd_grow .refl hD, .refl _, upd_holds hh mD noD, upd_same, Reps.nil, mD, noD, hw⟩, ?_⟩
  rintro i m H1 ⟨rfl, hi2, M1, e1, acc, ws, f1, g1', s1, hh1, hD1, rA, mD1, noD1, hw1⟩
  have src : ∀ a ∈ as, ∀ o, H a = some o → H1 a = some o := fun a ha o q => g1'.fr a o q (hn a ha).1
  cases q : xs[i]? with
  | none =>
    have hl : i = xs.length := by
      have := List.getElem?_eq_none_iff.mp q
      omega
    subst hl
    rw [List.drop_length] at f1
    have f2 : RE.ok acc e1 = RE.ok ds e := f1
    cases f2
    exact .inl ⟨hi.stop M1 H1 g1'.exM hh1.ex src, k D M1 H1 hD g1' s1 hh1 ⟨ws, hD1, rA⟩ mD1 noD1⟩
  | some d =>
    obtain ⟨go, yl⟩ := hi.go M1 H1 i d q g1'.exM hh1.ex src
    have hlt : i < xs.length := (List.getElem?_eq_some_iff.mp q).1
    have hd : xs.drop i = d :: xs.drop (i + 1) := by
      rw [List.drop_eq_getElem_cons hlt]
      rw [List.getElem?_eq_getElem hlt] at q
      cases q
      rfl
    rw [hd] at f1
    refine .inr ⟨go, fun H' => ∃ M' e' acc ws, lc2Go dg dt di1 dg1 dt1 de vs vs1 (xs.drop (i + 1)) e' acc = .ok ds e ∧ Grow M env (wipe σ vs) H M' e' (wipe σ vs) H' ∧ Shape env e' ∧ Holds K M' e' (wipe σ vs) H' ∧ H' D = some (.lst ws) ∧ Reps K M' acc ws ∧ M' D = none ∧ ¬ Own e' (wipe σ vs) D ∧ wipeE e' vs = e', fun H' h => ⟨xs.length - (i + 1), by omega, rfl, hlt, h⟩, fun w H2 hy => ?_⟩
    obtain ⟨M2, ex, rp⟩ := yl w H2 hy
    have hh2 := ex.holds hh1
    have f1' : (match dg d e1 with
      | none => (RE.bad : RE (List Dn.D))
      | some e2 => match dt e2 with
        | .ok true e3 => match di1 e3 with
          | .ok ys e4 => if vs1.all (freeSl e4) = true then match lcGo dg1 dt1 de vs1 ys (wipeE e4 vs1) acc with
            | .ok acc' e5 => lc2Go dg dt di1 dg1 dt1 de vs vs1 (xs.drop (i + 1)) (wipeE e5 vs) acc'
            | _ => .bad else .bad
          | _ => .bad
        | .ok false e3 => lc2Go dg dt di1 dg1 dt1 de vs vs1 (xs.drop (i + 1)) (wipeE e3 vs) acc
        | _ => .bad) = RE.ok ds e := f1
    cases q1 : dg d e1 with
    | none =>
      exfalso
      rw [q1] at f1'
      cases f1'
    | some e2 =>
      rw [q1] at f1'
      have f2 : (match dt e2 with
        | .ok true e3 => match di1 e3 with
          | .ok ys e4 => if vs1.all (freeSl e4) = true then match lcGo dg1 dt1 de vs1 ys (wipeE e4 vs1) acc with
            | .ok acc' e5 => lc2Go dg dt di1 dg1 dt1 de vs vs1 (xs.drop (i + 1)) (wipeE e5 vs) acc'
            | _ => .bad else .bad
          | _ => .bad
        | .ok false e3 => lc2Go dg dt di1 dg1 dt1 de vs vs1 (xs.drop (i + 1)) (wipeE e3 vs) acc
        | _ => .bad) = RE.ok ds e := f1'
      have out := hg.2 d e1 e2 q1
      refine hg.1 M2 (wipe σ vs) H2 e1 e2 d w hh2 rp q1 _ fun σ3 g3 hh3 ko => ?_
      have hl3 : σ3.length = σ.length := by
        have h1 := hh3.len
        have h2 := hh2.len
        have h3 := g3.len
        have h4 := wipe_length σ vs
        omega
      have ko' : ∀ i, i ∉ vs → σ3[i]? = σ[i]? := fun i hi => by rw [ko i hi, wipe_get, if_neg hi]
      refine ⟨wipe_eq ko' hl3, ?_⟩
      have g4 : Grow M env (wipe σ vs) H M2 e2 σ3 H2 := (g1'.trans hh (ex.grow hh1)).trans hh g3
      have hD2 : H2 D = some (.lst ws) := ex.exH _ _ hD1
      have mD2 : M2 D = none := by
        cases z : M2 D with
        | none => rfl
        | some u =>
          rcases ex.new D u z with w | w
          · rw [mD1] at w; cases w
          · rw [hD1] at w; cases w
      have noD2 : ¬ Own e2 σ3 D := fun z => by
        rcases g3.own D z with w | w
        · exact noD1 w
        · rw [hD2] at w; cases w
      have k2 : ∀ i, i ∉ vs → (e2.map Sl.kind)[i]? = (env.map Sl.kind)[i]? := fun i hi => by
        have h1 := congrArg (fun l => l[i]?) (show e1.map Sl.kind = env.map Sl.kind from s1)
        simp only [List.getElem?_map] at h1 ⊢
        rw [out i hi]
        exact h1
      have h5 := ht M2 σ3 H2 e2 hh3
      cases q2 : dt e2 with
      | bad => rw [q2] at f2; cases f2
      | exc _ _ => rw [q2] at f2; cases f2
      | ok b e3 =>
        rw [q2] at f2 h5
        refine h5 _ fun b' M3 H3 g5 s5 hh5 eb => ?_
        cases (show b = b' from eb)
        have hD3 : H3 D = some (.lst ws) := g5.fr D _ hD2 noD2
        have noD3 : ¬ Own e3 σ3 D := fun z => noD2 (own_shape s5 z)
        have mD3 : M3 D = none := by
          cases z : M3 D with
          | none => rfl
          | some u =>
            rcases g5.new D u z with w | w | w
            · rw [mD2] at w; cases w
            · rw [hD2] at w; cases w
            · exact (noD2 w).elim
        have g6 := g4.trans hh g5
        have k3 : ∀ i, i ∉ vs → (e3.map Sl.kind)[i]? = (env.map Sl.kind)[i]? := fun i hi => by
          have h1 := congrArg (fun l => l[i]?) (show e3.map Sl.kind = e2.map Sl.kind from s5)
          exact h1.trans (k2 i hi)
        have rA3 : Reps K M3 acc ws := Reps.mono ((ex.exM.trans g3.exM).trans g5.exM) _ _ rA
        cases b with
        | false =>
          rw [if_neg (by decide)]
          obtain ⟨a1, a2, a3, a4⟩ := back0 hw g6 k3 hh5 ko' hl3
          exact ⟨M3, wipeE e3 vs, acc, ws, f2, a1, a2, a3, hD3, rA3, mD3, fun z => noD3 (a4 D z), wipe_idem _⟩
        | true =>
          rw [if_pos rfl]
          have f3 : (match di1 e3 with
            | .ok ys e4 => if vs1.all (freeSl e4) = true then match lcGo dg1 dt1 de vs1 ys (wipeE e4 vs1) acc with
              | .ok acc' e5 => lc2Go dg dt di1 dg1 dt1 de vs vs1 (xs.drop (i + 1)) (wipeE e5 vs) acc'
              | _ => .bad else .bad
            | _ => .bad) = RE.ok ds e := f2
          have h6 := hi1 M3 σ3 H3 e3 hh5
          cases q3 : di1 e3 with
          | bad => rw [q3] at f3; cases f3
          | exc _ _ => rw [q3] at f3; cases f3
          | ok ys e4 =>
            rw [q3] at f3 h6
            have f4 : (if vs1.all (freeSl e4) = true then match lcGo dg1 dt1 de vs1 ys (wipeE e4 vs1) acc with
              | .ok acc' e5 => lc2Go dg dt di1 dg1 dt1 de vs vs1 (xs.drop (i + 1)) (wipeE e5 vs) acc'
              | _ => .bad else .bad) = RE.ok ds e := f3
            by_cases hf1 : vs1.all (freeSl e4) = true
            · rw [if_pos hf1] at f4
              refine h6 _ fun J1 M4 H4 g7 s7 hh7 r7 => ?_
              have io : ItOk K J1 [] M4 H4 ys := r7
              have hD4 : H4 D = some (.lst ws) := g7.fr D _ hD3 noD3
              have noD4 : ¬ Own e4 σ3 D := fun z => noD3 (own_shape s7 z)
              have mD4 : M4 D = none := by
                cases z : M4 D with
                | none => rfl
                | some u =>
                  rcases g7.new D u z with w | w | w
                  · rw [mD3] at w; cases w
                  · rw [hD3] at w; cases w
                  · exact (noD3 w).elim
              have hhd : Holds K M4 e4 σ3 (rem H4 D) := rem_holds hh7 mD4 noD4
              have hhw : Holds K M4 (wipeE e4 vs1) (wipe σ3 vs1) (rem H4 D) := wipe_holds hhd (fun _ _ => rfl) rfl
              have g8 : Grow M env (wipe σ vs) H M4 (wipeE e4 vs1) (wipe σ3 vs1) (rem H4 D) := (rem_grow (g6.trans hh g7) hD).trans hh (wipe_grow hf1)
              have io' : ItOk K J1 [] M4 (rem H4 D) ys := ⟨fun M H i d q e1 e2 f => io.go M H i d q e1 e2 (fun a ha => by cases ha), fun M H e1 e2 f => io.stop M H e1 e2 (fun a ha => by cases ha)⟩
              cases q5 : lcGo dg1 dt1 de vs1 ys (wipeE e4 vs1) acc with
              | bad => rw [q5] at f4; cases f4
              | exc _ _ => rw [q5] at f4; cases f4
              | ok acc' e5 =>
                rw [q5] at f4
                have f5 : lc2Go dg dt di1 dg1 dt1 de vs vs1 (xs.drop (i + 1)) (wipeE e5 vs) acc' = RE.ok ds e := f4
                have key := lc_goA (M := M4) (σ := σ3) (H := rem H4 D) (env := wipeE e4 vs1) (vs := vs1) hg1 ht1 he hhw io' (fun a ha => by cases ha) q5 D rem_same (Reps.mono g7.exM _ _ rA3)
                  (fun H' => ∃ M' e' acc ws, lc2Go dg dt di1 dg1 dt1 de vs vs1 (xs.drop (i + 1)) e' acc = .ok ds e ∧ Grow M env (wipe σ vs) H M' e' (wipe σ vs) H' ∧ Shape env e' ∧ Holds K M' e' (wipe σ vs) H' ∧ H' D = some (.lst ws) ∧ Reps K M' acc ws ∧ M' D = none ∧ ¬ Own e' (wipe σ vs) D ∧ wipeE e' vs = e')
                  (fun M5 H5 g9 s9 hh9 at9 m9 no9 => by
                    have g10 := g8.trans hh g9
                    have k5 : ∀ i, i ∉ vs → (e5.map Sl.kind)[i]? = (env.map Sl.kind)[i]? := fun i hi => by
                      have h1 := congrArg (fun l => l[i]?) (show e5.map Sl.kind = (wipeE e4 vs1).map Sl.kind from s9)
                      have h2 := congrArg (fun l => l[i]?) (show e4.map Sl.kind = e3.map Sl.kind from s7)
                      have h3 := k3 i hi
                      simp only [List.getElem?_map] at h1 h2 h3 ⊢
                      rw [h1, wipeE_get, if_neg (fun z => hi (hv i z)), h2, h3]
                    have ko5 : ∀ i, i ∉ vs → (wipe σ3 vs1)[i]? = σ[i]? := fun i hi => by rw [wipe_get, if_neg (fun z => hi (hv i z)), ko' i hi]
                    obtain ⟨a1, a2, a3, a4⟩ := back0 hw g10 k5 hh9 ko5 (by rw [wipe_length]; exact hl3)
                    obtain ⟨ws', hw1', hw2⟩ := at9
                    exact ⟨M5, wipeE e5 vs, acc', ws', f5, a1, a2, a3, hw1', hw2, m9, fun z => no9 (a4 D z), wipe_idem _⟩) (wipe_idem _)
                rw [rem_upd hD4] at key
                exact key
            · rw [if_neg hf1] at f4
              cases f4
theorem de_lc2 {wi wi1 : TI} {di : Ev → RE Its} {di1 : Ev → RE (List D)} {g g1 : TG} {dg dg1 : D → Ev → Option Ev} (hv : ∀ i ∈ vs1, i ∈ vs) (hi : DI K W wi di) (hg : DGv K g dg vs) (ht : DT K WF tt dt) (hi1 : DI0 K WF wi1 di1) (hg1 : DGv K g1 dg1 vs1) (ht1 : DT K WF tt1 dt1) (he : DE K WF te de) : DE K W (tLc2 wi g tt wi1 g1 tt1 te vs vs1) (dLc2 di dg dt di1 dg1 dt1 de vs vs1) := fun M σ H env hh => by
  refine Sat.bind (c := fun (J : It) H1 Q => ∀ D, H1 D = none → ∃ W : Nat → Nat → Hp → Prop, (∃ m, W 0 m (upd H1 D (.lst []))) ∧ ∀ i m H, W i m H →
      (J.stop i H ∧ Q (.ref D) H) ∨ (J.go i H ∧ ∃ Nx : Hp → Prop, (∀ H', Nx H' → ∃ m', m' < m ∧ W (i + 1) m' H') ∧ ∀ x H', J.yld i H x H' → g x (wipe σ vs) H' fun σ2 H2 => wipe σ2 vs = wipe σ vs ∧ tt σ2 H2 fun b H3 =>
        if b = true then wi1 σ2 H3 fun J1 H4 => ∃ W1 : Nat → Nat → Hp → Prop, (∃ m, W1 0 m H4) ∧ ∀ j k H, W1 j k H →
          (J1.stop j H ∧ Nx H) ∨ (J1.go j H ∧ ∃ Nx1 : Hp → Prop, (∀ H', Nx1 H' → ∃ k', k' < k ∧ W1 (j + 1) k' H') ∧ ∀ x H', J1.yld j H x H' → g1 x (wipe σ2 vs1) H' fun σ3 H5 => wipe σ3 vs1 = wipe σ2 vs1 ∧ tt1 σ3 H5 fun b H6 =>
            if b = true then te σ3 H6 fun y H7 => ∃ acc, H7 D = some (.lst acc) ∧ acc.length < sizeLine ∧ Nx1 (upd H7 D (.lst (acc ++ [y]))) else Nx1 H6)
        else Nx H3)) back_x hh (hi M σ H env hh) (fun Q q => q) fun M1 H1 env1 xh J g1 s1 hh1 r => ?_
  obtain ⟨xs, h⟩ := xh
  obtain ⟨as, hn, io, hs⟩ := r
  by_cases hf : vs.all (freeSl (hideE h env1)) = true
  · rw [if_pos hf]
    cases q : lc2Go dg dt di1 dg1 dt1 de vs vs1 xs (wipeE (hideE h env1) vs) [] with
    | bad => trivial
    | exc _ _ => trivial
    | ok ds e =>
      refine fun Q k => ?_
      have hhh : Holds K M1 (hideE h env1) σ H1 := by
        cases h with
        | none => exact hh1
        | some j => exact hide_holds hh1
      have hin : Holds K M1 (wipeE (hideE h env1) vs) (wipe σ vs) H1 := wipe_holds hhh (fun _ _ => rfl) rfl
      refine lc2_go hv hg ht hi1 hg1 ht1 he hin io (fun a ha => ⟨fun z => (hn a ha).1 (wipe_own (fun _ _ => rfl) z), (hn a ha).2⟩) q Q (fun D M' H' hD g2 s2 hh2 at2 m2 no2 => ?_) ?_
      · obtain ⟨a1, a2, a3, a4⟩ := rest_ok hhh hf g2 s2 hh2
        have noD : ¬ Own (restE (hideE h env1) e vs) σ D := fun z => no2 (a4 D z)
        have rx : RX K σ H1 M' H' (restE (hideE h env1) e vs) (.ow (.lst ds)) (.ref D) := ⟨⟨D, rfl, at2, m2, noD⟩, fun o _ l z => by cases z; exact hD⟩
        cases h with
        | none => exact k _ M' H' a1 a2 a3 rx
        | some j =>
          obtain ⟨p, o, ej⟩ := hs j rfl
          have eg : env1.getD j .no = .ow p o := by rw [List.getD_eq_getElem?_getD, ej]; rfl
          obtain ⟨b1, b2, b3⟩ := unhide_ok hh1 ej a1 a3
          show Q _ _
          have hj : j < env1.length := (List.getElem?_eq_some_iff.mp ej).1
          have shp : Shape env1 ((restE (env1.set j .hid) e vs).set j (.ow p o)) := by
            show List.map Sl.kind ((restE (env1.set j .hid) e vs).set j (.ow p o)) = env1.map Sl.kind
            apply List.ext_getElem?
            intro i
            rw [List.getElem?_map, List.getElem?_map]
            by_cases hij : i = j
            · subst hij
              rw [List.getElem?_set_self (by have hq := a1.len; simp only [hideE, List.length_set] at hq ⊢; omega), ej]
              try rfl
            · rw [List.getElem?_set_ne (Ne.symm hij)]
              have := congrArg (fun l => l[i]?) (show (restE (env1.set j .hid) e vs).map Sl.kind = (env1.set j .hid).map Sl.kind from a2)
              simp only [List.getElem?_map] at this
              rw [this, List.getElem?_set_ne (Ne.symm hij)]
          refine k _ M' H' (by show Grow M1 env1 σ H1 M' ((restE (env1.set j .hid) e vs).set j (env1.getD j .no)) σ H'; rw [eg]; exact b1) (by show Shape env1 ((restE (env1.set j .hid) e vs).set j (env1.getD j .no)); rw [eg]; exact shp) (by show Holds K M' ((restE (env1.set j .hid) e vs).set j (env1.getD j .no)) σ H'; rw [eg]; exact b2) (by show RX K σ H1 M' H' ((restE (env1.set j .hid) e vs).set j (env1.getD j .no)) _ _; rw [eg]; exact b3 _ _ (fun i z => nomatch z) rx)
      · apply List.ext_getElem?
        intro i
        rw [wipeE_get, wipeE_len, wipeE_get]
        by_cases hi : i ∈ vs
        · rw [if_pos hi, if_pos hi]
        · rw [if_neg hi, if_neg hi]
  · rw [if_neg hf]
    trivial
end
end Dn

namespace Dn
open PySem PySem.Spec PyProof.Rows L2 NdefX
/-! ### calls, said once -/
def callD (m : Ev → RE X) (xs : List X) (env : Ev) : RE X := match passXs env xs with
  | none => .bad
  | some ps => if (slots xs).Nodup ∧ temps xs ≤ 1 then match m ps with
      | .ok y ps' => .ok y (wb xs ps' env)
      | .exc e ps' => .exc e (wb xs ps' env)
      | .bad => .bad
    else .bad
/-- what is wanted behind an outcome -/
def KX (K : Fg) [WD K] (E : XK) (M : Hp) (σ : L2.St) (H : Hp) (env : Ev) (Q : VK) : RE X → Prop
  | .ok y env2 => ∀ v M' H', Grow M env σ H M' env2 σ H' → Shape env env2 → Holds K M' env2 σ H' → RX K σ H M' H' env2 y v → Q v H'
  | .exc e env2 => ∀ cls d M' H', Grow M env σ H M' env2 σ H' → Shape env env2 → Holds K M' env2 σ H' → RepE K M' H' e cls d → E cls d H'
  | .bad => False
section
variable {K : Fg} [WD K] {W : WS} {E : XK} {M M' M1 M2 : Hp} {env env' env1 env2 : Ev} {σ σ' σ1 : L2.St} {H H' H1 H2 : Hp} {x y : X} {v u : V} {xs : List X} {vs : List V} {m : Ev → RE X} {Q : VK}
theorem sat_of {r : RE X} {t : (V → Hp → Prop) → Prop} (h : ∀ Q, KX K (W σ) M σ H env Q r → t Q) : Sat K W M σ H env r (RX K σ) t := by
  cases r with
  | bad => trivial
  | ok y env2 => exact fun Q k => h Q k
  | exc e env2 => exact fun Q k => h Q k
theorem Sat.bindG {α β γ δ : Type} {r : RE α} {f : α → Ev → RE γ} {R : Hp → Hp → Hp → Ev → α → β → Prop} {R' : Hp → Hp → Hp → Ev → γ → δ → Prop} {t : (β → Hp → Prop) → Prop} {t' : (δ → Hp → Prop) → Prop} {c : β → Hp → (δ → Hp → Prop) → Prop}
    (h : Sat K W M σ H env r R t) (ht : ∀ Q, t (fun v H1 => c v H1 Q) → t' Q)
    (hf : ∀ M1 H1 env1 x v, Grow M env σ H M1 env1 σ H1 → Shape env env1 → Holds K M1 env1 σ H1 → R H M1 H1 env1 x v → Sat K W M σ H env (f x env1) R' (c v H1)) : Sat K W M σ H env (r.bind f) R' t' := by
  cases r with
  | bad => trivial
  | exc e env1 => exact fun Q k => ht Q (h _ k)
  | ok x env1 =>
    show Sat K W M σ H env (f x env1) R' t'
    cases e2 : f x env1 with
    | bad => trivial
    | exc e env2 =>
      refine fun Q k => ht Q (h _ fun v M1 H1 g1 s1 hh1 r1 => ?_)
      have h2 := hf M1 H1 env1 x v g1 s1 hh1 r1
      rw [e2] at h2
      exact h2 Q k
    | ok y env2 =>
      refine fun Q k => ht Q (h _ fun v M1 H1 g1 s1 hh1 r1 => ?_)
      have h2 := hf M1 H1 env1 x v g1 s1 hh1 r1
      rw [e2] at h2
      exact h2 Q k
theorem call_mid (hm : NoSl m) (hh : Holds K M env σ H) (g : Grow M env σ H M1 env1 σ H1) (s : Shape env env1) (hh1 : Holds K M1 env1 σ H1) (r : RA K σ H M1 H1 env1 xs vs) (k : KX K E M σ H env Q (callD m xs env1)) : spD K m vs H1 Q E := by
  unfold callD at k
  cases e2 : passXs env1 xs with
  | none => rw [e2] at k; exact k.elim
  | some ps =>
    rw [e2] at k
    by_cases nd : (slots xs).Nodup ∧ temps xs ≤ 1
    · have k : KX K E M σ H env Q (if (slots xs).Nodup ∧ temps xs ≤ 1 then match m ps with
        | .ok y ps' => .ok y (wb xs ps' env1)
        | .exc e ps' => .exc e (wb xs ps' env1)
        | .bad => .bad
      else .bad) := k
      rw [if_pos nd] at k
      refine ⟨_, ps, call_in hh g hh1 r e2 nd.1 nd.2, ?_⟩
      cases e3 : m ps with
      | bad => rw [e3] at k; exact k.elim
      | ok y ps' =>
        rw [e3] at k
        intro v M2 H2 g2 s2 hh2 ry
        obtain ⟨a, b, c, d⟩ := call_out hh g s hh1 r e2 nd.1 g2 s2 hh2
        exact k v M2 H2 a b c (d y v ry (hm ps y ps' e3))
      | exc x ps' =>
        rw [e3] at k
        intro cls dd M2 H2 g2 s2 hh2 ry
        obtain ⟨a, b, c, d⟩ := call_out hh g s hh1 r e2 nd.1 g2 s2 hh2
        exact k cls dd M2 H2 a b c ry
    · have k : KX K E M σ H env Q (if (slots xs).Nodup ∧ temps xs ≤ 1 then match m ps with
        | .ok y ps' => .ok y (wb xs ps' env1)
        | .exc e ps' => .exc e (wb xs ps' env1)
        | .bad => .bad
      else .bad) := k
      rw [if_neg nd] at k
      exact k.elim
/-- the receiver: an instance, plain or a slot's -/
def recvX (env : Ev) : X → Option (Str × List (Str × D))
  | .im (.obj c fs) => some (c, fs)
  | .sl i => match env[i]? with
    | some (.ow _ (.ob c fs)) => some (c, fs)
    | _ => none
  | _ => none
theorem recv_ok {c : Str} {fs : List (Str × D)} (hh : Holds K M env σ H) (r : RepX K M H env σ x v) (e : recvX env x = some (c, fs)) : ∃ a dx fvs, v = .ref a ∧ H a = some (.ins (He.ga K c) dx fvs) ∧ RepF K M fs fvs := by
  cases x with
  | im d =>
    cases d with
    | obj c' fs' =>
      cases e
      simp only [RepX, Rep] at r
      obtain ⟨a, dx, fvs, h1, h2, h3⟩ := r
      exact ⟨a, dx, fvs, h1, hh.ex _ _ h2, h3⟩
    | _ => cases e
  | ow o => cases e
  | sl i =>
    obtain ⟨⟨p, o, q1⟩, q2⟩ := r
    have e' : (match env[i]? with
      | some (.ow _ (.ob c fs)) => some (c, fs)
      | _ => none) = some (c, fs) := e
    rw [q1] at e'
    cases o with
    | ob c' fs' =>
      cases e'
      obtain ⟨l, q3, a, _⟩ := hh.slot i _ q1
      rw [q2] at q3
      cases q3
      obtain ⟨dx, fvs, h1, h2⟩ := a
      exact ⟨l, dx, fvs, rfl, h1, h2⟩
    | _ => cases e'
theorem recv_new {c : Str} {fs : List (Str × D)} (e : recvX env x = some (c, fs)) : NewX H x v := fun o z => by
  subst z
  cases e
theorem repF_none {n : Str} : ∀ {xs : List (Str × D)} {vs : List (Str × V)}, RepF K M xs vs → xs.lookup n = none → vs.lookup n = none
  | [], vs, h, e => by
    simp only [RepF] at h
    subst h
    rfl
  | (k, x) :: xs, vs, h, e => by
    simp only [RepF] at h
    obtain ⟨v, r, rfl, h1, h2⟩ := h
    rw [List.lookup_cons] at e ⊢
    cases q : (n == k) with
    | true =>
      rw [q] at e
      cases e
    | false =>
      rw [q] at e
      exact repF_none h2 e
/-- a method of the class c at whose call den happens -/
def MethF (CX : CXT) (P : Program) (w : World) (K : Fg) [WD K] (mg : Str → Option Value) (base : Heap) (k : Nat) (c m : Str) (den : Ev → RE X) : Prop :=
  ∃ f, Cls K (He.ga K c) ∧ Meth K (He.ga K c) m f ∧ FnR P w K mg base CX k f (spD K den) ∧ NoSl den
theorem MethF.mono {CX : CXT} {P : Program} {w : World} {K : Fg} [WD K] {mg : Str → Option Value} {base : Heap} {j k : Nat} {c m : Str} {den : Ev → RE X} (h : MethF CX P w K mg base j c m den) (l : j ≤ k) : MethF CX P w K mg base k c m den := by
  obtain ⟨f, h1, h2, h4, h5⟩ := h
  exact ⟨f, h1, h2, h4.mono l, h5⟩
abbrev MTab := List (Str × (Ev → RE X))
def MTab.get (t : MTab) (c : Str) : Option (Ev → RE X) := t.lookup c
/-- where a rule runs -/
structure CxIs (X : Cx) (K : Fg) (P : Program) (w : World) (mg : Str → Option Value) (base : Heap) : Prop where
  hK : X.K = K
  hP : X.prog = P
  hw : X.w = w
  hmg : X.mg = mg
  hb : X.base = base
def tMethF (K : Fg) [WD K] (tab : Str → Option (Ev → RE X)) (m : Str) (E : L2.St → XK) (ta : TE) (t : TA) : TE := fun σ H Q => ta σ H fun x H1 => ∃ a dx fs c den, x = .ref a ∧ H1 a = some (.ins (He.ga K c) dx fs) ∧ tab c = some den ∧ fs.lookup m = none ∧ t σ H1 fun vs H2 => spD K den (x :: vs) H2 Q (E σ)
def dMethF (tab : Str → Option (Ev → RE X)) (m : Str) (do_ : Ev → RE X) (da : Ev → RE (List X)) : Ev → RE X := fun env => (do_ env).bind fun x e1 => match recvX e1 x with
  | none => .bad
  | some (c, fs) => match tab c with
    | none => .bad
    | some den => if (fs.lookup m).isNone = true then (da e1).bind fun xs e2 => callD den (x :: xs) e2 else .bad
theorem de_methF {tab : Str → Option (Ev → RE X)} {n : Str} {te : TE} {de : Ev → RE X} {ta : TA} {da : Ev → RE (List X)} (ht : ∀ c den, tab c = some den → NoSl den) (h : DE K W te de) (ha : DA K W ta da) : DE K W (tMethF K tab n W te ta) (dMethF tab n de da) := fun M σ H env hh => by
  refine Sat.bind (c := fun x H1 Q => ∃ a dx fs c den, x = V.ref a ∧ H1 a = some (.ins (He.ga K c) dx fs) ∧ tab c = some den ∧ fs.lookup n = none ∧ ta σ H1 fun vs H2 => spD K den (x :: vs) H2 Q (W σ)) back_x hh (h M σ H env hh) (fun Q q => q) fun M1 H1 env1 x v g1 s1 hh1 r1 => ?_
  cases e1 : recvX env1 x with
  | none => trivial
  | some cf =>
    obtain ⟨c, fs⟩ := cf
    obtain ⟨a, dx, fvs, rfl, ea, rf⟩ := recv_ok hh1 r1.1 e1
    show Sat K W M1 σ H1 env1 (match tab c with
      | none => .bad
      | some den => if (fs.lookup n).isNone = true then (da env1).bind fun xs e2 => callD den (x :: xs) e2 else .bad) (RX K σ) _
    cases e2 : tab c with
    | none => trivial
    | some den =>
      by_cases hn : (fs.lookup n).isNone = true
      · show Sat K W M1 σ H1 env1 (if (fs.lookup n).isNone = true then (da env1).bind fun xs e2 => callD den (x :: xs) e2 else .bad) (RX K σ) _
        rw [if_pos hn]
        refine Sat.bindG (c := fun vs H2 Q => spD K den (.ref a :: vs) H2 Q (W σ)) (ha M1 σ H1 env1 hh1) (fun Q q => ⟨a, dx, fvs, c, den, rfl, ea, e2, repF_none rf (Option.isNone_iff_eq_none.mp hn), q⟩) fun M2 H2 env2 xs vs g2 s2 hh2 r2 => ?_
        refine sat_of fun Q k => ?_
        exact call_mid (ht c den e2) hh1 g2 s2 hh2 (xs := x :: xs) (Paired.cons ⟨RepX.grow hh1 r1.1 g2 s2, recv_new e1⟩ r2) k
      · show Sat K W M1 σ H1 env1 (if (fs.lookup n).isNone = true then (da env1).bind fun xs e2 => callD den (x :: xs) e2 else .bad) (RX K σ) _
        rw [if_neg hn]
        trivial
end
theorem run_fnRS {X : Cx} {CX : CXT} {k : Nat} {f : Addr} {sp : Sp} {E : XK} {Q : VK} {us : List Value} {vs : List V} {pins : List (Addr × Obj)} {σ : L2.St} {H : Hp} {s : Shared} (F : FnR X.prog X.w X.K X.mg X.base CX k f sp) (hr : Room k X.A) (hx : PassesAt CX X σ E) (I : Inv X pins σ H s) (r : Vals vs us) (h : sp vs H Q E) :
    codeAny (model X.prog X.w) X.A (.call (.ref f) ⟨us, []⟩) (fun r s' => match r with | .ok (.ret v) => EP X pins σ Q v s' | .ok _ => False | .error e => X.xe e s') s := by
  refine codeAny_mono (F X.A X.stack s H us vs Q E hr I.env0 r h) fun r s' hq => ?_
  cases r with
  | error e => exact hx pins H s e s' I hq
  | ok fl =>
    cases fl with
    | ret u => exact I.after hq
    | next => exact False.elim hq
    | brk => exact False.elim hq
    | cont => exact False.elim hq
theorem fnR_ok {P : Program} {w : World} {K : Fg} [WD K] {mg : Str → Option Value} {base : Heap} {CX : CXT} {k : Nat} {f : Addr} {fd : FuncData} {ps : List Str} {sp : Sp} (F : FnOk P w K mg base CX k f fd ps sp) (hb : Binds K fd ps []) : FnR P w K mg base CX k f sp := fun A outer s H us vs Q E hr e0 r hs => by
  have KX : K.In s.heap := e0.mod.kin.keeps fun b o e => (e0.bs b o e).1
  have hl : us.length = ps.length := by rw [← r.length]; exact F.len _ _ _ _ hs
  have b := hb s us KX (by rw [List.append_nil]; exact hl)
  rw [List.append_nil] at b
  exact F.run A outer s H ⟨us, []⟩ us vs Q E hr e0 b r hs
section
variable {X : Cx} {CX : CXT} {K : Fg} [WD K] {P : Program} {w : World} {mg : Str → Option Value} {base : Heap} {k : Nat} {tab : Str → Option (Ev → RE Dn.X)} {E : L2.St → XK} {m c : Str} {p pos apos : Pos} {e o : Expr} {es : List Expr} {ta : TE} {t : TA} {den : Ev → RE Dn.X}
theorem pe_methF {pl : Sem Bool} (cx : CxIs X K P w mg base) (ht : ∀ c den, tab c = some den → MethF CX P w K mg base k c m den) (hr : Room k X.A) (hx : ∀ σ, PassesAt CX X σ (E σ)) (he : PE X o ta) (ha : PA X (e :: es) t)
    (hst : starEach (e :: es) X.env = (false, eval e X.env) :: starEach es X.env := by rfl) (hpl : (backTo pos (starEach es X.env)).any (·.1) = false := by rfl)
    (hte : eval (.Call (.Attribute o m apos) (e :: es) [] pos) X.env = (do
      let ov ← eval o X.env
      standAt apos.atName
      let (f, first) ← holding [ov] (getMethod ov m pl)
      callWith pos f first (backTo pos (starEach (e :: es) X.env)) (backToKw pos (keywordEach [] X.env))) := by rfl) :
    PE X (.Call (.Attribute o m apos) (e :: es) [] pos) (tMethF K tab m E ta t) := by
  obtain ⟨rfl, rfl, rfl, rfl, rfl⟩ := cx
  refine ⟨fun pins s σ H Q I h => ?_⟩
  refine PySem.W.methodCall_KW (pl := pl) (thn (he.run pins s σ H _ I h) fun u s1 ⟨x, H1, I1, rx, a, dx, fs, c, den, ex, ea, et, l, q⟩ => ?_) hte
  subst ex
  obtain rfl : u = Value.ref a := rx
  obtain ⟨f, c1, hm, F, _⟩ := ht c den et
  refine getmeth_ok I1 ea c1 hm l ?_
  refine PySem.W.callWith_K (first := [.ref a]) (h₀ := X.base) I.ok.mod.kin hm.kp (thn (ha.run pos pins s1 σ H1 _ I1 q) fun us s2 ⟨vs, H2, I2, r, q2⟩ => ⟨I2.kIn, ?_⟩) hst hpl
  exact wpAny_call (run_fnRS (us := .ref a :: us) (vs := .ref a :: vs) F hr (hx σ) I2 (.cons rfl r) q2)
theorem pe_methF0 {pl : Sem Bool} (cx : CxIs X K P w mg base) (ht : ∀ c den, tab c = some den → MethF CX P w K mg base k c m den) (hr : Room k X.A) (hx : ∀ σ, PassesAt CX X σ (E σ)) (he : PE X o ta)
    (hte : eval (.Call (.Attribute o m apos) [] [] pos) X.env = (do
      let ov ← eval o X.env
      standAt apos.atName
      let (f, first) ← holding [ov] (getMethod ov m pl)
      callWith pos f first (backTo pos (starEach [] X.env)) (backToKw pos (keywordEach [] X.env))) := by rfl) :
    PE X (.Call (.Attribute o m apos) [] [] pos) (tMethF K tab m E ta tNil) := by
  obtain ⟨rfl, rfl, rfl, rfl, rfl⟩ := cx
  refine ⟨fun pins s σ H Q I h => ?_⟩
  refine PySem.W.methodCall_KW (pl := pl) (thn (he.run pins s σ H _ I h) fun u s1 ⟨x, H1, I1, rx, a, dx, fs, c, den, ex, ea, et, l, q⟩ => ?_) hte
  subst ex
  obtain rfl : u = Value.ref a := rx
  obtain ⟨f, c1, hm, F, _⟩ := ht c den et
  refine getmeth_ok I1 ea c1 hm l ?_
  exact PySem.W.callWith_K0 (first := [.ref a]) I1.kIn hm.kp (wpAny_call (run_fnRS (us := [.ref a]) (vs := [.ref a]) F hr (hx σ) I1 (.cons rfl .nil) q))
/-! ### C(..) -/
def MkF (CX : CXT) (P : Program) (w : World) (K : Fg) [WD K] (mg : Str → Option Value) (base : Heap) (k : Nat) (c : Str) (den : Ev → RE Dn.X) : Prop :=
  ∃ f, Mk K (He.ga K c) f ∧ mg c = some (.ref (He.ga K c)) ∧ FnR P w K mg base CX k f (spD K den) ∧ NoSl den
def tMakeF (K : Fg) [WD K] (c : Str) (den : Ev → RE Dn.X) (E : L2.St → XK) (t : TA) : TE := fun σ H Q => t σ H fun vs H1 => ∀ x dx, H1 x = none → H1 dx = none → dx ≠ x →
  spD K den (V.ref x :: vs) (upd (upd H1 dx (.own x)) x (.ins (He.ga K c) dx [])) (fun v H2 => v = .non ∧ Q (.ref x) H2) (E σ)
theorem run_makeS {C f : Addr} {sp : Sp} {σ : L2.St} {pins : List (Addr × Obj)} {H : Hp} {s : Shared} {Q : VK} {us : List Value} {vs : List V} (M : Mk X.K C f) (F : FnR X.prog X.w X.K X.mg X.base CX k f sp) (hr : Room (k + 1) X.A)
    (hx : PassesAt CX X σ (E σ)) (I : Inv X pins σ H s) (r : Vals vs us)
    (h : ∀ x dx, H x = none → H dx = none → dx ≠ x → sp (.ref x :: vs) (upd (upd H dx (.own x)) x (.ins C dx [])) (fun v H2 => v = .non ∧ Q (.ref x) H2) (E σ)) :
    wpAny (model X.prog X.w) X.A (call (.ref C) us) (EP X pins σ Q) X.xe s := by
  have hq := h (s.heap.objs.size + 1) s.heap.objs.size (I.hok.fresh (Nat.le_succ _)) (I.hok.fresh (Nat.le_refl _)) (Nat.ne_of_lt (Nat.lt_succ_self _))
  have I2 := Inv.made (C := C) I
  have r2 : Vals (V.ref (s.heap.objs.size + 1) :: vs) (Value.ref (s.heap.objs.size + 1) :: us) := .cons rfl r
  refine wpAny_call (make_map (f := f) I.kIn M.makes M.init (beq_iff_eq.mp M.fn) (codeAny_mono (F _ X.stack _ _ (Value.ref (s.heap.objs.size + 1) :: us) _ _ (E σ) (hr.make C us []) (I2.env0.make C us []) r2 hq) fun r s' hq' => ?_))
  cases r with
  | error e => exact hx pins _ _ e s' I2 hq'
  | ok fl =>
    cases fl with
    | ret u =>
      obtain ⟨v, H', I3, rv, ev, q3⟩ := I2.after hq'
      subst ev
      exact ⟨rv, ⟨V.ref (s.heap.objs.size + 1), H', I3, rfl, q3⟩⟩
    | next => exact False.elim hq'
    | brk => exact False.elim hq'
    | cont => exact False.elim hq'
theorem pe_makeF (cx : CxIs X K P w mg base) (hm : MkF CX P w K mg base k c den) (hr : Room (k + 1) X.A) (hg : Gl X c) (hx : ∀ σ, PassesAt CX X σ (E σ)) (ha : PA X (e :: es) t)
    (hdb : (c == ("__debug__" : Str)) = false := by decide) (he : starEach (e :: es) X.env = (false, eval e X.env) :: starEach es X.env := by rfl) (hpl : (backTo pos (starEach es X.env)).any (·.1) = false := by rfl) :
    PE X (.Call (.Name c p) (e :: es) [] pos) (tMakeF K c den E t) := by
  obtain ⟨rfl, rfl, rfl, rfl, rfl⟩ := cx
  obtain ⟨f, M, hmg, F, _⟩ := hm
  refine ⟨fun pins s σ H Q I h => ?_⟩
  refine wpAny_Call_Name_kw (ld_glob I hg hmg ?_ hdb)
  refine PySem.W.callWith_K (h₀ := X.base) I.ok.mod.kin M.kp (thn (ha.run pos pins s σ H _ I h) fun us s1 ⟨vs, H1, I1, r, q⟩ => ⟨I1.kIn, ?_⟩) he hpl
  exact run_makeS M F hr (hx σ) I1 r q
theorem pe_makeF0 (cx : CxIs X K P w mg base) (hm : MkF CX P w K mg base k c den) (hr : Room (k + 1) X.A) (hg : Gl X c) (hx : ∀ σ, PassesAt CX X σ (E σ)) (hdb : (c == ("__debug__" : Str)) = false := by decide) :
    PE X (.Call (.Name c p) [] [] pos) (tMakeF K c den E tNil) := by
  obtain ⟨rfl, rfl, rfl, rfl, rfl⟩ := cx
  obtain ⟨f, M, hmg, F, _⟩ := hm
  refine ⟨fun pins s σ H Q I h => ?_⟩
  refine wpAny_Call_Name_kw (ld_glob I hg hmg ?_ hdb)
  exact PySem.W.callWith_K0 I.kIn M.kp (run_makeS (us := []) M F hr (hx σ) I .nil h)
end
def makeD (c : Str) (m : Ev → RE X) (xs : List X) (env : Ev) : RE X := match passXs env xs with
  | none => .bad
  | some ps => if (slots xs).Nodup ∧ temps xs = 0 then match m (.ow true (.ob c []) :: ps) with
      | .ok (.im .non) (.ow true o :: ps') => .ok (.ow o) (wb xs ps' env)
      | .exc e (_ :: ps') => .exc e (wb xs ps' env)
      | _ => .bad
    else .bad
section
variable {K : Fg} [WD K] {W : WS} {E : XK} {M M' M1 M2 : Hp} {env env' env1 env2 : Ev} {σ σ' σ1 : L2.St} {H H' H1 H2 : Hp} {x y : X} {v u : V} {xs : List X} {vs : List V} {m : Ev → RE X} {Q : VK} {c : Str}
theorem make_mid (hh : Holds K M env σ H) (g : Grow M env σ H M1 env1 σ H1) (s : Shape env env1) (hh1 : Holds K M1 env1 σ H1) (r : RA K σ H M1 H1 env1 xs vs) (k : KX K E M σ H env Q (makeD c m xs env1))
    (a dx : Addr) (ha : H1 a = none) (hd : H1 dx = none) (ne : dx ≠ a) : spD K m (V.ref a :: vs) (upd (upd H1 dx (.own a)) a (.ins (He.ga K c) dx [])) (fun v H2 => v = .non ∧ Q (.ref a) H2) E := by
  have same : Same H1 (upd (upd H1 dx (.own a)) a (.ins (He.ga K c) dx [])) := fun b o e => by
    rw [upd_ne (ne_of_none e ha), upd_ne (ne_of_none e hd)]
    exact e
  have ex : Ext M1 H1 M1 (upd (upd H1 dx (.own a)) a (.ins (He.ga K c) dx [])) := ⟨Same.refl M1, same, fun l o e => .inl e, fun l o e => same _ _ (hh1.ex _ _ e)⟩
  have g' := g.trans hh (ex.grow hh1)
  have hh1' := ex.holds hh1
  have noown : ¬ Own env1 σ a := fun z => by
    obtain ⟨u, q⟩ := hh1.ownSome z
    rw [ha] at q
    cases q
  have ma : M1 a = none := by
    cases q : M1 a with
    | none => rfl
    | some o =>
      have := hh1.ex _ _ q
      rw [ha] at this
      cases this
  have r' : RA K σ H M1 (upd (upd H1 dx (.own a)) a (.ins (He.ga K c) dx [])) env1 (X.ow (.ob c []) :: xs) (V.ref a :: vs) := by
    refine Paired.cons ⟨⟨a, rfl, ⟨dx, [], upd_same, by simp [RepF]⟩, ma, noown⟩, fun o z l e => ?_⟩ (Paired.imp1 (fun x v q => ⟨RepX.grow hh1 q.1 (ex.grow hh1) (.refl _), q.2⟩) r)
    cases e
    exact g.dom a ha
  unfold makeD at k
  cases e2 : passXs env1 xs with
  | none => rw [e2] at k; exact k.elim
  | some ps =>
    rw [e2] at k
    by_cases nd : (slots xs).Nodup ∧ temps xs = 0
    · have k : KX K E M σ H env Q (if (slots xs).Nodup ∧ temps xs = 0 then match m (.ow true (.ob c []) :: ps) with
        | .ok (.im .non) (.ow true o :: ps') => .ok (.ow o) (wb xs ps' env1)
        | .exc e (_ :: ps') => .exc e (wb xs ps' env1)
        | _ => .bad
      else .bad) := k
      rw [if_pos nd] at k
      have e2' : passXs env1 (X.ow (.ob c []) :: xs) = some (.ow true (.ob c []) :: ps) := by
        show ((passX env1 (X.ow (.ob c []))).bind fun s => (passXs env1 xs).bind fun ss => some (s :: ss)) = _
        rw [e2]
        rfl
      have nd1 : (slots (X.ow (.ob c []) :: xs)).Nodup := nd.1
      have nt1 : temps (X.ow (.ob c []) :: xs) ≤ 1 := by
        show temps xs + 1 ≤ 1
        omega
      refine ⟨_, _, call_in hh g' hh1' r' e2' nd1 nt1, ?_⟩
      cases e3 : m (.ow true (.ob c []) :: ps) with
      | bad => rw [e3] at k; exact k.elim
      | ok y ps' =>
        rw [e3] at k
        intro v M2 H2 g2 s2 hh2 ry
        have hlen : ps'.length = ps.length + 1 := by
          have := congrArg List.length (show ps'.map Sl.kind = _ from s2)
          simpa using this
        cases ps' with
        | nil => simp at hlen
        | cons s0 ps' =>
          obtain ⟨a1, a2, a3, a4⟩ := call_out hh g' s hh1' r' e2' nd1 g2 s2 hh2
          have k2 : ∀ o, y = .im .non → s0 = .ow true o → v = .non ∧ Q (.ref a) H2 := fun o ey e0 => by
            subst ey e0
            refine ⟨by simpa [RepX, Rep] using ry.1, ?_⟩
            obtain ⟨l, q1, q2, q3⟩ := hh2.slot 0 _ rfl
            cases q1
            refine k _ M2 H2 a1 a2 a3 ⟨⟨a, rfl, q2, q3, fun z => ?_⟩, fun o' z l e => ?_⟩
            · exact noown (own_shape (Eq.trans (show Shape env (wb xs ps' env1) from a2) (Eq.symm s)) z)
            · cases e
              exact g.dom a ha
          cases y with
          | im d =>
            cases d with
            | non =>
              cases s0 with
              | ow p o =>
                cases p with
                | true => exact k2 o rfl rfl
                | false => exact k.elim
              | _ => exact k.elim
            | _ => exact k.elim
          | _ => exact k.elim
      | exc x ps' =>
        rw [e3] at k
        intro cls dd M2 H2 g2 s2 hh2 ry
        have hlen : ps'.length = ps.length + 1 := by
          have := congrArg List.length (show ps'.map Sl.kind = _ from s2)
          simpa using this
        cases ps' with
        | nil => simp at hlen
        | cons s0 ps' =>
          obtain ⟨a1, a2, a3, a4⟩ := call_out hh g' s hh1' r' e2' nd1 g2 s2 hh2
          exact k cls dd M2 H2 a1 a2 a3 ry
    · have k : KX K E M σ H env Q (if (slots xs).Nodup ∧ temps xs = 0 then match m (.ow true (.ob c []) :: ps) with
        | .ok (.im .non) (.ow true o :: ps') => .ok (.ow o) (wb xs ps' env1)
        | .exc e (_ :: ps') => .exc e (wb xs ps' env1)
        | _ => .bad
      else .bad) := k
      rw [if_neg nd] at k
      exact k.elim
def dMakeF (c : Str) (m : Ev → RE X) (da : Ev → RE (List X)) : Ev → RE X := fun env => (da env).bind (makeD c m)
theorem de_makeF {ta : TA} {da : Ev → RE (List X)} (ha : DA K W ta da) : DE K W (tMakeF K c m W ta) (dMakeF c m da) := fun M σ H env hh => by
  refine Sat.bindG (c := fun vs H1 Q => ∀ a dx, H1 a = none → H1 dx = none → dx ≠ a → spD K m (V.ref a :: vs) (upd (upd H1 dx (.own a)) a (.ins (He.ga K c) dx [])) (fun v H2 => v = .non ∧ Q (.ref a) H2) (W σ)) (ha M σ H env hh) (fun Q q => q) fun M1 H1 env1 xs vs g1 s1 hh1 r1 => ?_
  exact sat_of fun Q k a dx h1 h2 h3 => make_mid hh g1 s1 hh1 r1 k a dx h1 h2 h3
end
end Dn

namespace Dn
open PySem PySem.Spec PyProof.Rows L2 NdefX
/-! ### fields -/
/-- any instance: plain, a slot's, a new one -/
def rcvA (env : Ev) : X → Option (Str × List (Str × D))
  | .ow (.ob c fs) => some (c, fs)
  | x => recvX env x
section
variable {K : Fg} [WD K] {W : WS} {E : XK} {M M' M1 M2 : Hp} {env env' env1 env2 : Ev} {σ σ' σ1 : L2.St} {H H' H1 H2 : Hp} {x y : X} {v u : V} {xs : List X} {vs : List V} {m : Ev → RE X} {Q : VK} {te tv : TE} {de dv : Ev → RE X} {T : List Str}
theorem rcvA_ok {c : Str} {fs : List (Str × D)} (hh : Holds K M env σ H) (r : RepX K M H env σ x v) (e : rcvA env x = some (c, fs)) : ∃ a dx fvs, v = .ref a ∧ H a = some (.ins (He.ga K c) dx fvs) ∧ RepF K M fs fvs := by
  cases x with
  | im d => exact recv_ok hh r e
  | sl i => exact recv_ok hh r e
  | ow o =>
    cases o with
    | ob c' fs' =>
      cases e
      obtain ⟨l, rfl, ⟨dx, fvs, h1, h2⟩, _⟩ := r
      exact ⟨l, dx, fvs, rfl, h1, h2⟩
    | _ => cases e
def FldT (K : Fg) (T : List Str) (f : Str) : Prop := ∀ c ∈ T, Cls K (He.ga K c) ∧ NoAttr K (He.ga K c) f
def dFldF (T : List Str) (f : Str) (de : Ev → RE X) : Ev → RE X := fun env => (de env).bind fun x e1 => match rcvA e1 x with
  | some (c, fs) => if c ∈ T then (match fs.lookup f with
    | some d => .ok (.im d) e1
    | none => .bad) else .bad
  | none => .bad
theorem de_fldF {f : Str} (hT : FldT K T f) (h : DE K W te de) : DE K W (tFld K te f) (dFldF T f de) := fun M σ H env hh => by
  refine Sat.bind (c := fun x H1 Q => ∃ a C dx fs v, x = V.ref a ∧ H1 a = some (.ins C dx fs) ∧ Cls K C ∧ NoAttr K C f ∧ fs.lookup f = some v ∧ Q v H1) back_x hh (h M σ H env hh) (fun Q q => q) fun M1 H1 env1 x v g1 s1 hh1 r1 => ?_
  cases e1 : rcvA env1 x with
  | none => trivial
  | some cf =>
    obtain ⟨c, fs⟩ := cf
    obtain ⟨a, dx, fvs, rfl, ea, rf⟩ := rcvA_ok hh1 r1.1 e1
    show Sat K W M1 σ H1 env1 (if c ∈ T then (match fs.lookup f with
      | some d => .ok (.im d) env1
      | none => .bad) else .bad) (RX K σ) _
    by_cases hc : c ∈ T
    · rw [if_pos hc]
      cases e2 : fs.lookup f with
      | none => trivial
      | some d =>
        obtain ⟨v, h1, h2⟩ := repF_lookup rf e2
        exact fun Q k => ⟨a, _, dx, fvs, v, rfl, ea, (hT c hc).1, (hT c hc).2, h1, k _ _ _ .refl (.refl _) hh1 (rx_im h2)⟩
    · rw [if_neg hc]
      trivial
def putFD (f : Str) (v : D) : List (Str × D) → List (Str × D)
  | [] => [(f, v)]
  | (g, x) :: r => if g = f then (g, v) :: r else (g, x) :: putFD f v r
theorem repF_put {f : Str} {d : D} (hd : Rep K M d v) : ∀ {xs : List (Str × D)} {vs : List (Str × V)}, RepF K M xs vs → RepF K M (putFD f d xs) (putF f v vs)
  | [], vs, h => by
    simp only [RepF] at h
    subst h
    simp only [putFD, putF, RepF]
    exact ⟨v, [], rfl, hd, rfl⟩
  | (k, x) :: xs, vs, h => by
    simp only [RepF] at h
    obtain ⟨u, r, rfl, h1, h2⟩ := h
    unfold putFD putF
    by_cases hk : k = f
    · rw [if_pos hk, if_pos hk]
      simp only [RepF]
      exact ⟨v, r, rfl, hd, h2⟩
    · rw [if_neg hk, if_neg hk]
      simp only [RepF]
      exact ⟨u, _, rfl, h1, repF_put hd h2⟩
theorem repF_len : ∀ {xs : List (Str × D)} {vs : List (Str × V)}, RepF K M xs vs → xs.length = vs.length
  | [], vs, h => by
    simp only [RepF] at h
    subst h
    rfl
  | (k, x) :: xs, vs, h => by
    simp only [RepF] at h
    obtain ⟨u, r, rfl, h1, h2⟩ := h
    simp [repF_len h2]
def dSetF (T : List Str) (i : Nat) (f : Str) (de : Ev → RE X) : Ev → RS := fun env => (de env).stm fun x e1 => match frz x, e1[i]? with
  | some d, some (.ow p (.ob c fs)) => if c ∈ T ∧ fs.length < 900 then .nx (e1.set i (.ow p (.ob c (putFD f d fs)))) else .bad
  | _, _ => .bad
theorem ds_setF {i : Nat} {f : Str} (hT : FldT K T f) (h : DE K W te de) : DS K W (sFld K (tVar i) te f) (dSetF T i f de) := fun M σ H env hh => by
  refine Sat.stm (c := fun y H1 D => tVar i σ H1 fun x H2 => ∃ a C dx fs, x = V.ref a ∧ H2 a = some (.ins C dx fs) ∧ Cls K C ∧ NoAttr K C f ∧ fs.length < 1000 ∧ D.nx σ (upd H2 a (.ins C dx (putF f y fs)))) hh (h M σ H env hh) (fun D q => q) fun M1 H1 env1 x v g1 s1 hh1 r1 => ?_
  cases e1 : frz x with
  | none => trivial
  | some d =>
    cases e2 : env1[i]? with
    | none => trivial
    | some sl =>
      cases sl with
      | ow p o =>
        cases o with
        | ob c fs =>
          show SatS K W M σ H env (if c ∈ T ∧ fs.length < 900 then RS.nx (env1.set i (.ow p (.ob c (putFD f d fs)))) else .bad) _
          by_cases hc : c ∈ T ∧ fs.length < 900
          · rw [if_pos hc]
            intro D k
            have gz := frzM_grow g1
            have hz := frzM_holds (H := H) hh1
            have rd := frz_rep r1 e1
            obtain ⟨l, es, a0, m0⟩ := hz.slot i _ e2
            obtain ⟨dx, fvs, h1, h2⟩ := a0
            have az : At K (frzM M1 H H1 env1 σ) (upd H1 l (.ins (He.ga K c) dx (putF f v fvs))) l (.ob c (putFD f d fs)) := ⟨dx, _, upd_same, repF_put rd h2⟩
            obtain ⟨w1, w2, w3⟩ := own_write hz e2 es az
            exact ⟨_, es, l, _, dx, fvs, rfl, h1, (hT c hc.1).1, (hT c hc.1).2, by have := repF_len h2; omega, k σ _ _ (gz.trans hh w2) w1⟩
          · rw [if_neg hc]
            trivial
        | _ => trivial
      | _ => trivial
end
section
variable {X : Cx} {CX : CXT} {K : Fg} [WD K] {P : Program} {w : World} {mg : Str → Option Value} {base : Heap} {k : Nat} {tab : Str → Option (Ev → RE Dn.X)} {E : L2.St → XK} {m c f : Str} {p pos pos' apos : Pos} {e o value : Expr} {es : List Expr} {ta tv : TE} {t : TA} {den : Ev → RE Dn.X}
theorem pe_fldF (cx : CxIs X K P w mg base) (he : PE X e ta) (hb : attributeBase e f X.env (eval e X.env) = eval e X.env := by rfl) : PE X (.Attribute e f pos) (tFld K ta f) := by
  obtain ⟨rfl, rfl, rfl, rfl, rfl⟩ := cx
  exact pe_fld he hb
theorem ps_fldF (cx : CxIs X K P w mg base) (ha : PE X o ta) (hv : PE X value tv) (hs : swapsWith value (some (.Attribute o f pos')) pos.line X.env = pure false := by rfl) : PS X (.Assign [.Attribute o f pos'] value pos) (sFld K ta tv f) := by
  obtain ⟨rfl, rfl, rfl, rfl, rfl⟩ := cx
  exact ps_fld ha hv hs
/-! ### C() without an own __init__ -/
structure Mk0 (K : Fg) (C : Addr) : Prop where
  makes : PySem.W.makesIn K C = true
  init : PySem.W.findIn K (.ref C) "__init__" = some (some (.builtin "object.__init__"))
  kp : PySem.W.keepIn K (.ref C) = true
def tMake0 (K : Fg) (c : Str) : TE := fun _ H Q => ∀ x dx, H x = none → H dx = none → dx ≠ x → Q (.ref x) (upd (upd H dx (.own x)) x (.ins (He.ga K c) dx []))
theorem run_make0 {C : Addr} {σ : L2.St} {pins : List (Addr × Obj)} {H : Hp} {s : Shared} {Q : VK} (M : Mk0 X.K C) (I : Inv X pins σ H s)
    (h : ∀ x dx, H x = none → H dx = none → dx ≠ x → Q (.ref x) (upd (upd H dx (.own x)) x (.ins C dx []))) : wpAny (model X.prog X.w) X.A (call (.ref C) []) (EP X pins σ Q) X.xe s := by
  have hq := h (s.heap.objs.size + 1) s.heap.objs.size (I.hok.fresh (Nat.le_succ _)) (I.hok.fresh (Nat.le_refl _)) (Nat.ne_of_lt (Nat.lt_succ_self _))
  have I2 := Inv.made (C := C) I
  have Y := PySem.W.makes_of (M := model X.prog X.w) I.kIn M.makes
  have g1 : ((s.heap.push PySem.W.emptyDict).push (PySem.W.instObj C s.heap.objs.size)).get? (s.heap.objs.size + 1) = some (PySem.W.instObj C s.heap.objs.size) := by
    have := Heap.get?_push_size (s.heap.push PySem.W.emptyDict) (o := PySem.W.instObj C s.heap.objs.size) rfl
    rwa [Heap.size_push] at this
  obtain ⟨hh, g, d, t, os⟩ := s
  refine wpAny_call (make_map0 (s := ⟨hh, g, d, t, os⟩) I.kIn M.makes M.init (fun self => PySem.W.Looks.of_pure (PySem.W.oi_bind self)) ?_)
  have t1 : PySem.W.Looks (model X.prog X.w) ((hh.push PySem.W.emptyDict).push (PySem.W.instObj C hh.objs.size)) (typeOf (.ref (hh.objs.size + 1))) (.ref C) := (PySem.W.Looks.ld g1).andThen .now
  have t2 : PySem.W.Looks (model X.prog X.w) ((hh.push PySem.W.emptyDict).push (PySem.W.instObj C hh.objs.size)) (isInstance (.ref (hh.objs.size + 1)) (.type "object")) true := t1.andThen (Y.top.keeps fun b o e => Heap.get?_push_of_some _ (Heap.get?_push_of_some _ e))
  refine codeAny_call_builtin PySem.W.oi_plain PySem.W.entry_oi (@PySem.W.check_slot (model X.prog X.w) _ _ _ "object.__init__" "object" "__init__" (.ref (hh.objs.size + 1)) [] [] _ PySem.W.oi_kind PySem.W.oi_split t2 (PySem.W.oi_args (.ref (hh.objs.size + 1))) ?_)
  rw [PySem.W.oi_run]
  exact wpAny_pure ⟨rfl, ⟨V.ref (hh.objs.size + 1), _, I2, rfl, hq⟩⟩
theorem pe_make0F (cx : CxIs X K P w mg base) (hm : Mk0 K (He.ga K c) ∧ mg c = some (.ref (He.ga K c))) (hg : Gl X c) (hdb : (c == ("__debug__" : Str)) = false := by decide) : PE X (.Call (.Name c p) [] [] pos) (tMake0 K c) := by
  obtain ⟨rfl, rfl, rfl, rfl, rfl⟩ := cx
  obtain ⟨M, hmg⟩ := hm
  refine ⟨fun pins s σ H Q I h => ?_⟩
  refine wpAny_Call_Name_kw (ld_glob I hg hmg ?_ hdb)
  exact PySem.W.callWith_K0 I.kIn M.kp (run_make0 M I h)
end
def dMake0 (c : Str) : Ev → RE X := fun env => .ok (.ow (.ob c [])) env
section
variable {K : Fg} [WD K] {W : WS}
theorem de_make0 {c : Str} : DE K W (tMake0 K c) (dMake0 c) := fun M σ H env hh Q k x dx h1 h2 ne => by
  have same : Same H (upd (upd H dx (.own x)) x (.ins (He.ga K c) dx [])) := fun b o e => by
    rw [upd_ne (ne_of_none e h1), upd_ne (ne_of_none e h2)]
    exact e
  have ex : Ext M H M (upd (upd H dx (.own x)) x (.ins (He.ga K c) dx [])) := ⟨Same.refl M, same, fun l o e => .inl e, fun l o e => same _ _ (hh.ex _ _ e)⟩
  refine k _ _ _ (ex.grow hh) (.refl _) (ex.holds hh) ⟨⟨x, rfl, ⟨dx, [], upd_same, by simp [RepF]⟩, ?_, fun z => ?_⟩, fun o z l e => ?_⟩
  · cases q : M x with
    | none => rfl
    | some o =>
      have := hh.ex _ _ q
      rw [h1] at this
      cases this
  · obtain ⟨u, q⟩ := hh.ownSome z
    rw [h1] at q
    cases q
  · cases e
    exact h1
end
end Dn

namespace PySem.W
open PySem PySem.Spec PySem.Calls PyProof.Rows
section
variable {prog : Program} {w : World} {A : Around} {E : Value → Shared → Prop} {s : Shared} {K : Frag} {x y C C2 L f f2 : Addr} {h₀ : Heap} {m : Str → Option Value} {ox oy : Obj} {od od2 : Option Obj}
/-- two own classes, neither above the other -/
theorem dn_binTwo {op : Operator} {rc rc2 : Option Value} {Q : Value → Shared → Prop} (F : Fr h₀ L s.heap m) (X₀ : K.In h₀) (I : InstAt s.heap x ox C od) (J : InstAt s.heap y oy C2 od2) (hne : C2 ≠ C) (hc : selfFirst K C = true) (hc2 : selfFirst K C2 = true)
    (hs : findIn K (.ref C) (PySem.dunder op.info.2) = some (some (.ref f))) (hf : isFn K (.ref f) = true) (hr : findIn K (.ref C) (dunderR op.info.2) = some rc) (hp : rc = none ∨ ∃ g : Addr, rc = some (.ref g))
    (hs2 : findIn K (.ref C2) (PySem.dunder op.info.2) = some (some (.ref f2))) (hr2 : findIn K (.ref C2) (dunderR op.info.2) = some rc2) (hp2 : rc2 = none ∨ ∃ g : Addr, rc2 = some (.ref g)) (hsub : subIn K (.ref C2) (.ref C) = some false)
    (h : wpAny (model prog w) A (call (.ref f) [.ref x, .ref y]) (CmpBack Q) E s) : wpAny (model prog w) A (binaryOp op (.ref x) (.ref y)) Q E s := by
  have X := X₀.keeps F.keep
  obtain ⟨cd, rest, hcd, hm⟩ := ksp_first hc
  obtain ⟨cd2, rest2, hcd2, hm2⟩ := ksp_first hc2
  rcases hi : op.info with ⟨sym, nm'⟩
  rw [hi] at hs hr hs2 hr2
  dsimp only at hs hr hs2 hr2
  have one := ksp_try X I hs hf h
  obtain ⟨hh, g, d, tt, os⟩ := s
  have L1 : Looks (model prog w) hh (typeOf (.ref x)) (.ref C) := I.type
  have L2 : Looks (model prog w) hh (typeOf (.ref y)) (.ref C2) := J.type
  have L3 : Looks (model prog w) hh (fillsNumberSlot (.ref C) nm') true := fills_K X hcd hm hs
  have L4 : Looks (model prog w) hh (fillsNumberSlot (.ref C2) nm') true := fills_K X hcd2 hm2 hs2
  have L5 : Looks (model prog w) hh (isSubtype (.ref C2) (.ref C)) false := looks_subIn X hsub
  have L6 : Looks (model prog w) hh (numberSlotInPython (.ref C) nm') true := ksp_inPy X hs hr hp
  have L7 : Looks (model prog w) hh (numberSlotInPython (.ref C2) nm') true := ksp_inPy X hs2 hr2 hp2
  have hne' : (Value.ref C == Value.ref C2) = false := Bool.eq_false_iff.mpr fun q => hne (by cases beq_iff_eq.mp q; rfl)
  simp only [binaryOp, hi]
  refine wpAny_holding (wpAny_bind ?_)
  unfold binaryOp1
  refine wpAny_bind (L1.at (wpAny_bind (L2.at (wpAny_bind (L3.at ?_)))))
  simp only [hne', Bool.false_eq_true, if_false]
  ksp_lk
  refine wpAny_mono one (fun r s' hr' => ?_) fun _ _ e => e
  obtain ⟨v, rfl, hq⟩ := hr'
  ksp_lk
  exact hq
end
end PySem.W
namespace Dn
open PySem PySem.Spec PyProof.Rows L2 NdefX
/-! ### operators that may call -/
abbrev R2S := L2.St → R2
def OpRS (X : Cx) (f : Value → Value → Sem Value) (r : R2S) : Prop :=
  ∀ (pins : List (Addr × Obj)) (s : Shared) (σ : L2.St) (H : Hp) (x y : V) (v u : Value) (Q : VK), Inv X pins σ H s → RelV x v → RelV y u → r σ x y H Q → wpAny (model X.prog X.w) X.A (f v u) (EP X pins σ Q) X.xe s
theorem OpRS.of {X : Cx} {f : Value → Value → Sem Value} {r : R2} (h : OpR X f r) : OpRS X f (fun _ => r) := fun pins s σ H x y v u Q I rx ry q => h pins s σ H x y v u Q I rx ry q
theorem OpRS.or {X : Cx} {f : Value → Value → Sem Value} {r r' : R2S} (h : OpRS X f r) (h' : OpRS X f r') : OpRS X f (fun σ x y H Q => r σ x y H Q ∨ r' σ x y H Q) := fun pins s σ H x y v u Q I rx ry q => by
  rcases q with q | q
  · exact h pins s σ H x y v u Q I rx ry q
  · exact h' pins s σ H x y v u Q I rx ry q
def tOpS (r : R2S) (ta tb : TE) : TE := fun σ H Q => ta σ H fun x H1 => tb σ H1 fun y H2 => r σ x y H2 Q
section
variable {X : Cx} {a b : Expr} {ta tb : TE} {pos : Pos}
theorem pe_opS {op : Operator} {r : R2S} (ho : OpRS X (binaryOp op) r) (ha : PE X a ta) (hb : PE X b tb) : PE X (.BinOp a op b pos) (tOpS r ta tb) := by
  refine ⟨fun pins s σ H Q I h => ?_⟩
  exact wpAny_BinOp (thn (ha.run pins s σ H _ I h) fun v s1 ⟨x, H1, I1, r1, q1⟩ => thn (hb.run pins s1 σ H1 _ I1 q1) fun u s2 ⟨y, H2, I2, r2, q2⟩ => ho pins s2 σ H2 x y v u Q I2 r1 r2 q2)
theorem pe_cmpRS {op : CmpOp} {r : R2S} (ho : OpRS X (compareOp op) r) (ha : PE X a ta) (hb : PE X b tb) (hm : behindInMarks op b = false) : PE X (.Compare a [op] [b] pos) (tOpS r ta tb) := by
  refine ⟨fun pins s σ H Q I h => ?_⟩
  exact wpAny_Compare1 (thn (ha.run pins s σ H _ I h) fun v s1 ⟨x, H1, I1, r1, q1⟩ => thn (hb.run pins s1 σ H1 _ I1 q1) fun u s2 ⟨y, H2, I2, r2, q2⟩ => ho pins s2 σ H2 x y v u Q I2 r1 r2 q2) hm
theorem pt_cmpRS {op : CmpOp} {r : R2S} (ho : OpRS X (compareOp op) r) (ha : PE X a ta) (hb : PE X b tb) (hm : behindInMarks op b = false) : PT X (.Compare a [op] [b] pos) (tTest (tOpS r ta tb)) := by
  refine ⟨fun pins s σ H Q I h => ?_⟩
  refine wpAny_isTrue_Compare1 (thn (ha.run pins s σ H _ I h) fun v s1 ⟨x, H1, I1, r1, q1⟩ => thn (hb.run pins s1 σ H1 _ I1 q1) fun u s2 ⟨y, H2, I2, r2, q2⟩ =>
    thn (ho pins s2 σ H2 x y v u _ I2 r1 r2 q2) fun c s3 ⟨z, H3, I3, r3, k, e, q3⟩ => ?_) hm
  subst e
  cases r3
  exact wpAny_truthy_bool ⟨H3, I3, q3⟩
end
/-- what is at hand behind both operands -/
def OpOkS (K : Fg) [WD K] (W : WS) (r : R2S) (g : X → X → Ev → RE X) : Prop := ∀ (M : Hp) (σ : L2.St) (H : Hp) (env : Ev) (M1 H1 : Hp) (env1 : Ev) (x y : X) (v u : V), Holds K M env σ H → Grow M env σ H M1 env1 σ H1 → Shape env env1 → Holds K M1 env1 σ H1 →
  RX K σ H M1 H1 env1 x v → RX K σ H M1 H1 env1 y u → ∀ Q : VK, KX K (W σ) M σ H env Q (g x y env1) → r σ v u H1 Q
def dOpS (g : X → X → Ev → RE X) (da db : Ev → RE X) : Ev → RE X := fun env => (da env).bind fun x e1 => (db e1).bind fun y e2 => g x y e2
section
variable {K : Fg} [WD K] {W : WS} {E : XK} {M M' M1 M2 : Hp} {env env' env1 env2 : Ev} {σ σ' σ1 : L2.St} {H H' H1 H2 : Hp} {x y : X} {v u : V} {xs : List X} {vs : List V} {Q : VK} {ta tb : TE} {da db : Ev → RE X}
theorem de_opS {r : R2S} {g : X → X → Ev → RE X} (ho : OpOkS K W r g) (ha : DE K W ta da) (hb : DE K W tb db) : DE K W (tOpS r ta tb) (dOpS g da db) := fun M σ H env hh => by
  refine Sat.bindG (c := fun v H1 Q => tb σ H1 fun u H2 => r σ v u H2 Q) (ha M σ H env hh) (fun Q q => q) fun M1 H1 env1 x v g1 s1 hh1 r1 => ?_
  have h2 := hb M1 σ H1 env1 hh1
  cases e2 : db env1 with
  | bad => trivial
  | exc e env2 =>
    rw [e2] at h2
    exact fun Q k => h2 _ fun cls d M2 H2 g2 s2 hh2 re => k cls d M2 H2 (g1.trans hh g2) (s1.trans s2) hh2 re
  | ok y env2 =>
    rw [e2] at h2
    refine sat_of fun Q k => h2 _ fun u M2 H2 g2 s2 hh2 r2 => ?_
    exact ho M σ H env M2 H2 env2 x y v u hh (g1.trans hh g2) (s1.trans s2) hh2 ⟨RepX.grow hh1 r1.1 g2 s2, r1.2⟩ (back_x _ _ _ _ _ _ _ g1.dom r2) Q k
theorem kx_fin {o : Option X} (hh : Holds K M env σ H) (g1 : Grow M env σ H M1 env1 σ H1) (s1 : Shape env env1) (hh1 : Holds K M1 env1 σ H1) (k : KX K E M σ H env Q (opt o env1)) : ∃ z, o = some z ∧ Fin K M1 H1 z Q := by
  cases o with
  | none => exact k.elim
  | some z =>
    refine ⟨z, rfl, fun w M2 H2 ex hn rn => k w M2 H2 (g1.trans hh (ex.grow hh1)) s1 (ex.holds hh1) ⟨repN_x hh1 ex hn rn, fun o e l el => g1.dom l (hn o e l el)⟩⟩
def gOp (f : D → D → Option X) : X → X → Ev → RE X := fun x y e => opt ((rd e x).bind fun dx => (rd e y).bind fun dy => f dx dy) e
theorem okS_of {r : R2} {f : D → D → Option X} (h : OpOk K r f) : OpOkS K W (fun _ => r) (gOp f) := fun M σ H env M1 H1 env1 x y v u hh g1 s1 hh1 rx ry Q k => by
  obtain ⟨z, e, q⟩ := kx_fin hh g1 s1 hh1 k
  obtain ⟨dx, e1, e⟩ := Option.bind_eq_some_iff.mp e
  obtain ⟨dy, e2, e⟩ := Option.bind_eq_some_iff.mp e
  exact h M1 H1 dx dy z v u hh1.ex (rd_ok hh1 rx.1 e1) (rd_ok hh1 ry.1 e2) e Q q
/-- one or the other, by a look at the operands -/
def gIf (b : X → X → Ev → Bool) (g g' : X → X → Ev → RE X) : X → X → Ev → RE X := fun x y e => if b x y e = true then g x y e else g' x y e
theorem okS_if {r r' : R2S} {g g' : X → X → Ev → RE X} {b : X → X → Ev → Bool} (h : OpOkS K W r g) (h' : OpOkS K W r' g') : OpOkS K W (fun σ x y H Q => r σ x y H Q ∨ r' σ x y H Q) (gIf b g g') := fun M σ H env M1 H1 env1 x y v u hh g1 s1 hh1 rx ry Q k => by
  unfold gIf at k
  split at k
  · exact .inl (h M σ H env M1 H1 env1 x y v u hh g1 s1 hh1 rx ry Q k)
  · exact .inr (h' M σ H env M1 H1 env1 x y v u hh g1 s1 hh1 rx ry Q k)
/-! ### in, by an own __contains__ -/
def rInO (K : Fg) [WD K] (tab : Str → Option (Ev → RE X)) (E : L2.St → XK) (neg : Bool) : R2S := fun σ y x H Q => ∃ a dx fs c den, x = .ref a ∧ H a = some (.ins (He.ga K c) dx fs) ∧ tab c = some den ∧ spD K den [x, y] H (fun v H' => ∃ b, v = .bl b ∧ Q (.bl (if neg then !b else b)) H') (E σ)
/-- the answer is turned into a bool -/
def RE.bl (neg : Bool) : RE X → RE X
  | .ok (.im (.bl b)) e => .ok (.im (.bl (if neg then !b else b))) e
  | .exc c e => .exc c e
  | _ => .bad
def gInO (tab : Str → Option (Ev → RE X)) (neg : Bool) : X → X → Ev → RE X := fun y x e => match recvX e x with
  | none => .bad
  | some (c, _) => match tab c with
    | none => .bad
    | some den => (callD den [x, y] e).bl neg
theorem okS_inO {tab : Str → Option (Ev → RE X)} {neg : Bool} (ht : ∀ c den, tab c = some den → NoSl den) : OpOkS K W (rInO K tab W neg) (gInO tab neg) := fun M σ H env M1 H1 env1 y x u v hh g1 s1 hh1 ry rx Q k => by
  unfold gInO at k
  cases e1 : recvX env1 x with
  | none => rw [e1] at k; exact k.elim
  | some cf =>
    obtain ⟨c, fs⟩ := cf
    rw [e1] at k
    obtain ⟨a, dx, fvs, rfl, ea, rf⟩ := recv_ok hh1 rx.1 e1
    have k : KX K (W σ) M σ H env Q (match tab c with
      | none => .bad
      | some den => (callD den [x, y] env1).bl neg) := k
    cases e2 : tab c with
    | none => rw [e2] at k; exact k.elim
    | some den =>
      rw [e2] at k
      have k : KX K (W σ) M σ H env Q ((callD den [x, y] env1).bl neg) := k
      refine ⟨a, dx, fvs, c, den, rfl, ea, e2, call_mid (ht c den e2) hh g1 s1 hh1 (Paired.cons rx (Paired.cons ry Paired.nil)) ?_⟩
      cases e3 : callD den [x, y] env1 with
      | bad => rw [e3] at k; exact k.elim
      | exc e e2 => rw [e3] at k; exact k
      | ok z e2 =>
        rw [e3] at k
        have k : KX K (W σ) M σ H env Q (RE.bl neg (.ok z e2)) := k
        cases z with
        | im d =>
          cases d with
          | bl b =>
            intro w M2 H2 g2 s2 hh2 rz
            have : w = .bl b := by simpa [RepX, Rep] using rz.1
            exact ⟨b, this, k _ M2 H2 g2 s2 hh2 (rx_im rep_bl)⟩
          | _ => exact k.elim
        | _ => exact k.elim
/-! ### x op y, by an own method of x's class -/
structure BinC (K : Fg) (C : Addr) (nm : String) : Prop where
  first : PySem.W.selfFirst K C = true
  r : ∃ rc, PySem.W.findIn K (.ref C) (dunderR nm) = some rc ∧ (rc = none ∨ ∃ g : Addr, rc = some (.ref g))
/-- the classes of R may stand beside each other -/
def BinR (K : Fg) (R : List Str) (nm : String) : Prop := (∀ c ∈ R, BinC K (He.ga K c) nm) ∧ ∀ c ∈ R, ∀ d ∈ R, d ≠ c → PySem.W.subIn K (.ref (He.ga K d)) (.ref (He.ga K c)) = some false
def rBinO (K : Fg) [WD K] (R : List Str) (tab : Str → Option (Ev → RE X)) (E : L2.St → XK) : R2S := fun σ x y H Q => ∃ a dx fs c den, x = .ref a ∧ H a = some (.ins (He.ga K c) dx fs) ∧ tab c = some den ∧ c ∈ R ∧ (∃ b dy gs c2 den2, y = .ref b ∧ H b = some (.ins (He.ga K c2) dy gs) ∧ c2 ∈ R ∧ tab c2 = some den2) ∧ spD K den [x, y] H Q (E σ)
def gBinO (R : List Str) (tab : Str → Option (Ev → RE X)) : X → X → Ev → RE X := fun x y e => match recvX e x, recvX e y with
  | some (c, _), some (c2, _) => match tab c, tab c2 with
    | some den, some _ => if c ∈ R ∧ c2 ∈ R then callD den [x, y] e else .bad
    | _, _ => .bad
  | _, _ => .bad
theorem okS_binO {R : List Str} {tab : Str → Option (Ev → RE X)} (ht : ∀ c den, tab c = some den → NoSl den) : OpOkS K W (rBinO K R tab W) (gBinO R tab) := fun M σ H env M1 H1 env1 x y v u hh g1 s1 hh1 rx ry Q k => by
  unfold gBinO at k
  cases e1 : recvX env1 x with
  | none => rw [e1] at k; exact k.elim
  | some cf =>
    obtain ⟨c, fs⟩ := cf
    cases e2 : recvX env1 y with
    | none => rw [e1, e2] at k; exact k.elim
    | some cf2 =>
      obtain ⟨c2, fs2⟩ := cf2
      rw [e1, e2] at k
      obtain ⟨a, dx, fvs, rfl, ea, rf⟩ := recv_ok hh1 rx.1 e1
      obtain ⟨b, dy, gvs, rfl, eb, rg⟩ := recv_ok hh1 ry.1 e2
      have k : KX K (W σ) M σ H env Q (match tab c, tab c2 with
        | some den, some _ => if c ∈ R ∧ c2 ∈ R then callD den [x, y] env1 else .bad
        | _, _ => .bad) := k
      cases e3 : tab c with
      | none => rw [e3] at k; exact k.elim
      | some den =>
        cases e4 : tab c2 with
        | none => rw [e3, e4] at k; exact k.elim
        | some den2 =>
          rw [e3, e4] at k
          have k : KX K (W σ) M σ H env Q (if c ∈ R ∧ c2 ∈ R then callD den [x, y] env1 else .bad) := k
          by_cases hc : c ∈ R ∧ c2 ∈ R
          · rw [if_pos hc] at k
            exact ⟨a, dx, fvs, c, den, rfl, ea, e3, hc.1, ⟨b, dy, gvs, c2, den2, rfl, eb, hc.2, e4⟩, call_mid (ht c den e3) hh g1 s1 hh1 (Paired.cons rx (Paired.cons ry Paired.nil)) k⟩
          · rw [if_neg hc] at k
            exact k.elim
/-! ### op x -/
def tUnO (K : Fg) [WD K] (tab : Str → Option (Ev → RE X)) (E : L2.St → XK) (ta : TE) : TE := fun σ H Q => ta σ H fun x H1 => ∃ a dx fs c den, x = .ref a ∧ H1 a = some (.ins (He.ga K c) dx fs) ∧ tab c = some den ∧ spD K den [x] H1 Q (E σ)
def dUnO (tab : Str → Option (Ev → RE X)) (de : Ev → RE X) : Ev → RE X := fun env => (de env).bind fun x e1 => match recvX e1 x with
  | none => .bad
  | some (c, _) => match tab c with
    | none => .bad
    | some den => callD den [x] e1
theorem de_unO {tab : Str → Option (Ev → RE X)} (ht : ∀ c den, tab c = some den → NoSl den) (h : DE K W ta da) : DE K W (tUnO K tab W ta) (dUnO tab da) := fun M σ H env hh => by
  refine Sat.bindG (c := fun x H1 Q => ∃ a dx fs c den, x = V.ref a ∧ H1 a = some (.ins (He.ga K c) dx fs) ∧ tab c = some den ∧ spD K den [x] H1 Q (W σ)) (h M σ H env hh) (fun Q q => q) fun M1 H1 env1 x v g1 s1 hh1 r1 => ?_
  refine sat_of fun Q k => ?_
  cases e1 : recvX env1 x with
  | none => rw [e1] at k; exact k.elim
  | some cf =>
    obtain ⟨c, fs⟩ := cf
    rw [e1] at k
    obtain ⟨a, dx, fvs, rfl, ea, rf⟩ := recv_ok hh1 r1.1 e1
    have k : KX K (W σ) M σ H env Q (match tab c with
      | none => .bad
      | some den => callD den [x] env1) := k
    cases e2 : tab c with
    | none => rw [e2] at k; exact k.elim
    | some den =>
      rw [e2] at k
      exact ⟨a, dx, fvs, c, den, rfl, ea, e2, call_mid (ht c den e2) hh g1 s1 hh1 (Paired.cons r1 Paired.nil) k⟩
end
section
variable {X : Cx} {CX : CXT} {K : Fg} [WD K] {P : Program} {w : World} {mg : Str → Option Value} {base : Heap} {k : Nat} {tab : Str → Option (Ev → RE Dn.X)} {E : L2.St → XK} {m : Str} {pos : Pos} {o : Expr} {ta : TE}
theorem ops_in (cx : CxIs X K P w mg base) (ht : ∀ c den, tab c = some den → MethF CX P w K mg base k c "__contains__" den) (hr : Room k X.A) (hx : ∀ σ, PassesAt CX X σ (E σ)) : OpRS X (compareOp .In) (rInO K tab E false) := fun pins s σ H y x u v Q I ry rx ⟨a, dx, fs, c, den, ex, ea, et, q⟩ => by
  obtain ⟨rfl, rfl, rfl, rfl, rfl⟩ := cx
  subst ex
  obtain rfl : v = Value.ref a := rx
  obtain ⟨f, c1, hm, F, _⟩ := ht c den et
  obtain ⟨mA, O, _⟩ := ins_get I.hok ea
  obtain ⟨od, J, _⟩ := O.look
  obtain ⟨mm, hF⟩ := I.fr
  refine PySem.W.in_K hF I.ok.mod.kin J hm.at_ hm.fn (thn (wpAny_call (run_fnRS (us := [.ref a, u]) (vs := [.ref a, y]) F hr (hx σ) I (.cons rfl (.cons ry .nil)) q)) fun z s2 ⟨w2, H2, I2, rz, b, ew, q2⟩ => ?_)
  subst ew
  cases rz
  exact wpAny_truthy_bool ⟨V.bl b, H2, I2, rfl, q2⟩
theorem ops_notIn (cx : CxIs X K P w mg base) (ht : ∀ c den, tab c = some den → MethF CX P w K mg base k c "__contains__" den) (hr : Room k X.A) (hx : ∀ σ, PassesAt CX X σ (E σ)) : OpRS X (compareOp .NotIn) (rInO K tab E true) := fun pins s σ H y x u v Q I ry rx ⟨a, dx, fs, c, den, ex, ea, et, q⟩ => by
  obtain ⟨rfl, rfl, rfl, rfl, rfl⟩ := cx
  subst ex
  obtain rfl : v = Value.ref a := rx
  obtain ⟨f, c1, hm, F, _⟩ := ht c den et
  obtain ⟨mA, O, _⟩ := ins_get I.hok ea
  obtain ⟨od, J, _⟩ := O.look
  obtain ⟨mm, hF⟩ := I.fr
  refine PySem.W.notIn_K hF I.ok.mod.kin J hm.at_ hm.fn (thn (wpAny_call (run_fnRS (us := [.ref a, u]) (vs := [.ref a, y]) F hr (hx σ) I (.cons rfl (.cons ry .nil)) q)) fun z s2 ⟨w2, H2, I2, rz, b, ew, q2⟩ => ?_)
  subst ew
  cases rz
  exact wpAny_truthy_bool ⟨V.bl (!b), H2, I2, rfl, q2⟩
theorem cmpBack_of {pins : List (Addr × Obj)} {σ : L2.St} {Q : VK} {u : Value} {s : Shared} (h : EP X pins σ Q u s) : PySem.W.CmpBack (EP X pins σ Q) u s := by
  obtain ⟨v, H', I, r, q⟩ := h
  cases v with
  | non => cases (show u = Value.none from r); exact ⟨V.non, H', I, rfl, q⟩
  | bl b => cases (show u = Value.bool b from r); exact ⟨V.bl b, H', I, rfl, q⟩
  | int i => obtain ⟨t, e⟩ := (show ∃ t, u = Value.int i t from r); cases e; exact ⟨V.int i, H', I, ⟨t, rfl⟩, q⟩
  | str x => obtain ⟨t, e⟩ := (show ∃ t, u = Value.str x t from r); cases e; exact ⟨V.str x, H', I, ⟨t, rfl⟩, q⟩
  | byt b => obtain ⟨t, e⟩ := (show ∃ t, u = Value.bytes b t from r); cases e; exact ⟨V.byt b, H', I, ⟨t, rfl⟩, q⟩
  | flt b => obtain ⟨t, e⟩ := (show ∃ t, u = Value.float b t from r); cases e; exact ⟨V.flt b, H', I, ⟨t, rfl⟩, q⟩
  | ref a => cases (show u = Value.ref a from r); exact ⟨V.ref a, H', I, rfl, q⟩
  | ty n => cases (show u = Value.type n from r); exact ⟨V.ty n, H', I, rfl, q⟩
theorem ops_bin {op : Operator} {R : List Str} (cx : CxIs X K P w mg base) (hR : BinR K R op.info.2) (ht : ∀ c den, tab c = some den → MethF CX P w K mg base k c (PySem.dunder op.info.2) den) (hr : Room k X.A) (hx : ∀ σ, PassesAt CX X σ (E σ)) : OpRS X (binaryOp op) (rBinO K R tab E) :=
    fun pins s σ H x y v u Q I rx ry ⟨a, dx, fs, c, den, ex, ea, et, hc, ⟨b, dy, gs, c2, den2, ey, eb, hc2, et2⟩, q⟩ => by
  obtain ⟨rfl, rfl, rfl, rfl, rfl⟩ := cx
  subst ex ey
  obtain rfl : v = Value.ref a := rx
  obtain rfl : u = Value.ref b := ry
  obtain ⟨f, c1, hm, F, _⟩ := ht c den et
  obtain ⟨f2, _, hm2, _, _⟩ := ht c2 den2 et2
  obtain ⟨mA, O, _⟩ := ins_get I.hok ea
  obtain ⟨od, J, _⟩ := O.look
  obtain ⟨mB, O2, _⟩ := ins_get I.hok eb
  obtain ⟨od2, J2, _⟩ := O2.look
  obtain ⟨mm, hF⟩ := I.fr
  have call := thn (wpAny_call (run_fnRS (us := [.ref a, .ref b]) (vs := [.ref a, .ref b]) F hr (hx σ) I (.cons rfl (.cons rfl .nil)) q)) fun z s2 hz => cmpBack_of hz
  by_cases hC : He.ga X.K c2 = He.ga X.K c
  · exact PySem.W.binop_K hF I.ok.mod.kin J (by rw [← hC]; exact J2.type) (hR.1 c hc).first hm.at_ hm.fn call
  · obtain ⟨rc, h1, h2⟩ := (hR.1 c hc).r
    obtain ⟨rc2, h3, h4⟩ := (hR.1 c2 hc2).r
    exact PySem.W.dn_binTwo hF I.ok.mod.kin J J2 hC (hR.1 c hc).first (hR.1 c2 hc2).first hm.at_ hm.fn h1 h2 hm2.at_ h3 h4 (hR.2 c hc c2 hc2 fun z => hC (by rw [z])) call
theorem pe_invO (cx : CxIs X K P w mg base) (ht : ∀ c den, tab c = some den → MethF CX P w K mg base k c "__invert__" den) (hr : Room k X.A) (hx : ∀ σ, PassesAt CX X σ (E σ)) (ha : PE X o ta) : PE X (.UnaryOp .Invert o pos) (tUnO K tab E ta) := by
  obtain ⟨rfl, rfl, rfl, rfl, rfl⟩ := cx
  refine ⟨fun pins s σ H Q I h => ?_⟩
  refine UnaryOp_ (thn (ha.run pins s σ H _ I h) fun v s1 ⟨x, H1, I1, r1, a, dx, fs, c, den, ex, ea, et, q⟩ => ?_)
  subst ex
  obtain rfl : v = Value.ref a := r1
  obtain ⟨f, c1, hm, F, _⟩ := ht c den et
  obtain ⟨mA, O, _⟩ := ins_get I1.hok ea
  obtain ⟨od, J, _⟩ := O.look
  obtain ⟨mm, hF⟩ := I1.fr
  exact PySem.W.ksp_inv hF I1.ok.mod.kin J hm.at_ hm.fn (wpAny_call (run_fnRS (us := [.ref a]) (vs := [.ref a]) F hr (hx σ) I1 (.cons rfl .nil) q))
end
end Dn

namespace Dn
open PySem PySem.Spec PyProof.Rows L2 NdefX
/-! ### bodies that begin with more than their parameters -/
section
variable {K : Fg} [WD K] {W : WS} {M M' M1 M2 : Hp} {env env' env1 env2 ps : Ev} {σ σ' σ1 : L2.St} {H H' H1 H2 : Hp} {x y : X} {v u : V} {vs : List V}
theorem body_startR {N n : Nat} {rest : L2.St} (hrest : rest.length = N - n) (hh : Holds K M ps (sv vs) H) (hl : ps.length = n) : Holds K M (ps ++ List.replicate (N - n) .no) (sv vs ++ rest) H := by
  have hv : vs.length = n := by
    have := hh.len
    unfold sv at this
    rw [List.length_map] at this
    omega
  have hlv : (sv vs).length = n := by unfold sv; rw [List.length_map]; exact hv
  refine ⟨hh.ex, by simp [hlv, hl, hv, hrest], fun i s q => ?_, fun i j l p o p' o' hij q1 q2 q3 q4 => ?_⟩
  · by_cases hi : i < n
    · rw [List.getElem?_append_left (by omega)] at q ⊢
      exact hh.slot i s q
    · rw [List.getElem?_append_right (by omega)] at q
      have : s = .no := by
        have := List.mem_of_getElem? q
        exact (List.mem_replicate.mp this).2
      subst this
      trivial
  · have f : ∀ (i : Nat) (p : Bool) (o : OD), (ps ++ List.replicate (N - n) Sl.no)[i]? = some (Sl.ow p o) → i < n ∧ ps[i]? = some (Sl.ow p o) := fun i p o q => by
      by_cases hi : i < n
      · rw [List.getElem?_append_left (by omega)] at q
        exact ⟨hi, q⟩
      · rw [List.getElem?_append_right (by omega)] at q
        have := List.mem_of_getElem? q
        cases (List.mem_replicate.mp this).2
    obtain ⟨h1, e1⟩ := f i p o q1
    obtain ⟨h2, e2⟩ := f j p' o' q2
    rw [List.getElem?_append_left (by omega)] at q3 q4
    exact hh.dj i j l p o p' o' hij e1 e2 q3 q4
theorem body_endR {N n : Nat} {rest : L2.St} (hh : Holds K M ps (sv vs) H) (hl : ps.length = n) (hN : n ≤ N) (hp : ps.all Sl.par = true) (g : Grow M (ps ++ List.replicate (N - n) .no) (sv vs ++ rest) H M' env' σ' H') (hh' : Holds K M' env' σ' H') :
    Grow M ps (sv vs) H M' (backP ps env') (sv vs) H' ∧ Shape ps (backP ps env') ∧ Holds K M' (backP ps env') (sv vs) H' ∧ ∀ x v y, RX K σ' H M' H' env' x v → retX n env' x = some y → RX K (sv vs) H M' H' (backP ps env') y v := by
  have hv : vs.length = n := by
    have := hh.len
    unfold sv at this
    rw [List.length_map] at this
    omega
  have hlv : (sv vs).length = n := by unfold sv; rw [List.length_map]; exact hv
  have hle : env'.length = N := by rw [g.len]; simp [hl]; omega
  have hlp : ps.length ≤ env'.length := by omega
  have hl2 : (backP ps env').length = ps.length := by unfold backP; rw [List.length_zipWith]; omega
  have par : ∀ (i : Nat) (s : Sl), ps[i]? = some s → s.par = true := fun i s q => List.all_eq_true.mp hp s (List.mem_of_getElem? q)
  -- a lent object's slot
  have lent : ∀ (i : Nat) (p : Bool) (o : OD), ps[i]? = some (Sl.ow p o) → ∃ o', env'[i]? = some (Sl.ow p o') ∧ σ'[i]? = (sv vs)[i]? := fun i p o q => by
    have hi : i < n := by rw [← hl]; exact (List.getElem?_eq_some_iff.mp q).1
    have hp' : p = true := par i _ q
    subst hp'
    obtain ⟨e1, s', e2, k⟩ := g.pin i (.ow true o) (by rw [List.getElem?_append_left (by omega)]; exact q) rfl
    rw [List.getElem?_append_left (by omega)] at e1
    cases s' with
    | ow p' o' =>
      simp only [Sl.kind, Sl.ow.injEq, and_true] at k
      subst k
      exact ⟨o', e2, e1⟩
    | no => cases k
    | im d => cases k
    | hid => cases k
  have bk : ∀ (i : Nat) (p : Bool) (o : OD), (backP ps env')[i]? = some (Sl.ow p o) → ∃ o0, ps[i]? = some (Sl.ow p o0) ∧ env'[i]? = some (Sl.ow p o) ∧ σ'[i]? = (sv vs)[i]? := fun i p o q => by
    rw [backP_get hlp] at q
    cases e : ps[i]? with
    | none => rw [e] at q; cases q
    | some s =>
      rw [e] at q
      cases s with
      | no => cases q
      | im d => cases q
      | hid => cases q
      | ow p0 o0 =>
        obtain ⟨o', e1, e2⟩ := lent i p0 o0 e
        have q' : env'[i]? = some (Sl.ow p o) := q
        rw [e1] at q'
        cases q'
        exact ⟨o0, rfl, e1, e2⟩
  have own0 : ∀ l, Own (ps ++ List.replicate (N - n) Sl.no) (sv vs ++ rest) l → Own ps (sv vs) l := fun l ⟨i, p, o, q1, q2⟩ => by
    by_cases hi : i < n
    · rw [List.getElem?_append_left (by omega)] at q1 q2
      exact ⟨i, p, o, q1, q2⟩
    · rw [List.getElem?_append_right (by omega)] at q1
      have := List.mem_of_getElem? q1
      cases (List.mem_replicate.mp this).2
  have ownB : ∀ l, Own (backP ps env') (sv vs) l → Own env' σ' l := fun l ⟨i, p, o, q1, q2⟩ => by
    obtain ⟨o0, e0, e1, e2⟩ := bk i p o q1
    exact ⟨i, p, o, e1, e2.trans q2⟩
  refine ⟨⟨g.exM, fun l o q nn => g.fr l o q fun z => nn (own0 l z), fun l o q => (g.new l o q).imp id (Or.imp id (own0 l)), fun l ⟨i, p, o, q1, q2⟩ => ?_, fun i s q pn => ?_, g.dom, hl2⟩, ?_, ⟨hh'.ex, by rw [hlv, hl2, hl], fun i s q => ?_, fun i j l p o p' o' hij q1 q2 q3 q4 => ?_⟩, fun x v y r e => ?_⟩
  · obtain ⟨o0, e0, _⟩ := bk i p o q1
    exact .inl ⟨i, p, o0, e0, q2⟩
  · refine ⟨rfl, ?_⟩
    cases s with
    | ow p o =>
      obtain ⟨o', e1, e2⟩ := lent i p o q
      exact ⟨.ow p o', by rw [backP_get hlp, q]; exact e1, rfl⟩
    | no => cases pn
    | im d => cases pn
    | hid => exact nomatch (par i _ q)
  · show (backP ps env').map Sl.kind = ps.map Sl.kind
    apply List.ext_getElem?
    intro i
    rw [List.getElem?_map, List.getElem?_map, backP_get hlp]
    cases e : ps[i]? with
    | none => rfl
    | some s =>
      cases s with
      | ow p o =>
        obtain ⟨o', e1, _⟩ := lent i p o e
        show env'[i]?.map Sl.kind = _
        rw [e1]
        rfl
      | _ => rfl
  · rw [backP_get hlp] at q
    cases e : ps[i]? with
    | none => rw [e] at q; cases q
    | some s0 =>
      rw [e] at q
      cases s0 with
      | no => cases q; trivial
      | hid => cases q; trivial
      | im d =>
        cases q
        obtain ⟨u, e1, e2⟩ := hh.slot i _ e
        exact ⟨u, e1, Rep.mono g.exM _ _ e2⟩
      | ow p0 o0 =>
        obtain ⟨o', e1, e2⟩ := lent i p0 o0 e
        have q' : env'[i]? = some s := q
        have := hh'.slot i s q'
        rw [e2] at this
        exact this
  · obtain ⟨_, _, e1, e2⟩ := bk i p o q1
    obtain ⟨_, _, e3, e4⟩ := bk j p' o' q2
    exact hh'.dj i j l p o p' o' hij e1 e3 (e2.trans q3) (e4.trans q4)
  · obtain ⟨r, nx⟩ := r
    cases x with
    | im d =>
      cases e
      exact ⟨r, fun _ z => nomatch z⟩
    | ow o =>
      cases e
      obtain ⟨l, rfl, a, m, no⟩ := r
      exact ⟨⟨l, rfl, a, m, fun z => no (ownB l z)⟩, nx⟩
    | sl i =>
      have e' : (if i < n then none else match env'[i]? with
        | some (.ow _ o) => some (X.ow o)
        | _ => none) = some y := e
      by_cases hi : i < n
      · rw [if_pos hi] at e'; cases e'
      · rw [if_neg hi] at e'
        obtain ⟨⟨p, o, q1⟩, q2⟩ := r
        rw [q1] at e'
        cases e'
        obtain ⟨l, q3, a, m⟩ := hh'.slot i _ q1
        rw [q2] at q3
        cases q3
        have no : ¬ Own (backP ps env') (sv vs) l := fun ⟨j, p2, o2, t1, t2⟩ => by
          obtain ⟨o0, e0, e1, e2⟩ := bk j p2 o2 t1
          have hj : j < n := by rw [← hl]; exact (List.getElem?_eq_some_iff.mp e0).1
          exact hh'.dj j i l p2 o2 p o (by omega) e1 q1 (e2.trans t2) q2
        refine ⟨⟨l, rfl, a, m, no⟩, fun o2 z l2 e2 => ?_⟩
        cases e2
        rcases g.own l ⟨i, p, o, q1, q2⟩ with z | z
        · obtain ⟨j, p2, o2, t1, t2⟩ := own0 l z
          obtain ⟨o', e1, e2⟩ := lent j p2 o2 t1
          have hj : j < n := by rw [← hl]; exact (List.getElem?_eq_some_iff.mp t1).1
          exact (hh'.dj j i l p2 o' p o (by omega) e1 q1 (e2.trans t2) q2).elim
        · exact z
/-- a body's denotation is what the def does -/
theorem fn_bodyR {N : List Str} {n : Nat} {rest : L2.St} (hrest : rest.length = N.length - n) {t : TS} {ds : Ev → RS} {Q : VK} {E : XK} (hd : DS K (fun _ => E) t ds) (hs : spD K (fnM N.length n ds) vs H Q E) : t { nx := fun _ H' => Q .non H', rt := Q } (sv vs ++ rest) H := by
  obtain ⟨M, ps, hh, h⟩ := hs
  unfold fnM at h
  by_cases hc : ps.length = n ∧ n ≤ N.length ∧ ps.all Sl.par = true
  · rw [if_pos hc] at h
    obtain ⟨hl, hN, hp⟩ := hc
    have hh0 := body_startR (N := N.length) hrest hh hl
    have h1 := hd M _ H _ hh0
    cases e : ds (ps ++ List.replicate (N.length - n) .no) with
    | bad => rw [e] at h; exact h.elim
    | bk _ => rw [e] at h; exact h.elim
    | ct _ => rw [e] at h; exact h.elim
    | nx env' =>
      rw [e] at h h1
      refine h1 _ fun σ' M' H' g hh' => ?_
      obtain ⟨a, b, c, d⟩ := body_endR hh hl hN hp g hh'
      exact h .non M' H' a b c (rx_im rep_non)
    | exc x env' =>
      rw [e] at h h1
      refine h1 _ fun cls dd σ' M' H' g hh' r => ?_
      obtain ⟨a, b, c, d⟩ := body_endR hh hl hN hp g hh'
      exact h cls dd M' H' a b c r
    | rt x env' =>
      rw [e] at h h1
      have h2 : Post K M ps vs H Q E (opt (retX n env' x) (backP ps env')) := h
      cases e2 : retX n env' x with
      | none => rw [e2] at h2; exact h2.elim
      | some y =>
        rw [e2] at h2
        have h := h2
        refine h1 _ fun v σ' M' H' g hh' r => ?_
        obtain ⟨a, b, c, d⟩ := body_endR hh hl hN hp g hh'
        exact h v M' H' a b c (d x v y r e2)
  · rw [if_neg hc] at h
    exact h.elim
end
/-! ### functions and methods by their bodies -/
section
variable {P : Program} {w : World} {K : Fg} [WD K] {mg : Str → Option Value} {base : Heap} {X : Cx}
theorem mk_fnR {name qual : Str} {ps N : List Str} {k n nn : Nat} {st : Stmt} {f : Addr} {ds : Ev → RS} (F : ∃ fd, FunD K name qual (defArgs st) (defBody st) (defScope st) [] [] f fd) (S : FnScope N ps (defScope st)) (hn : ps.length = n) (hN : N.length = nn)
    (b : ∀ (kV doc pm : Value) (an : Option Addr) (cdv ct : Value) (us : List Value), us.length = ps.length → bindArgs (PySem.W.fnOf name qual (defArgs st) (defBody st) (defScope st) .none kV doc pm an cdv ct) ⟨us, []⟩ = pure (ps.zip us))
    (h : ∀ (cdv : Value) (A : Around) (outer : List Env) (s : Shared) (H : Hp) (E : XK), Room k (A.deeper (envOfC qual (defScope st) s.heap.objs.size f cdv)) →
      ∃ t, PSs (cxOf CX0 P w K mg base N qual (defScope st) f cdv A outer s H E).nox (defBody st) t ∧ DS K (fun _ => E) t ds) : FnR P w K mg base CX0 (k + 1) f (spD K (fnM nn n ds)) := by
  subst hn hN
  obtain ⟨fd, F⟩ := F
  refine fnR_ok (F.ok S (fun vs H Q E h => spD_len h) fun cdv A outer s H vs Q E hr hs => ?_) (F.bindsN b)
  obtain ⟨t, h1, h2⟩ := h cdv A outer s H E hr
  exact ⟨t, PSs.nox h1, fn_body h2 hs⟩
theorem mk_fnRX {name qual : Str} {ps N : List Str} {k n nn : Nat} {st : Stmt} {f : Addr} {ds : Ev → RS} (F : ∃ fd, FunD K name qual (defArgs st) (defBody st) (defScope st) [] [] f fd) (S : FnScope N ps (defScope st)) (hn : ps.length = n) (hN : N.length = nn)
    (b : ∀ (kV doc pm : Value) (an : Option Addr) (cdv ct : Value) (us : List Value), us.length = ps.length → bindArgs (PySem.W.fnOf name qual (defArgs st) (defBody st) (defScope st) .none kV doc pm an cdv ct) ⟨us, []⟩ = pure (ps.zip us))
    (h : ∀ (cdv : Value) (A : Around) (outer : List Env) (s : Shared) (H : Hp) (E : XK), Room k (A.deeper (envOfC qual (defScope st) s.heap.objs.size f cdv)) →
      ∃ t, PSs (cxOf (L2.CX P w) P w K mg base N qual (defScope st) f cdv A outer s H E) (defBody st) t ∧ DS K (fun _ => E) t ds) : FnR P w K mg base (L2.CX P w) (k + 1) f (spD K (fnM nn n ds)) := by
  subst hn hN
  obtain ⟨fd, F⟩ := F
  refine fnR_ok (F.ok S (fun vs H Q E h => spD_len h) fun cdv A outer s H vs Q E hr hs => ?_) (F.bindsN b)
  obtain ⟨t, h1, h2⟩ := h cdv A outer s H E hr
  exact ⟨t, h1, fn_body h2 hs⟩
/-- at the end of what is counted -/
theorem mk_fnR0 {name qual : Str} {ps N : List Str} {k : Nat} {st : Stmt} {f : Addr} {CX : CXT} (F : ∃ fd, FunD K name qual (defArgs st) (defBody st) (defScope st) [] [] f fd) (S : FnScope N ps (defScope st))
    (b : ∀ (kV doc pm : Value) (an : Option Addr) (cdv ct : Value) (us : List Value), us.length = ps.length → bindArgs (PySem.W.fnOf name qual (defArgs st) (defBody st) (defScope st) .none kV doc pm an cdv ct) ⟨us, []⟩ = pure (ps.zip us)) : FnR P w K mg base CX (k + 1) f (spD K (fun _ => .bad)) := by
  obtain ⟨fd, F⟩ := F
  refine fnR_ok (F.ok S (fun vs H Q E h => ?_) fun cdv A outer s H vs Q E hr hs => ?_) (F.bindsN b)
  · obtain ⟨M, ps, _, z⟩ := h
    exact z.elim
  · obtain ⟨M, ps, _, z⟩ := hs
    exact z.elim
/-- one that knows its class -/
theorem mk_fnRC {mf : Str} {D : Addr} {name qual : Str} {ps N : List Str} {k n nn : Nat} {st : Stmt} {f : Addr} {ds : Ev → RS} {CX : CXT} (F : ∃ fd, FunC K mf D name qual (defArgs st) (defBody st) (defScope st) f fd) (S : NScope N ps ["__class__"] (defScope st)) (hn : ps.length = n) (hN : N.length = nn) (hlt : n < nn)
    (b : ∀ (kV doc pm : Value) (an : Option Addr) (cdv ct : Value) (cl : List (Str × Addr)) (us : List Value), us.length = ps.length → bindArgs (PySem.W.fnX name qual (defArgs st) (defBody st) (defScope st) cl .none kV doc pm an cdv ct) ⟨us, []⟩ = pure (ps.zip us))
    (h : ∀ (cc cda : Addr) (A : Around) (outer : List Env) (s : Shared) (H : Hp) (E : XK), Room k (A.deeper (envF (nfC name qual (defArgs st) (defBody st) (defScope st) cc cda) f s.heap.objs.size)) →
      (∃ oc od osl kV doc pm an ct, K.lookup f = some ⟨oc, od, .func (PySem.W.fnX name qual (defArgs st) (defBody st) (defScope st) [("__class__", cc)] .none kV doc pm an (.ref cda) ct), osl⟩) → (∃ cl cld csl, K.lookup cc = some ⟨cl, cld, .cell (some (.ref D)), csl⟩) →
      (∃ ccl cdd cvs ccs tf, K.lookup cda = some ⟨ccl, cdd, .fields cvs, ccs⟩ ∧ cvs[2]? = some (.str mf tf)) →
      ∃ t, PSsC (ncx CX P w K mg base N (nfC name qual (defArgs st) (defBody st) (defScope st) cc cda) f A outer s H E) (.func (defBody st) (envF (nfC name qual (defArgs st) (defBody st) (defScope st) cc cda) f s.heap.objs.size)) (defBody st) t ∧ DS K (fun _ => E) t ds) :
    FnR P w K mg base CX (k + 1) f (spD K (fnM nn n ds)) := by
  subst hn hN
  obtain ⟨fd, F⟩ := F
  refine fnR_ok (F.ok S (fun vs H Q E h => spD_len h) fun cc cda A outer s H vs Q E hr hs c1 c2 c3 => ?_) (F.binds b)
  obtain ⟨t, h1, h2⟩ := h cc cda A outer s H E hr c1 c2 c3
  refine ⟨t, h1, fn_bodyR ?_ h2 hs⟩
  have := spD_len hs
  simp only [List.length_append, List.length_cons, List.length_nil, List.length_replicate]
  omega
end
end Dn
namespace Dn
open PySem PySem.Spec PyProof.Rows L2 NdefX StX
section
variable {CX : CXT} {P : Program} {w : World} {K : PySem.W.Frag} {mg : Str → Option Value} {base : Heap} {k : Nat} {f : Addr} {name qual : Str} {params : Arguments} {body : List Stmt} {scope : Scope} {dV kV doc pm cdv ct oc : Value} {an od : Option Addr}
  {osl : Array (Option Value)} {N ps : List Str} {sp : Sp}
theorem fn_starN {pv : Str} (lk : K.lookup f = some ⟨oc, od, .func (PySem.W.fnOf name qual params body scope dV kV doc pm an cdv ct), osl⟩) (hcd : PySem.W.codeIn K cdv qual = true) (S : FnScope N (ps ++ [pv]) scope) (hCX : CXUp CX)
    (hb : ∀ us rest : List Value, us.length = ps.length → bindArgs (PySem.W.fnOf name qual params body scope dV kV doc pm an cdv ct) ⟨us ++ rest, []⟩ = (newTuple rest >>= fun t => pure (ps.zip us ++ [(pv, t)])))
    (hbody : ∀ (A : Around) (outer : List Env) (s : Shared) (H : Hp) (vs : List V) (Q : VK) (E : XK), Room k (A.deeper (envOfC qual scope s.heap.objs.size f cdv)) → sp vs H Q E →
      ∃ t, PSs (cxOf CX P w K mg base N qual scope f cdv A outer s H E) body t ∧ t { nx := fun _ H' => Q .non H', rt := Q } (start N vs) H) :
    FnR P w K mg base CX (k + 1) f (fun vs H Q E => ∃ ws rest, vs = ws ++ rest ∧ ws.length = ps.length ∧ rest.length ≤ sizeLine ∧ ∀ p (o : Obj), H p = Option.none → o.dict = Option.none → sp (ws ++ [V.ref p]) (upd H p (.frz o (.tup rest))) Q E) := by
  intro A outer s H us vs Q E hr e0 r hsp
  obtain ⟨ws, rest, ev, hl, hz, hq⟩ := hsp
  subst ev
  obtain ⟨u1, u2, eu, r1, r2⟩ := vals_split r
  subst eu
  have hn : H s.heap.objs.size = Option.none := e0.hok.fresh (Nat.le_refl _)
  have hl1 : u1.length = ps.length := by rw [← r1.length]; exact hl
  have hl2 : u2.length ≤ sizeLine := by rw [← r2.length]; exact hz
  refine run_bnd lk hcd S hr e0 (G := fun xs H2 => ∃ p, ∃ o : Obj, H p = Option.none ∧ o.dict = Option.none ∧ xs = ws ++ [V.ref p] ∧ H2 = upd H p (.frz o (.tup rest))) (fun A' Ex Q' h => ?_) fun s2 H2 xs ⟨p, o, hp, ho, ex, eH⟩ hr' => ?_
  · rw [hb u1 u2 hl1]
    refine wpAny_bind (wpAny_newTuple (wpAny_pure ?_) hl2)
    have new : ObjOk P w (upd H s.heap.objs.size (.frz (tupOb u2) (.tup rest))) (s.heap.push (tupOb u2)) s.heap.objs.size (.frz (tupOb u2) (.tup rest)) := ⟨Heap.get?_push_size _ rfl, hz, u2, r2, ⟨_, Heap.get?_push_size _ rfl, rfl, _, rfl⟩⟩
    have un := un_laid (fs := frs outer) (s := s) (o := tupOb u2) (u := .frz (tupOb u2) (.tup rest)) hn
    have z := h _ _ (ws ++ [V.ref s.heap.objs.size]) (u1 ++ [Value.ref s.heap.objs.size]) (env0_laid e0 new) un rfl (fun e s' => hCX outer s H _ _ E e s' un (fun b o q => Heap.get?_push_of_some _ q) rfl) (r1.append (.cons rfl .nil))
      (by rw [List.length_append, List.length_append, hl] <;> rfl) ⟨_, tupOb u2, hn, rfl, rfl, rfl⟩
    rw [List.zip_append hl1.symm] at z
    exact z
  · subst ex eH
    exact hbody A outer s2 _ _ Q E hr' (hq p o hp ho)


/-- the promise of a def with a star parameter behind n others -/
def spStar (n : Nat) (sp : Sp) : Sp := fun vs H Q E => ∃ ws rest, vs = ws ++ rest ∧ ws.length = n ∧ rest.length ≤ sizeLine ∧ ∀ p (o : Obj), H p = Option.none → o.dict = Option.none → sp (ws ++ [V.ref p]) (upd H p (.frz o (.tup rest))) Q E
end
section
variable {P : Program} {w : World} {K : Fg} [WD K] {mg : Str → Option Value} {base : Heap}
theorem mk_star {CX : CXT} {name qual pv : Str} {ps N : List Str} {k n nn : Nat} {st : Stmt} {f : Addr} {ds : Ev → RS} (F : ∃ fd, FunD K name qual (defArgs st) (defBody st) (defScope st) [] [] f fd) (S : FnScope N (ps ++ [pv]) (defScope st)) (hCX : CXUp CX) (hn : ps.length + 1 = n) (hN : N.length = nn)
    (b : ∀ (kV doc pm : Value) (an : Option Addr) (cdv ct : Value) (us rest : List Value), us.length = ps.length → bindArgs (PySem.W.fnOf name qual (defArgs st) (defBody st) (defScope st) .none kV doc pm an cdv ct) ⟨us ++ rest, []⟩ = (newTuple rest >>= fun t => pure (ps.zip us ++ [(pv, t)])))
    (h : ∀ (cdv : Value) (A : Around) (outer : List Env) (s : Shared) (H : Hp) (E : XK), Room k (A.deeper (envOfC qual (defScope st) s.heap.objs.size f cdv)) →
      ∃ t, PSs (cxOf CX P w K mg base N qual (defScope st) f cdv A outer s H E) (defBody st) t ∧ DS K (fun _ => E) t ds) : FnR P w K mg base CX (k + 1) f (spStar ps.length (spD K (fnM nn n ds))) := by
  subst hn hN
  obtain ⟨fd, F⟩ := F
  obtain ⟨oc, od, dV, kV, doc, pm, an, cdv, ct, osl, rfl, lk, hcd, hD, hK⟩ := F.ex
  rcases hD with ⟨_, rfl⟩ | ⟨e, _⟩
  · refine fn_starN lk hcd S hCX (b kV doc pm an cdv ct) fun A outer s H vs Q E hr hs => ?_
    obtain ⟨t, h1, h2⟩ := h cdv A outer s H E hr
    exact ⟨t, h1, fn_body h2 hs⟩
  · exact absurd rfl e
end
end Dn

namespace Dn
open PySem PySem.Spec PyProof.Rows L2 NdefX
/-! ### star parameters, at the call -/
def imsX : List X → Option (List D)
  | [] => some []
  | .im d :: xs => (imsX xs).map (d :: ·)
  | _ => none
/-- C(a, .., *rest): the rest is one tuple -/
def starA (n : Nat) (xs : List X) : Option (List X) := match imsX (xs.drop n) with
  | some ds => if n ≤ xs.length ∧ fit ds.length then some (xs.take n ++ [.im (.tup ds)]) else none
  | none => none
section
variable {K : Fg} [WD K] {W : WS} {E : XK} {M M' M1 M2 : Hp} {env env' env1 env2 : Ev} {σ σ' σ1 : L2.St} {H H' H1 H2 : Hp} {x y : X} {v u : V} {xs ys : List X} {vs : List V} {m : Ev → RE X} {Q : VK} {c : Str} {n : Nat}
theorem imsX_repP {H0 : Hp} : ∀ {xs : List X} {ds : List D} {vs : List V}, Paired (RX K σ H0 M H env) xs vs → imsX xs = some ds → Reps K M ds vs
  | [], ds, _, .nil, e => by
    cases e
    exact Reps.nil
  | .im d :: xs, ds, _, .cons r rs, e => by
    obtain ⟨ds', e1, rfl⟩ := Option.map_eq_some_iff.mp (show (imsX xs).map (d :: ·) = some ds from e)
    exact Reps.cons r.1 (imsX_repP rs e1)
  | .sl i :: xs, ds, _, .cons r rs, e => nomatch e
  | .ow o :: xs, ds, _, .cons r rs, e => nomatch e
theorem imsX_rep {H0 : Hp} {xs : List X} {ds : List D} {vs : List V} (r : RA K σ H0 M H env xs vs) (e : imsX xs = some ds) : Reps K M ds vs := imsX_repP r e
theorem pair_take {α β : Type} {F : α → β → Prop} : ∀ (n : Nat) {xs : List α} {vs : List β}, Paired F xs vs → Paired F (xs.take n) (vs.take n)
  | 0, _, _, _ => by
    rw [List.take_zero, List.take_zero]
    exact Paired.nil
  | n + 1, _, _, .nil => by
    rw [List.take_nil, List.take_nil]
    exact Paired.nil
  | n + 1, x :: xs, v :: vs, .cons r rs => by
    rw [List.take_succ_cons, List.take_succ_cons]
    exact Paired.cons r (pair_take n rs)
theorem pair_drop {α β : Type} {F : α → β → Prop} : ∀ (n : Nat) {xs : List α} {vs : List β}, Paired F xs vs → Paired F (xs.drop n) (vs.drop n)
  | 0, _, _, h => h
  | n + 1, _, _, .nil => by
    rw [List.drop_nil, List.drop_nil]
    exact Paired.nil
  | n + 1, x :: xs, v :: vs, .cons r rs => by
    rw [List.drop_succ_cons, List.drop_succ_cons]
    exact pair_drop n rs
theorem pair_app {α β : Type} {F : α → β → Prop} : ∀ {xs ys : List α} {vs us : List β}, Paired F xs vs → Paired F ys us → Paired F (xs ++ ys) (vs ++ us)
  | [], ys, _, us, .nil, h => h
  | x :: xs, ys, v :: vs, us, .cons r rs, h => Paired.cons r (pair_app rs h)
theorem ra_take {H0 : Hp} (n : Nat) {xs : List X} {vs : List V} (r : RA K σ H0 M H env xs vs) : RA K σ H0 M H env (xs.take n) (vs.take n) := pair_take n r
theorem ra_drop {H0 : Hp} (n : Nat) {xs : List X} {vs : List V} (r : RA K σ H0 M H env xs vs) : RA K σ H0 M H env (xs.drop n) (vs.drop n) := pair_drop n r
theorem ra_app {H0 : Hp} {xs ys : List X} {vs us : List V} (r : RA K σ H0 M H env xs vs) (r' : RA K σ H0 M H env ys us) : RA K σ H0 M H env (xs ++ ys) (vs ++ us) := pair_app r r'
/-- the tuple of the rest is laid -/
theorem star_mid (hh : Holds K M env σ H) (g : Grow M env σ H M1 env1 σ H1) (s : Shape env env1) (hh1 : Holds K M1 env1 σ H1) (r : RA K σ H M1 H1 env1 xs vs) (e : starA n xs = some ys) :
    (vs.take n).length = n ∧ (vs.drop n).length ≤ sizeLine ∧ ∀ p (o : Obj), H1 p = none → o.dict = none → Grow M env σ H (upd M1 p (.frz o (.tup (vs.drop n)))) env1 σ (upd H1 p (.frz o (.tup (vs.drop n)))) ∧ Holds K (upd M1 p (.frz o (.tup (vs.drop n)))) env1 σ (upd H1 p (.frz o (.tup (vs.drop n)))) ∧
      RA K σ H (upd M1 p (.frz o (.tup (vs.drop n)))) (upd H1 p (.frz o (.tup (vs.drop n)))) env1 ys (vs.take n ++ [V.ref p]) := by
  unfold starA at e
  cases e1 : imsX (xs.drop n) with
  | none => rw [e1] at e; cases e
  | some ds =>
    rw [e1] at e
    have e : (if n ≤ xs.length ∧ fit ds.length then some (xs.take n ++ [X.im (.tup ds)]) else none) = some ys := e
    split at e
    · rename_i hc
      cases e
      have rd := imsX_rep (ra_drop n r) e1
      have hl := ra_len r
      refine ⟨by rw [List.length_take]; omega, by rw [← rd.length]; exact fit_ok hc.2, fun p o hp ho => ?_⟩
      have ex := ext_tup (o := .frz o (.tup (vs.drop n))) hh1.ex hp
      refine ⟨g.trans hh (ex.grow hh1), ex.holds hh1, ra_app (Paired.imp1 (fun x v q => ⟨RepX.grow hh1 q.1 (ex.grow hh1) (.refl _), q.2⟩) (ra_take n r)) (Paired.cons (rx_im ?_) Paired.nil)⟩
      exact rep_tup (.inl ⟨o, upd_same, ho⟩) (Reps.mono ex.exM _ _ rd)
    · cases e
/-- C(..), its __init__ with a star parameter -/
def makeStarD (c : Str) (n : Nat) (m : Ev → RE X) (xs : List X) (env : Ev) : RE X := match starA n xs with
  | some ys => makeD c m ys env
  | none => .bad
def dMakeStar (c : Str) (n : Nat) (m : Ev → RE X) (da : Ev → RE (List X)) : Ev → RE X := fun env => (da env).bind (makeStarD c n m)
def tMakeStar (K : Fg) [WD K] (c : Str) (n : Nat) (den : Ev → RE X) (E : L2.St → XK) (t : TA) : TE := fun σ H Q => t σ H fun vs H1 => ∀ x dx, H1 x = none → H1 dx = none → dx ≠ x →
  spStar (n + 1) (spD K den) (V.ref x :: vs) (upd (upd H1 dx (.own x)) x (.ins (He.ga K c) dx [])) (fun v H2 => v = .non ∧ Q (.ref x) H2) (E σ)
theorem de_makeStar {ta : TA} {da : Ev → RE (List X)} (ha : DA K W ta da) : DE K W (tMakeStar K c n m W ta) (dMakeStar c n m da) := fun M σ H env hh => by
  refine Sat.bindG (c := fun vs H1 Q => ∀ x dx, H1 x = none → H1 dx = none → dx ≠ x → spStar (n + 1) (spD K m) (V.ref x :: vs) (upd (upd H1 dx (.own x)) x (.ins (He.ga K c) dx [])) (fun v H2 => v = .non ∧ Q (.ref x) H2) (W σ)) (ha M σ H env hh) (fun Q q => q) fun M1 H1 env1 xs vs g1 s1 hh1 r1 => ?_
  refine sat_of fun Q k a dx h1 h2 ne => ?_
  unfold makeStarD at k
  cases e1 : starA n xs with
  | none => rw [e1] at k; exact k.elim
  | some ys =>
    rw [e1] at k
    have k : KX K (W σ) M σ H env Q (makeD c m ys env1) := k
    obtain ⟨l1, l2, st⟩ := star_mid hh g1 s1 hh1 r1 e1
    refine ⟨V.ref a :: vs.take n, vs.drop n, by rw [List.cons_append, List.take_append_drop], by rw [List.length_cons, l1], l2, fun p o hp ho => ?_⟩
    have pa : p ≠ a := fun z => by
      subst z
      rw [upd_same] at hp
      cases hp
    have pd : p ≠ dx := fun z => by
      subst z
      rw [upd_ne pa, upd_same] at hp
      cases hp
    have hp1 : H1 p = none := by
      rw [upd_ne pa, upd_ne pd] at hp
      exact hp
    obtain ⟨g2, hh2, r2⟩ := st p o hp1 ho
    have eq : upd (upd (upd H1 dx (.own a)) a (.ins (He.ga K c) dx [])) p (.frz o (.tup (vs.drop n))) = upd (upd (upd H1 p (.frz o (.tup (vs.drop n)))) dx (.own a)) a (.ins (He.ga K c) dx []) := by
      funext b
      by_cases hb : b = a
      · subst hb
        rw [upd_ne (Ne.symm pa), upd_same, upd_same]
      · by_cases hb2 : b = dx
        · subst hb2
          rw [upd_ne (Ne.symm pd), upd_ne hb, upd_same, upd_ne hb, upd_same]
        · by_cases hb3 : b = p
          · subst hb3
            rw [upd_same, upd_ne hb, upd_ne hb2, upd_same]
          · rw [upd_ne hb3, upd_ne hb, upd_ne hb2, upd_ne hb, upd_ne hb2, upd_ne hb3]
    rw [eq, List.cons_append]
    exact make_mid hh g2 s1 hh2 r2 k a dx (by rw [upd_ne (Ne.symm pa)]; exact h1) (by rw [upd_ne (Ne.symm pd)]; exact h2) ne
end
section
variable {X : Cx} {CX : CXT} {K : Fg} [WD K] {P : Program} {w : World} {mg : Str → Option Value} {base : Heap} {k n : Nat} {E : L2.St → XK} {c : Str} {p pos : Pos} {e : Expr} {es : List Expr} {t : TA} {den : Ev → RE Dn.X}
def MkStar (CX : CXT) (P : Program) (w : World) (K : Fg) [WD K] (mg : Str → Option Value) (base : Heap) (k : Nat) (c : Str) (n : Nat) (den : Ev → RE Dn.X) : Prop :=
  ∃ f, Mk K (He.ga K c) f ∧ mg c = some (.ref (He.ga K c)) ∧ FnR P w K mg base CX k f (spStar (n + 1) (spD K den)) ∧ NoSl den
theorem pe_makeStar (cx : CxIs X K P w mg base) (hm : MkStar CX P w K mg base k c n den) (hr : Room (k + 1) X.A) (hg : Gl X c) (hx : ∀ σ, PassesAt CX X σ (E σ)) (ha : PA X (e :: es) t)
    (hdb : (c == ("__debug__" : Str)) = false := by decide) (he : starEach (e :: es) X.env = (false, eval e X.env) :: starEach es X.env := by rfl) (hpl : (backTo pos (starEach es X.env)).any (·.1) = false := by rfl) :
    PE X (.Call (.Name c p) (e :: es) [] pos) (tMakeStar K c n den E t) := by
  obtain ⟨rfl, rfl, rfl, rfl, rfl⟩ := cx
  obtain ⟨f, M, hmg, F, _⟩ := hm
  refine ⟨fun pins s σ H Q I h => ?_⟩
  refine wpAny_Call_Name_kw (ld_glob I hg hmg ?_ hdb)
  refine PySem.W.callWith_K (h₀ := X.base) I.ok.mod.kin M.kp (thn (ha.run pos pins s σ H _ I h) fun us s1 ⟨vs, H1, I1, r, q⟩ => ⟨I1.kIn, ?_⟩) he hpl
  exact run_makeS M F hr (hx σ) I1 r q
theorem pe_makeStar0 (cx : CxIs X K P w mg base) (hm : MkStar CX P w K mg base k c n den) (hr : Room (k + 1) X.A) (hg : Gl X c) (hx : ∀ σ, PassesAt CX X σ (E σ)) (hdb : (c == ("__debug__" : Str)) = false := by decide) :
    PE X (.Call (.Name c p) [] [] pos) (tMakeStar K c n den E tNil) := by
  obtain ⟨rfl, rfl, rfl, rfl, rfl⟩ := cx
  obtain ⟨f, M, hmg, F, _⟩ := hm
  refine ⟨fun pins s σ H Q I h => ?_⟩
  refine wpAny_Call_Name_kw (ld_glob I hg hmg ?_ hdb)
  exact PySem.W.callWith_K0 I.kIn M.kp (run_makeS (us := []) M F hr (hx σ) I .nil h)
end
/-! ### constants of classes -/
abbrev CTab := List (Str × D)
def CTab.get (t : CTab) (c : Str) : Option D := t.lookup c
/-- plain data that stands by itself -/
def D.flatB : D → Bool
  | .non => true
  | .bl _ => true
  | .int _ => true
  | .str _ => true
  | _ => false
def D.flatV : D → V
  | .bl b => .bl b
  | .int i => .int i
  | .str x => .str x
  | _ => .non
theorem flat_rep {K : Fg} [WD K] {M : Hp} : ∀ {d : D}, d.flatB = true → Rep K M d d.flatV
  | .non, _ => rep_non
  | .bl _, _ => rep_bl
  | .int _, _ => rep_int
  | .str _, _ => rep_str
  | .tup _, h => nomatch h
  | .tupW _, h => nomatch h
  | .lst _, h => nomatch h
  | .obj _ _, h => nomatch h
  | .scr _, h => nomatch h
  | .ty _, h => nomatch h
  | .cls _, h => nomatch h
  | .exn _ _, h => nomatch h
  | .dk _, h => nomatch h
  | .dt _, h => nomatch h
/-- o.f, o an instance -/
def ConT (K : Fg) (T : CTab) (f : Str) : Prop := ∀ p ∈ T, p.2.flatB = true ∧ Cls K (He.ga K p.1) ∧ ∃ u, Con K (He.ga K p.1) f p.2.flatV u
def dConF (T : CTab) (f : Str) (de : Ev → RE X) : Ev → RE X := fun env => (de env).bind fun x e1 => match rcvA e1 x with
  | some (c, fs) => if (fs.lookup f).isNone = true then (match T.get c with
    | some d => .ok (.im d) e1
    | none => .bad) else .bad
  | none => .bad
/-- C.f -/
def CvT (K : Fg) (T : CTab) (f : Str) : Prop := ∀ p ∈ T, p.2.flatB = true ∧ ∃ mc u, ClX.CRead K (He.ga K p.1) mc ∧ ClX.CVal K (He.ga K p.1) mc f p.2.flatV u
def dCvF (T : CTab) (de : Ev → RE X) : Ev → RE X := fun env => (de env).bind fun x e1 => match x with
  | .im (.cls c) => (match T.get c with
    | some d => .ok (.im d) e1
    | none => .bad)
  | _ => .bad
section
variable {K : Fg} [WD K] {W : WS} {te : TE} {de : Ev → RE X} {T : CTab} {f : Str}
theorem de_conF (hT : ConT K T f) (h : DE K W te de) : DE K W (tCon K te f) (dConF T f de) := fun M σ H env hh => by
  refine Sat.bind (c := fun x H1 Q => ∃ a C dx fs v u, x = V.ref a ∧ H1 a = some (.ins C dx fs) ∧ Cls K C ∧ Con K C f v u ∧ fs.lookup f = none ∧ Q v H1) back_x hh (h M σ H env hh) (fun Q q => q) fun M1 H1 env1 x v g1 s1 hh1 r1 => ?_
  cases e1 : rcvA env1 x with
  | none => trivial
  | some cf =>
    obtain ⟨c, fs⟩ := cf
    obtain ⟨a, dx, fvs, rfl, ea, rf⟩ := rcvA_ok hh1 r1.1 e1
    show Sat K W M1 σ H1 env1 (if (fs.lookup f).isNone = true then (match T.get c with
      | some d => .ok (.im d) env1
      | none => .bad) else .bad) (RX K σ) _
    by_cases hc : (fs.lookup f).isNone = true
    · rw [if_pos hc]
      cases e2 : T.get c with
      | none => trivial
      | some d =>
        obtain ⟨h1, h2, u, h3⟩ := hT _ (lookup_mem e2)
        exact fun Q k => ⟨a, _, dx, fvs, _, u, rfl, ea, h2, h3, repF_none rf (Option.isNone_iff_eq_none.mp hc), k _ _ _ .refl (.refl _) hh1 (rx_im (flat_rep h1))⟩
    · rw [if_neg hc]
      trivial
theorem de_cvF (hT : CvT K T f) (h : DE K W te de) : DE K W (ClX.tCVal K te f) (dCvF T de) := fun M σ H env hh => by
  refine Sat.bind (c := fun x H1 Q => ∃ C mc v u, x = V.ref C ∧ ClX.CRead K C mc ∧ ClX.CVal K C mc f v u ∧ Q v H1) back_x hh (h M σ H env hh) (fun Q q => q) fun M1 H1 env1 x v g1 s1 hh1 r1 => ?_
  cases x with
  | im d =>
    cases d with
    | cls c =>
      show Sat K W M1 σ H1 env1 (match T.get c with
        | some d => .ok (.im d) env1
        | none => .bad) (RX K σ) _
      cases e2 : T.get c with
      | none => trivial
      | some d =>
        obtain ⟨h1, mc, u, h2, h3⟩ := hT _ (lookup_mem e2)
        have hv : v = .ref (He.ga K c) := by simpa [RepX, Rep] using r1.1
        exact fun Q k => ⟨_, mc, _, u, hv, h2, h3, k _ _ _ .refl (.refl _) hh1 (rx_im (flat_rep h1))⟩
    | _ => trivial
  | _ => trivial
end
section
variable {X : Cx} {K : Fg} [WD K] {P : Program} {w : World} {mg : Str → Option Value} {base : Heap} {f : Str} {pos : Pos} {e : Expr} {ta : TE}
theorem pe_conF (cx : CxIs X K P w mg base) (he : PE X e ta) (hb : attributeBase e f X.env (eval e X.env) = eval e X.env := by rfl) : PE X (.Attribute e f pos) (tCon K ta f) := by
  obtain ⟨rfl, rfl, rfl, rfl, rfl⟩ := cx
  exact pe_con he hb
theorem pe_cvF (cx : CxIs X K P w mg base) (he : PE X e ta) (hb : attributeBase e f X.env (eval e X.env) = eval e X.env := by rfl) : PE X (.Attribute e f pos) (ClX.tCVal K ta f) := by
  obtain ⟨rfl, rfl, rfl, rfl, rfl⟩ := cx
  exact ClX.pe_cval he hb
end
/-! ### isinstance of own instances -/
/-- what isinstance asks of a class -/
structure IsiC (K : Fg) (C : Addr) : Prop where
  cl : Cls K C
  ha : PySem.W.findIn K (.ref C) "__class__" = some (some (.builtin "object.__class__"))
  hn : PySem.W.specialIn K (.builtin "object.__class__") "__get__" = some (some (.builtin "getset_descriptor.__get__"))
  htk : PySem.W.takesIn K (.builtin "object.__class__") = some true
  hm : PySem.W.mroIn K C (.type "object") = some true
def rIsiO (K : Fg) : List V → Hp → VK → Prop := fun xs H Q => (∃ (a C dx : Addr) (fs : List (Str × V)) (c : V) (cv : Value) (b : Bool), xs = [.ref a, c] ∧ H a = some (.ins C dx fs) ∧ IsiC K C ∧ (∀ u, RelV c u → u = cv) ∧ PySem.W.kitOne K (.ref C) cv = some b ∧ Q (.bl b) H)
theorem call_isiO {X : Cx} {K : Fg} [WD K] (hK : X.K = K := by rfl) : CallR X (.builtin "isinstance") (rIsiO K) := by
  subst hK
  intro pins s σ H xs us Q I r h
  obtain ⟨a, C, dx, fs, c, cv, b, rfl, ea, T, hcv, e, q⟩ := h
  cases r with
  | cons rx rr =>
    cases rr with
    | cons rt rr =>
      cases rr
      have ec := hcv _ rt
      subst ec
      exact isinst_ok I rx (.ins ea T.cl T.ha T.hn T.htk T.hm) e fun tk => ⟨.bl b, H, I.tok tk, rfl, q⟩
def pIsiO (T : Str → Str → Option Bool) (T2 : Str → String → Option Bool) : List D → Option X
  | [.obj c _, .cls C] => (T c C).map fun b => .im (.bl b)
  | [.obj c _, .ty n] => (T2 c n).map fun b => .im (.bl b)
  | _ => none
theorem ok_isiO {K : Fg} [WD K] {T : Str → Str → Option Bool} {T2 : Str → String → Option Bool} (h1 : ∀ c C b, T c C = some b → IsiC K (He.ga K c) ∧ PySem.W.kitOne K (.ref (He.ga K c)) (.ref (He.ga K C)) = some b)
    (h2 : ∀ c n b, T2 c n = some b → IsiC K (He.ga K c) ∧ PySem.W.kitOne K (.ref (He.ga K c)) (.type n) = some b) : CallOk K (rIsiO K) (pIsiO T T2) := by
  intro M H ds x vs e r hf Q q
  unfold pIsiO at hf
  split at hf
  · rename_i c fs C
    obtain ⟨b, e1, rfl⟩ := Option.map_eq_some_iff.mp hf
    obtain ⟨k1, k2⟩ := h1 _ _ _ e1
    cases r with
    | cons a r =>
      cases r with
      | cons a2 r =>
        cases r
        obtain ⟨ad, dx, fvs, rfl, e3, e4⟩ := a.obj e
        rw [a2.cls]
        exact ⟨ad, _, dx, fvs, _, .ref (He.ga K C), b, rfl, e3, k1, fun u h => h, k2, q.im0 e rep_bl⟩
  · rename_i c fs n
    obtain ⟨b, e1, rfl⟩ := Option.map_eq_some_iff.mp hf
    obtain ⟨k1, k2⟩ := h2 _ _ _ e1
    cases r with
    | cons a r =>
      cases r with
      | cons a2 r =>
        cases r
        obtain ⟨ad, dx, fvs, rfl, e3, e4⟩ := a.obj e
        rw [a2.ty]
        exact ⟨ad, _, dx, fvs, _, .type n, b, rfl, e3, k1, fun u h => h, k2, q.im0 e rep_bl⟩
  · cases hf
end Dn

namespace Dn
open PySem PySem.Spec PyProof.Rows L2 NdefX
/-! ### super().m(..) of own classes -/
/-- the method m above D, seen from an instance of C, stands at f -/
structure SupM (K : Fg) (D C : Addr) (m : Str) (f : Addr) : Prop where
  cl : (PySem.W.clsIn K D).isSome = true
  sub : PySem.W.mroIn K C (.ref D) = some true
  at_ : PySem.W.ks_superIn K C D m = some (some (.ref f))
  fn : PySem.W.typeIn K (.ref f) = some (.type "function")
  fi : PySem.W.fnIn K f = true
  opq : PySem.W.nsIn K cStatics "thirdparty.any" = some none
def SupF (CX : CXT) (P : Program) (w : World) (K : Fg) [WD K] (mg : Str → Option Value) (base : Heap) (k : Nat) (D : Str) (S : List Str) (m : Str) (den : Ev → RE X) : Prop := (∀ c ∈ S, ∃ f, SupM K (He.ga K D) (He.ga K c) m f ∧ FnR P w K mg base CX k f (spD K den)) ∧ NoSl den
def tSupM (K : Fg) [WD K] (S : List Str) (den : Ev → RE X) (E : L2.St → XK) (t : TA) : TE := fun σ H Q => ∃ a dx fs c, σ[0]? = some (some (V.ref a)) ∧ H a = some (.ins (He.ga K c) dx fs) ∧ c ∈ S ∧ t σ H fun vs H2 => spD K den (V.ref a :: vs) H2 Q (E σ)
section
variable {X : Cx} {CX : CXT} {K : Fg} [WD K] {P : Program} {w : World} {mg : Str → Option Value} {base : Heap} {k : Nat} {E : L2.St → XK} {D : Str} {S : List Str} {mf p0 : Str} {m : Str} {q0 q1 ap pos : Pos} {e : Expr} {es : List Expr} {t : TA} {den : Ev → RE Dn.X} {body : List Stmt}
theorem pec_supM {pl : Sem Bool} (cx : CxIs X K P w mg base) (Y : SupX X mf (He.ga K D) p0) (hS : SupF CX P w K mg base k D S m den) (hr : Room k X.A) (hx : ∀ σ, PassesAt CX X σ (E σ)) (ha : PA X (e :: es) t)
    (hn : (m == ("__class__" : Str)) = false := by decide) (hst : starEach (e :: es) X.env = (false, eval e X.env) :: starEach es X.env := by rfl) (hpl : (backTo pos (starEach es X.env)).any (·.1) = false := by rfl)
    (he : eval (.Call (.Attribute (.Call (.Name "super" q0) [] [] q1) m ap) (e :: es) [] pos) X.env = (do
      let ov ← attributeBase (.Call (.Name "super" q0) [] [] q1) m X.env (eval (.Call (.Name "super" q0) [] [] q1) X.env)
      standAt ap.atName
      let (f, first) ← holding [ov] (getMethod ov m pl)
      callWith pos f first (backTo pos (starEach (e :: es) X.env)) []) := by rfl) :
    PEC X (.func body X.env) (.Call (.Attribute (.Call (.Name "super" q0) [] [] q1) m ap) (e :: es) [] pos) (tSupM K S den E t) := by
  obtain ⟨rfl, rfl, rfl, rfl, rfl⟩ := cx
  intro pins s σ H Q I ⟨a, dx, fs, c, hs, ea, hc, q⟩
  obtain ⟨f, M, F⟩ := hS.1 c hc
  obtain ⟨cdD, hD⟩ := Option.isSome_iff_exists.mp M.cl
  obtain ⟨mA, O, _⟩ := ins_get I.hok ea
  obtain ⟨od, J, _⟩ := O.look
  refine ks_wpAt_MethodCall (he := he) (sup_base Y I hs hD J.at_ J.cls (fun c z => by have := J.no; unfold PySem.W.notCls at this; rw [z] at this; exact Bool.noConfusion this) M.sub (fun so h' e1 kk => ?_) hn)
  have I1 : Inv X pins σ H { s with heap := h' } := I.kept (t' := s.toks) kk
  obtain ⟨hp, g, dr, tk, os⟩ := s
  obtain ⟨mA1, O1, _⟩ := ins_get I1.hok ea
  obtain ⟨od1, J1, _⟩ := O1.look
  have hm := M.at_
  cases hcl : PySem.W.clsIn X.K (He.ga X.K c) with
  | none =>
    unfold PySem.W.ks_superIn at hm
    rw [hcl] at hm
    cases hm
  | some cd =>
    unfold PySem.W.ks_superIn at hm
    rw [hcl] at hm
    obtain ⟨of, hof, hofc⟩ : ∃ of, h'.get? f = some of ∧ of.cls = .type "function" := by
      have ht' : (X.K.lookup f).map (·.cls) = some (.type "function") := M.fn
      cases z : X.K.lookup f with
      | none => rw [z] at ht'; cases ht'
      | some of => rw [z] at ht'; exact ⟨of, I1.kIn _ _ z, Option.some.inj ht'⟩
    refine ks_wpAny_getMethod_super e1 (PySem.W.looks_opaque I1.kIn M.opq) (l₀ := cd.mro) (fun A Q E s k q => wpAny_bind ((PySem.W.looks_clsIn I1.kIn hcl) A _ E s k (wpAny_pure q))) rfl I1.kIn hm hof hofc (PySem.W.ks_ne I1.kIn J1 hcl) hn ?_
    have I2 : Inv X ((h'.objs.size, PySem.W.methodObj (.ref f) (.ref a)) :: pins) σ H ⟨h'.push (PySem.W.methodObj (.ref f) (.ref a)), g, dr, tk + 1, os⟩ :=
      Inv.pinNew (s := ⟨h', g, dr, tk, os⟩) I1 (fun b o e => Heap.get?_push_of_some _ e) (Nat.le_refl _) (Heap.get?_push_size _ rfl) (fun v z => nomatch z)
    have hq := (I2.pin (h'.objs.size, PySem.W.methodObj (.ref f) (.ref a)) (List.mem_append_right _ List.mem_cons_self)).1
    have hL : h'.objs.size ≠ X.env.locals := (I2.pin (h'.objs.size, PySem.W.methodObj (.ref f) (.ref a)) (List.mem_append_right _ List.mem_cons_self)).2.2.1
    refine PySem.W.callWith_M (K := X.K) (h₀ := X.base) (first := []) I.ok.mod.kin (news_at hL (ClX.base_none I1 (Nat.le_refl _)) hq) List.mem_cons_self M.fi (thn (ha.run pos _ _ σ H _ I2 q) fun us s3 ⟨vs, H2, I3, rv, q2⟩ => ?_) hst hpl
    have hq3 := (I3.pin (h'.objs.size, PySem.W.methodObj (.ref f) (.ref a)) (List.mem_append_right _ List.mem_cons_self)).1
    refine ⟨⟨hq3, I3.kIn⟩, ?_⟩
    have I4 := Inv.unpin I3
    exact wpAny_call (PySem.W.method_call hq3 (run_fnRS (us := .ref a :: us) (vs := .ref a :: vs) F hr (hx σ) I4 (.cons rfl rv) q2))
end
def dSupM (S : List Str) (den : Ev → RE X) (da : Ev → RE (List X)) : Ev → RE X := fun env => (dVar 0 env).bind fun x e1 => match recvX e1 x with
  | none => .bad
  | some (c, _) => if c ∈ S then (da e1).bind fun xs e2 => callD den (x :: xs) e2 else .bad
section
variable {K : Fg} [WD K] {W : WS} {S : List Str} {den : Ev → RE X} {ta : TA} {da : Ev → RE (List X)}
theorem de_supM (hn : NoSl den) (ha : DA K W ta da) : DE K W (tSupM K S den W ta) (dSupM S den da) := fun M σ H env hh => by
  have hv := de_var (K := K) (W := W) 0 M σ H env hh
  unfold dSupM
  cases e0 : dVar 0 env with
  | bad => trivial
  | exc e env1 =>
    unfold dVar at e0
    split at e0 <;> cases e0
  | ok x env1 =>
    have ee : env1 = env := by
      unfold dVar at e0
      split at e0 <;> cases e0 <;> rfl
    subst ee
    rw [e0] at hv
    show Sat K W M σ H env1 (match recvX env1 x with
      | none => .bad
      | some (c, _) => if c ∈ S then (da env1).bind fun xs e2 => callD den (x :: xs) e2 else .bad) (RX K σ) _
    cases e1 : recvX env1 x with
    | none => trivial
    | some cf =>
      obtain ⟨c, fs⟩ := cf
      show Sat K W M σ H env1 (if c ∈ S then (da env1).bind fun xs e2 => callD den (x :: xs) e2 else .bad) (RX K σ) _
      by_cases hc : c ∈ S
      · rw [if_pos hc]
        -- the receiver's value
        obtain ⟨v, hv0, rx⟩ : ∃ v, σ[0]? = some (some v) ∧ RX K σ H M H env1 x v := by
          unfold dVar at e0
          cases q : env1[0]? with
          | none => rw [q] at e0; cases e0
          | some s =>
            rw [q] at e0
            cases s with
            | im d =>
              cases e0
              obtain ⟨w, e1, r⟩ := hh.slot 0 _ q
              exact ⟨w, e1, r, fun _ z => nomatch z⟩
            | ow p o =>
              cases e0
              obtain ⟨l, e1, r, _⟩ := hh.slot 0 _ q
              exact ⟨_, e1, ⟨⟨p, o, q⟩, e1⟩, fun _ z => nomatch z⟩
            | no => cases e0
            | hid => cases e0
        obtain ⟨a, dx, fvs, rfl, ea, rf⟩ := recv_ok hh rx.1 e1
        refine Sat.bindG (c := fun vs H2 Q => spD K den (V.ref a :: vs) H2 Q (W σ)) (ha M σ H env1 hh) (fun Q q => ⟨a, dx, fvs, c, hv0, ea, hc, q⟩) fun M2 H2 env2 xs vs g2 s2 hh2 r2 => ?_
        exact sat_of fun Q k => call_mid hn hh g2 s2 hh2 (xs := x :: xs) (Paired.cons ⟨RepX.grow hh rx.1 g2 s2, rx.2⟩ r2) k
      · rw [if_neg hc]
        trivial
end
/-! ### f(..), f an instance -/
def CallI (CX : CXT) (P : Program) (w : World) (K : Fg) [WD K] (mg : Str → Option Value) (base : Heap) (k : Nat) (c : Str) (den : Ev → RE X) : Prop :=
  ∃ f, StX.CallO K (He.ga K c) f ∧ FnR P w K mg base CX k f (spD K den) ∧ NoSl den
def tCallI (K : Fg) [WD K] (tab : Str → Option (Ev → RE X)) (E : L2.St → XK) (ta : TE) (t : TA) : TE := fun σ H Q => ta σ H fun x H1 => ∃ a, x = V.ref a ∧ t σ H1 fun vs H2 => ∃ dx fs c den, H2 a = some (.ins (He.ga K c) dx fs) ∧ tab c = some den ∧ spD K den (V.ref a :: vs) H2 Q (E σ)
def dCallI (tab : Str → Option (Ev → RE X)) (df : Ev → RE X) (da : Ev → RE (List X)) : Ev → RE X := fun env => (df env).bind fun x e1 => match recvX e1 x with
  | none => .bad
  | some _ => (da e1).bind fun xs e2 => match recvX e2 x with
    | none => .bad
    | some (c, _) => match tab c with
      | none => .bad
      | some den => callD den (x :: xs) e2
section
variable {K : Fg} [WD K] {W : WS} {tab : Str → Option (Ev → RE X)} {te : TE} {de : Ev → RE X} {ta : TA} {da : Ev → RE (List X)}
theorem de_callI (ht : ∀ c den, tab c = some den → NoSl den) (h : DE K W te de) (ha : DA K W ta da) : DE K W (tCallI K tab W te ta) (dCallI tab de da) := fun M σ H env hh => by
  refine Sat.bind (c := fun x H1 Q => ∃ a, x = V.ref a ∧ ta σ H1 fun vs H2 => ∃ dx fs c den, H2 a = some (.ins (He.ga K c) dx fs) ∧ tab c = some den ∧ spD K den (V.ref a :: vs) H2 Q (W σ)) back_x hh (h M σ H env hh) (fun Q q => q) fun M1 H1 env1 x v g1 s1 hh1 r1 => ?_
  cases e1 : recvX env1 x with
  | none => trivial
  | some cf =>
    obtain ⟨a, dx, fvs, rfl, ea, rf⟩ := recv_ok hh1 r1.1 e1
    refine Sat.bindG (c := fun vs H2 Q => ∃ dx fs c den, H2 a = some (.ins (He.ga K c) dx fs) ∧ tab c = some den ∧ spD K den (V.ref a :: vs) H2 Q (W σ)) (ha M1 σ H1 env1 hh1) (fun Q q => ⟨a, rfl, q⟩) fun M2 H2 env2 xs vs g2 s2 hh2 r2 => ?_
    have rx : RX K σ H1 M2 H2 env2 x (.ref a) := ⟨RepX.grow hh1 r1.1 g2 s2, recv_new e1⟩
    refine sat_of fun Q k => ?_
    cases e2 : recvX env2 x with
    | none => rw [e2] at k; exact k.elim
    | some cf2 =>
      obtain ⟨c, fs⟩ := cf2
      rw [e2] at k
      obtain ⟨a', dx', fvs', ee, ea', rf'⟩ := recv_ok hh2 rx.1 e2
      cases ee
      have k : KX K (W σ) M1 σ H1 env1 Q (match tab c with
        | none => .bad
        | some den => callD den (x :: xs) env2) := k
      cases e3 : tab c with
      | none => rw [e3] at k; exact k.elim
      | some den =>
        rw [e3] at k
        exact ⟨dx', fvs', c, den, ea', e3, call_mid (ht c den e3) hh1 g2 s2 hh2 (xs := x :: xs) (Paired.cons rx r2) k⟩
end
section
variable {X : Cx} {CX : CXT} {K : Fg} [WD K] {P : Program} {w : World} {mg : Str → Option Value} {base : Heap} {k : Nat} {tab : Str → Option (Ev → RE Dn.X)} {E : L2.St → XK} {pos : Pos} {fe e : Expr} {es : List Expr} {ta : TE} {t : TA}
theorem pe_callI (cx : CxIs X K P w mg base) (ht : ∀ c den, tab c = some den → CallI CX P w K mg base k c den) (hr : Room k X.A) (hx : ∀ σ, PassesAt CX X σ (E σ)) (hf : PE X fe ta) (ha : PA X (e :: es) t)
    (hte : eval (.Call fe (e :: es) [] pos) X.env = (do callWith pos (← eval fe X.env) [] (backTo pos (starEach (e :: es) X.env)) (backToKw pos (keywordEach [] X.env))) := by rfl)
    (he : starEach (e :: es) X.env = (false, eval e X.env) :: starEach es X.env := by rfl) (hpl : (backTo pos (starEach es X.env)).any (·.1) = false := by rfl) : PE X (.Call fe (e :: es) [] pos) (tCallI K tab E ta t) := by
  obtain ⟨rfl, rfl, rfl, rfl, rfl⟩ := cx
  refine ⟨fun pins s σ H Q I h => ?_⟩
  refine Call_ (thn (hf.run pins s σ H _ I h) fun u s1 ⟨y, H1, I1, ry, a, ey, q⟩ => ?_) hte
  subst ey
  obtain rfl : u = Value.ref a := ry
  refine StX.callO_with (thn (ha.run pos pins s1 σ H1 _ I1 q) fun us s2 ⟨vs, H2, I2, r, dx, fs, c, den, ea, et, q2⟩ => ?_) he hpl
  obtain ⟨f, C, F, _⟩ := ht c den et
  obtain ⟨ox, od, J, hd⟩ := StX.insC_at I2 (.inr ⟨dx, fs, ea⟩)
  exact ⟨⟨_, ox, od, J, hd⟩, wpAny_call (PySem.W.kco_code I2.kIn J hd C.at_ C.fn C.fi (run_fnRS (us := .ref a :: us) (vs := .ref a :: vs) F hr (hx σ) I2 (.cons rfl r) q2))⟩
end
end Dn

namespace Dn
open PySem PySem.Spec PyProof.Rows L2 NdefX
/-! ### what is passed on -/
theorem passN0 {X : Cx} {E : L2.St → XK} : ∀ σ, PassesAt CX0 X σ (E σ) := fun _ _ _ _ _ _ _ h => h.elim
theorem passS {X : Cx} {W : WX} (tk : Takes X W) : ∀ σ, PassesAt (L2.CX X.prog X.w) X σ (WE W σ) := fun σ => passAt tk σ
theorem passSK {X : Cx} {W : WX} {P : Program} {w : World} (tk : Takes X W) (hP : X.prog = P := by rfl) (hw : X.w = w := by rfl) : ∀ σ, PassesAt (L2.CX P w) X σ (WE W σ) := by
  subst hP hw
  exact fun σ => passAt tk σ
theorem fnR_up {P : Program} {w : World} {K : Fg} [WD K] {mg : Str → Option Value} {base : Heap} {k : Nat} {f : Addr} {sp : Sp} {CX : CXT} (F : FnR P w K mg base CX0 k f sp) : FnR P w K mg base CX k f sp := fun A outer s H us vs Q E hr e0 r hs =>
  codeAny_mono (F A outer s H us vs Q E hr e0 r hs) fun r s' h => by
    cases r with
    | ok fl => cases fl <;> exact h
    | error e => exact (show False from h).elim
theorem MethF.up {P : Program} {w : World} {K : Fg} [WD K] {mg : Str → Option Value} {base : Heap} {k : Nat} {c m : Str} {den : Ev → RE X} {CX : CXT} (h : MethF CX0 P w K mg base k c m den) : MethF CX P w K mg base k c m den := by
  obtain ⟨f, h1, h2, h3, h4⟩ := h
  exact ⟨f, h1, h2, fnR_up h3, h4⟩
theorem methF_of {CX : CXT} {P : Program} {w : World} {K : Fg} [WD K] {mg : Str → Option Value} {base : Heap} {k : Nat} {c m : Str} {den : Ev → RE X} (c1 : Cls K (He.ga K c)) (m1 : Meth K (He.ga K c) m (He.ma K (He.ga K c) m)) (F : FnR P w K mg base CX k (He.ma K (He.ga K c) m) (spD K den)) (n : NoSl den) : MethF CX P w K mg base k c m den := ⟨_, c1, m1, F, n⟩
theorem mkF_of {CX : CXT} {P : Program} {w : World} {K : Fg} [WD K] {mg : Str → Option Value} {base : Heap} {k : Nat} {c : Str} {den : Ev → RE X} (m1 : Mk K (He.ga K c) (He.ma K (He.ga K c) "__init__")) (g : mg c = some (.ref (He.ga K c))) (F : FnR P w K mg base CX k (He.ma K (He.ga K c) "__init__") (spD K den)) (n : NoSl den) : MkF CX P w K mg base k c den := ⟨_, m1, g, F, n⟩
theorem mkStar_of {CX : CXT} {P : Program} {w : World} {K : Fg} [WD K] {mg : Str → Option Value} {base : Heap} {k n : Nat} {c : Str} {den : Ev → RE X} (m1 : Mk K (He.ga K c) (He.ma K (He.ga K c) "__init__")) (g : mg c = some (.ref (He.ga K c))) (F : FnR P w K mg base CX k (He.ma K (He.ga K c) "__init__") (spStar (n + 1) (spD K den))) (h : NoSl den) : MkStar CX P w K mg base k c n den := ⟨_, m1, g, F, h⟩
theorem callI_of {CX : CXT} {P : Program} {w : World} {K : Fg} [WD K] {mg : Str → Option Value} {base : Heap} {k : Nat} {c : Str} {den : Ev → RE X} (C : StX.CallO K (He.ga K c) (He.ma K (He.ga K c) "__call__")) (F : FnR P w K mg base CX k (He.ma K (He.ga K c) "__call__") (spD K den)) (h : NoSl den) : CallI CX P w K mg base k c den := ⟨_, C, F, h⟩
theorem FnR.monoR {P : Program} {w : World} {K : Fg} [WD K] {mg : Str → Option Value} {base : Heap} {CX : CXT} {j k : Nat} {f : Addr} {sp : Sp} (F : FnR P w K mg base CX j f sp) (h : j ≤ k) : FnR P w K mg base CX k f sp := FnR.mono F h
theorem MTab.mem {t : MTab} {c : Str} {den : Ev → RE X} (h : t.get c = some den) : (c, den) ∈ t := lookup_mem h
/-! ### facts by bools -/
def mk0B (K : Fg) (c : Str) : Bool := PySem.W.makesIn K (He.ga K c) && (fndB K (.ref (He.ga K c)) "__init__" (some (.builtin "object.__init__")) && PySem.W.keepIn K (.ref (He.ga K c)))
theorem mk0B_ok {K : Fg} [WD K] {c : Str} (h : mk0B K c = true) : Mk0 K (He.ga K c) := by
  obtain ⟨h1, h⟩ := He.ba h
  obtain ⟨h2, h3⟩ := He.ba h
  exact ⟨h1, of_decide_eq_true h2, h3⟩
def binB (K : Fg) (nm : String) (c : Str) : Bool := PySem.W.selfFirst K (He.ga K c) && (match PySem.W.findIn K (.ref (He.ga K c)) (dunderR nm) with
  | some none => true
  | some (some (.ref _)) => true
  | _ => false)
theorem binB_ok {K : Fg} [WD K] {nm : String} {c : Str} (h : binB K nm c = true) : BinC K (He.ga K c) nm := by
  obtain ⟨h1, h2⟩ := He.ba h
  refine ⟨h1, ?_⟩
  split at h2
  · rename_i e
    exact ⟨_, e, .inl rfl⟩
  · rename_i a e
    exact ⟨_, e, .inr ⟨a, rfl⟩⟩
  · cases h2
def binsB (K : Fg) (nm : String) (R : List Str) : Bool := (R.all fun c => binB K nm c) && R.all fun c => R.all fun d => (d == c) || decide (PySem.W.subIn K (.ref (He.ga K d)) (.ref (He.ga K c)) = some false)
theorem binsB_ok {K : Fg} [WD K] {nm : String} {R : List Str} (h : binsB K nm R = true) : BinR K R nm := by
  obtain ⟨h1, h2⟩ := He.ba h
  refine ⟨fun c hc => binB_ok (List.all_eq_true.mp h1 c hc), fun c hc d hd ne => ?_⟩
  have := List.all_eq_true.mp (List.all_eq_true.mp h2 c hc) d hd
  rcases Bool.or_eq_true_iff.mp this with e | e
  · exact (ne (beq_iff_eq.mp e)).elim
  · exact of_decide_eq_true e
def clsB (K : Fg) (c : Str) : Bool := (He.Fa.cls c).ok K
def fldB (K : Fg) (f : Str) (T : List Str) : Bool := T.all fun c => clsB K c && fndB K (.ref (He.ga K c)) f none
theorem fldB_ok {K : Fg} [WD K] {f : Str} {T : List Str} (h : fldB K f T = true) : FldT K T f := fun c hc => by
  obtain ⟨h1, h2⟩ := He.ba (List.all_eq_true.mp h c hc)
  exact ⟨He.cls_ok h1, show PySem.W.findIn K (.ref (He.ga K c)) f = some none from of_decide_eq_true h2⟩
def flatU (d : D) (u : Value) : Bool := match d, u with
  | .non, .none => true
  | .bl b, .bool c => b == c
  | .int i, .int j _ => decide (i = j)
  | .str x, .str y _ => decide (x = y)
  | _, _ => false
theorem flatU_ok {d : D} {u : Value} (h : flatU d u = true) : d.flatB = true ∧ RelV d.flatV u := by
  unfold flatU at h
  split at h
  · exact ⟨rfl, rfl⟩
  · rw [beq_iff_eq.mp h]
    exact ⟨rfl, rfl⟩
  · rw [of_decide_eq_true h]
    exact ⟨rfl, _, rfl⟩
  · rw [of_decide_eq_true h]
    exact ⟨rfl, _, rfl⟩
  · cases h
def conB (K : Fg) (f : Str) (T : CTab) : Bool := !(PySem.W.copiedNames.contains f) && T.all fun p => clsB K p.1 && (match PySem.W.findIn K (.ref (He.ga K p.1)) f with
  | some (some u) => flatU p.2 u && decide (PySem.W.specialIn K u "__get__" = some none)
  | _ => false)
theorem conB_ok {K : Fg} [WD K] {f : Str} {T : CTab} (h : conB K f T = true) : ConT K T f := fun p hp => by
  obtain ⟨h0, h⟩ := He.ba h
  obtain ⟨h1, h2⟩ := He.ba (List.all_eq_true.mp h p hp)
  split at h2
  · rename_i u e
    obtain ⟨h3, h4⟩ := He.ba h2
    obtain ⟨h5, h6⟩ := flatU_ok h3
    exact ⟨h5, He.cls_ok h1, u, e, h6, of_decide_eq_true h4, by simpa using h0⟩
  · cases h2
def cvB (K : Fg) (f : Str) (T : CTab) : Bool := T.all fun p => PySem.W.readsIn K (He.ga K p.1) (.type "type") && (decide (PySem.W.specialIn K (.ref (He.ga K p.1)) "__getattribute__" = some (some (.builtin "type.__getattribute__"))) && (match PySem.W.findCls K (.ref (He.ga K p.1)) (.type "type") f with
  | some (.val u) => flatU p.2 u
  | _ => false))
theorem cvB_ok {K : Fg} [WD K] {f : Str} {T : CTab} (h : cvB K f T = true) : CvT K T f := fun p hp => by
  obtain ⟨h1, h⟩ := He.ba (List.all_eq_true.mp h p hp)
  obtain ⟨h2, h3⟩ := He.ba h
  split at h3
  · rename_i u e
    obtain ⟨h5, h6⟩ := flatU_ok h3
    exact ⟨h5, _, u, ⟨h1, of_decide_eq_true h2⟩, ⟨e, h6⟩⟩
  · cases h3
def isiB (K : Fg) (c : Str) : Bool := clsB K c && (fndB K (.ref (He.ga K c)) "__class__" (some (.builtin "object.__class__")) && (decide (PySem.W.specialIn K (.builtin "object.__class__") "__get__" = some (some (.builtin "getset_descriptor.__get__"))) && (decide (PySem.W.takesIn K (.builtin "object.__class__") = some true) && decide (PySem.W.mroIn K (He.ga K c) (.type "object") = some true))))
theorem isiB_ok {K : Fg} [WD K] {c : Str} (h : isiB K c = true) : IsiC K (He.ga K c) := by
  obtain ⟨h1, h⟩ := He.ba h
  obtain ⟨h2, h⟩ := He.ba h
  obtain ⟨h3, h⟩ := He.ba h
  obtain ⟨h4, h5⟩ := He.ba h
  exact ⟨He.cls_ok h1, of_decide_eq_true h2, of_decide_eq_true h3, of_decide_eq_true h4, of_decide_eq_true h5⟩
/-- tables of own classes for isinstance -/
def kisB (K : Fg) (T : XTab) (T2 : XTab2) : Bool := (T.all fun p => isiB K p.1.1 && decide (PySem.W.kitOne K (.ref (He.ga K p.1.1)) (.ref (He.ga K p.1.2)) = some p.2)) && T2.all fun p => isiB K p.1.1 && decide (PySem.W.kitOne K (.ref (He.ga K p.1.1)) (.type p.1.2) = some p.2)
theorem kisB_ok {K : Fg} [WD K] {T : XTab} {T2 : XTab2} (h : kisB K T T2 = true) : (∀ c C b, T.get c C = some b → IsiC K (He.ga K c) ∧ PySem.W.kitOne K (.ref (He.ga K c)) (.ref (He.ga K C)) = some b) ∧ ∀ c n b, T2.get c n = some b → IsiC K (He.ga K c) ∧ PySem.W.kitOne K (.ref (He.ga K c)) (.type n) = some b := by
  obtain ⟨h1, h2⟩ := He.ba h
  refine ⟨fun c C b e => ?_, fun c n b e => ?_⟩
  · obtain ⟨h3, h4⟩ := He.ba (List.all_eq_true.mp h1 _ (lookup_mem e))
    exact ⟨isiB_ok h3, of_decide_eq_true h4⟩
  · obtain ⟨h3, h4⟩ := He.ba (List.all_eq_true.mp h2 _ (lookup_mem e))
    exact ⟨isiB_ok h3, of_decide_eq_true h4⟩
def supB (K : Fg) (D B m c : Str) : Bool := (PySem.W.clsIn K (He.ga K D)).isSome && (decide (PySem.W.mroIn K (He.ga K c) (.ref (He.ga K D)) = some true) && (decide (PySem.W.ks_superIn K (He.ga K c) (He.ga K D) m = some (some (.ref (He.ma K (He.ga K B) m)))) && (decide (PySem.W.typeIn K (.ref (He.ma K (He.ga K B) m)) = some (.type "function")) && (PySem.W.fnIn K (He.ma K (He.ga K B) m) && decide (PySem.W.nsIn K cStatics "thirdparty.any" = some none)))))
theorem supB_ok {K : Fg} [WD K] {D B m c : Str} (h : supB K D B m c = true) : SupM K (He.ga K D) (He.ga K c) m (He.ma K (He.ga K B) m) := by
  obtain ⟨h1, h⟩ := He.ba h
  obtain ⟨h2, h⟩ := He.ba h
  obtain ⟨h3, h⟩ := He.ba h
  obtain ⟨h4, h⟩ := He.ba h
  obtain ⟨h5, h6⟩ := He.ba h
  exact ⟨h1, of_decide_eq_true h2, of_decide_eq_true h3, of_decide_eq_true h4, h5, of_decide_eq_true h6⟩
theorem supF_of {CX : CXT} {P : Program} {w : World} {K : Fg} [WD K] {mg : Str → Option Value} {base : Heap} {k : Nat} {D B m : Str} {S : List Str} {den : Ev → RE X} (h : (S.all fun c => supB K D B m c) = true) (F : FnR P w K mg base CX k (He.ma K (He.ga K B) m) (spD K den)) (n : NoSl den) : SupF CX P w K mg base k D S m den :=
  ⟨fun c hc => ⟨_, supB_ok (List.all_eq_true.mp h c hc), F⟩, n⟩
def calB (K : Fg) (c : Str) : Bool := fndB K (.ref (He.ga K c)) "__call__" (some (.ref (He.ma K (He.ga K c) "__call__"))) && (PySem.W.isFn K (.ref (He.ma K (He.ga K c) "__call__")) && PySem.W.fnIn K (He.ma K (He.ga K c) "__call__"))
theorem calB_ok {K : Fg} [WD K] {c : Str} (h : calB K c = true) : StX.CallO K (He.ga K c) (He.ma K (He.ga K c) "__call__") := by
  obtain ⟨h1, h⟩ := He.ba h
  obtain ⟨h2, h3⟩ := He.ba h
  exact ⟨of_decide_eq_true h1, h2, h3⟩
end Dn

namespace Dn
open PySem PySem.Spec PyProof.Rows L2
/-! ### isinstance of own instances, a tuple of classes -/
def rIsiOT (K : Fg) : List V → Hp → VK → Prop := fun xs H Q => ∃ (a C dx tp : Addr) (fs : List (Str × V)) (cs : List V) (us : List Value) (b : Bool), xs = [.ref a, .ref tp] ∧ H a = some (.ins C dx fs) ∧ IsiC K C ∧ SqN K H tp cs ∧ Paired ClsV cs us ∧ PySem.W.kitAny K (.ref C) us = some b ∧ Q (.bl b) H
theorem call_isiOT {X : Cx} {K : Fg} [WD K] (hK : X.K = K := by rfl) : CallR X (.builtin "isinstance") (rIsiOT K) := by
  subst hK
  intro pins s σ H xs us Q I r h
  obtain ⟨a, C, dx, tp, fs, cs, ws, b, rfl, ea, T, hT, k, e, q⟩ := h
  obtain ⟨u1, u2, rfl, r1, r2⟩ := vals2 r
  cases (show u2 = Value.ref tp from r2)
  obtain ⟨P, Z, p, hx⟩ := kit_of I r1 (.base (.ins ea T.cl T.ha T.hn T.htk T.hm))
  rcases hT with ⟨o0, hT, _⟩ | ⟨o, its, n, hk, hc, _, hd, _, rv⟩
  · obtain ⟨_, _, its, rv, o, h1, h2, n, h3⟩ := (show ObjOk X.prog X.w H s.heap tp (.frz o0 (.tup cs)) from I.hok tp _ hT)
    have e3 := ClsV.all k rv
    subst e3
    obtain ⟨oc, od, dt, sl⟩ := o
    simp only at h2 h3
    subst h2 h3
    exact PySem.W.kia_tup Z I.kIn p h1 e hx fun tk => ⟨.bl b, H, I.tok tk, rfl, q⟩
  · have h1 := I.kIn tp o hk
    have e3 := ClsV.all k rv
    obtain ⟨oc, od, dt, sl⟩ := o
    simp only at hc hd
    subst hc hd
    have e4 : its = ws.toArray := by rw [← e3]
    subst e4
    exact PySem.W.kia_tup Z I.kIn p h1 e hx fun tk => ⟨.bl b, H, I.tok tk, rfl, q⟩
def rIsiOU (K : Fg) : List V → Hp → VK → Prop := fun xs H Q => rIsiO K xs H Q ∨ rIsiOT K xs H Q
theorem call_isiOU {X : Cx} {K : Fg} [WD K] (hK : X.K = K := by rfl) : CallR X (.builtin "isinstance") (rIsiOU K) := (call_isiO hK).or (call_isiOT hK)
def clsD : List D → Option (List Str)
  | [] => some []
  | .cls C :: r => (clsD r).map (C :: ·)
  | _ => none
def kAny (T : Str → Str → Option Bool) (c : Str) : List Str → Option Bool
  | [] => some false
  | C :: r => match T c C with
    | some true => some true
    | some false => kAny T c r
    | none => none
def pIsiO2 (T : Str → Str → Option Bool) (T2 : Str → String → Option Bool) : List D → Option X
  | [.obj c _, .tup ds] => (clsD ds).bind fun Cs => if Cs = [] then none else (kAny T c Cs).map fun b => .im (.bl b)
  | ds => pIsiO T T2 ds
theorem clsD_rep {K : Fg} [WD K] {M : Hp} : ∀ {ds : List D} {vs : List V} {Cs : List Str}, Reps K M ds vs → clsD ds = some Cs → Paired ClsV vs (Cs.map fun C => Value.ref (He.ga K C))
  | [], vs, Cs, h, e => by
    simp only [Reps] at h
    cases e
    subst h
    exact .nil
  | d :: ds, vs, Cs, h, e => by
    simp only [Reps] at h
    obtain ⟨v, us, rfl, h1, h2⟩ := h
    cases d with
    | cls C =>
      obtain ⟨Cs', e1, rfl⟩ := Option.map_eq_some_iff.mp e
      have : v = .ref (He.ga K C) := by simpa [Rep] using h1
      subst this
      exact .cons (.own _) (clsD_rep h2 e1)
    | _ => cases e
theorem kAny_ok {K : Fg} [WD K] {T : Str → Str → Option Bool} (h1 : ∀ c C b, T c C = some b → IsiC K (He.ga K c) ∧ PySem.W.kitOne K (.ref (He.ga K c)) (.ref (He.ga K C)) = some b) {c : Str} : ∀ {Cs : List Str} {b : Bool}, Cs ≠ [] → kAny T c Cs = some b → IsiC K (He.ga K c) ∧ PySem.W.kitAny K (.ref (He.ga K c)) (Cs.map fun C => Value.ref (He.ga K C)) = some b
  | [], _, h, _ => (h rfl).elim
  | C :: r, b, _, e => by
    cases e1 : T c C with
    | none => simp [kAny, e1] at e
    | some b1 =>
      obtain ⟨k1, k2⟩ := h1 _ _ _ e1
      cases b1 with
      | true =>
        have : b = true := by simpa [kAny, e1] using e.symm
        subst this
        exact ⟨k1, by simp [PySem.W.kitAny, k2]⟩
      | false =>
        have e : kAny T c r = some b := by simpa [kAny, e1] using e
        refine ⟨k1, ?_⟩
        cases r with
        | nil =>
          have : b = false := by simpa [kAny] using e.symm
          subst this
          simp [PySem.W.kitAny, k2]
        | cons C2 r =>
          have := (kAny_ok h1 (c := c) (Cs := C2 :: r) (by simp) e).2
          rw [List.map_cons]
          unfold PySem.W.kitAny
          rw [k2]
          exact this
theorem ok_isiO2 {K : Fg} [WD K] {T : Str → Str → Option Bool} {T2 : Str → String → Option Bool} (h1 : ∀ c C b, T c C = some b → IsiC K (He.ga K c) ∧ PySem.W.kitOne K (.ref (He.ga K c)) (.ref (He.ga K C)) = some b)
    (h2 : ∀ c n b, T2 c n = some b → IsiC K (He.ga K c) ∧ PySem.W.kitOne K (.ref (He.ga K c)) (.type n) = some b) : CallOk K (rIsiOU K) (pIsiO2 T T2) := by
  intro M H ds x vs e r hf Q q
  unfold pIsiO2 at hf
  split at hf
  · rename_i c fs xs
    obtain ⟨Cs, e1, e2⟩ := Option.bind_eq_some_iff.mp hf
    by_cases hn : Cs = []
    · rw [if_pos hn] at e2
      cases e2
    · rw [if_neg hn] at e2
      obtain ⟨b, e3, rfl⟩ := Option.map_eq_some_iff.mp e2
      obtain ⟨k1, k2⟩ := kAny_ok h1 hn e3
      cases r with
      | cons a r =>
        cases r with
        | cons a2 r =>
          cases r
          obtain ⟨ad, dx, fvs, rfl, e4, e5⟩ := a.obj e
          obtain ⟨tp, us, rfl, s1, s2⟩ := a2.tupN e
          exact .inr ⟨ad, _, dx, tp, fvs, us, _, b, rfl, e4, k1, s1, clsD_rep s2 e1, k2, q.im0 e rep_bl⟩
  · exact .inl (ok_isiO h1 h2 M H ds x vs e r hf Q q)
end Dn

namespace Dn
open PySem PySem.Spec PyProof.Rows L2
section
variable {K : Fg} [WD K] {W : WS} {M : Hp} {env : Ev} {σ : L2.St} {H : Hp} {Q : VK} {E : XK} {m : Ev → RE X}
theorem spD_calm {vs : List V} (h : spD K (fun ps => (m ps).calm) vs H Q E) : spD K m vs H Q E := by
  obtain ⟨M, ps, h1, h2⟩ := h
  refine ⟨M, ps, h1, ?_⟩
  cases e : m ps with
  | bad =>
    have h2 : Post K M ps vs H Q E (m ps).calm := h2
    rw [e] at h2
    exact h2
  | exc x ps' =>
    have h2 : Post K M ps vs H Q E (m ps).calm := h2
    rw [e] at h2
    exact h2.elim
  | ok x ps' =>
    have h2 : Post K M ps vs H Q E (m ps).calm := h2
    rw [e] at h2
    exact h2
/-- an object whose making is known to let nothing out -/
def dMakeF0 (c : Str) (m : Ev → RE X) (da : Ev → RE (List X)) : Ev → RE X := dMakeF c (fun ps => (m ps).calm) da
theorem kx_calm {E' : XK} {M : Hp} {env0 : Ev} {c : Str} {xs : List X} (k : KX K E' M σ H env0 Q (makeD c (fun ps => (m ps).calm) xs env)) : KX K E M σ H env0 Q (makeD c (fun ps => (m ps).calm) xs env) := by
  unfold makeD at k ⊢
  cases e1 : passXs env xs with
  | none => rw [e1] at k; exact k.elim
  | some ps =>
    simp only [e1] at k ⊢
    by_cases nd : (slots xs).Nodup ∧ temps xs = 0
    · rw [if_pos nd] at k ⊢
      cases e3 : m (.ow true (.ob c []) :: ps) with
      | bad => simp only [e3, RE.calm] at k; exact k.elim
      | exc x ps' => simp only [e3, RE.calm] at k; exact k.elim
      | ok y ps' =>
        simp only [e3, RE.calm] at k ⊢
        cases y with
        | im d =>
          cases d with
          | non =>
            cases ps' with
            | nil => exact k.elim
            | cons s0 ps' =>
              cases s0 with
              | ow p o =>
                cases p with
                | true => exact k
                | false => exact k.elim
              | _ => exact k.elim
          | _ => exact k.elim
        | _ => exact k.elim
    · rw [if_neg nd] at k
      exact k.elim
theorem de_makeF0 {c : Str} {ta : TA} {da : Ev → RE (List X)} (ha : DA K W ta da) : DE K W (tMakeF K c m (fun _ => L2.E0) ta) (dMakeF0 c m da) := fun M σ H env hh => by
  refine Sat.bindG (c := fun vs H1 Q => ∀ a dx, H1 a = none → H1 dx = none → dx ≠ a → spD K m (V.ref a :: vs) (upd (upd H1 dx (.own a)) a (.ins (He.ga K c) dx [])) (fun v H2 => v = .non ∧ Q (.ref a) H2) L2.E0) (ha M σ H env hh) (fun Q q => q) fun M1 H1 env1 xs vs g1 s1 hh1 r1 => ?_
  exact sat_of fun Q k a dx h1 h2 h3 => spD_calm (make_mid hh g1 s1 hh1 r1 (kx_calm k) a dx h1 h2 h3)
end
theorem passL0 {X : Cx} {P : Program} {w : World} (hP : X.prog = P := by rfl) (hw : X.w = w := by rfl) : ∀ σ, PassesAt (L2.CX P w) X σ L2.E0 := by
  subst hP hw
  intro σ _ _ _ _ _ _ h
  obtain ⟨_, _, _, _, _, _, _, _, _, _, _, _, z⟩ := h
  exact z.elim
/-! ### xs[::-1] of a list -/
def pRevL : D → Option X
  | .lst xs => some (.ow (.lst xs.reverse))
  | _ => none
theorem de_revL {K : Fg} [WD K] {W : WS} {te : TE} {de : Ev → RE X} (h : DE K W te de) : DE K W (tRevL K te) (dUn pRevL de) := by
  refine de_un (r := fun x H1 Q => ∃ a xs, x = V.ref a ∧ SqL K H1 a xs ∧ ∀ p, H1 p = none → Q (.ref p) (upd H1 p (.lst xs.reverse))) ?_ h
  intro M H dx x v e hx hf Q q
  unfold pRevL at hf
  split at hf
  · cases hf
    obtain ⟨a, vs, rfl, h1, h2⟩ := hx.lst e
    exact ⟨a, vs, rfl, SqL.of h1, fun p n => q.lst e h2.reverse n⟩
  · cases hf
end Dn

namespace Dn
open PySem PySem.Spec PyProof.Rows L2
/-! ### calls with keywords and defaults: the arguments are put in the parameters' order -/
/-- where a parameter's value comes from: an argument as written (positional ones first, then the keywords'), or a default -/
inductive Src (α : Type) where
  | a (i : Nat) | d (v : α)
def arr {α β : Type} (f : β → α) : List (Src β) → List α → Option (List α)
  | [], _ => some []
  | .a i :: r, xs => (xs[i]?).bind fun x => (arr f r xs).map (x :: ·)
  | .d v :: r, xs => (arr f r xs).map (f v :: ·)
/-- a default: the same at every time -/
def DvR (K : Fg) [WD K] (d : D) (v : V) : Prop := ∀ M, Rep K M d v
theorem dv_non {K : Fg} [WD K] : DvR K .non .non := fun _ => rep_non
theorem dv_int {K : Fg} [WD K] (i : Int) : DvR K (.int i) (.int i) := fun _ => rep_int
theorem dv_bl {K : Fg} [WD K] (b : Bool) : DvR K (.bl b) (.bl b) := fun _ => rep_bl
theorem dv_str {K : Fg} [WD K] (x : Str) : DvR K (.str x) (.str x) := fun _ => rep_str
inductive SrcR (K : Fg) [WD K] : Src D → Src V → Prop where
  | a (i : Nat) : SrcR K (.a i) (.a i)
  | d {d : D} {v : V} (h : DvR K d v) : SrcR K (.d d) (.d v)
theorem paired_get {α β : Type} {F : α → β → Prop} : ∀ {xs : List α} {ys : List β} {i : Nat} {x : α}, Paired F xs ys → xs[i]? = some x → ∃ y, ys[i]? = some y ∧ F x y
  | _, _, i, x, .nil, e => by cases e
  | _, _, 0, x, .cons h t, e => by
    cases e
    exact ⟨_, rfl, h⟩
  | _, _, i + 1, x, .cons h t, e => paired_get (i := i) t (by simpa using e)
section
variable {K : Fg} [WD K] {W : WS} {M M' M1 M2 : Hp} {env env' env1 env2 : Ev} {σ σ' σ1 : L2.St} {H H' H0 H1 H2 : Hp} {x y : X} {v u : V} {xs ys : List X} {vs zs : List V}
theorem arr_ok : ∀ {src : List (Src D)} {srv : List (Src V)} {xs zs : List X} {vs : List V}, Paired (SrcR K) src srv → RA K σ H0 M H env xs vs → arr X.im src xs = some zs → ∃ us, arr id srv vs = some us ∧ RA K σ H0 M H env zs us
  | _, _, xs, zs, vs, .nil, r, e => by
    cases e
    exact ⟨[], rfl, .nil⟩
  | _, _, xs, zs, vs, .cons (.a i) t, r, e => by
    obtain ⟨x, e1, e2⟩ := Option.bind_eq_some_iff.mp e
    obtain ⟨zs', e3, rfl⟩ := Option.map_eq_some_iff.mp e2
    obtain ⟨v, e4, h⟩ := paired_get r e1
    obtain ⟨us, e5, h2⟩ := arr_ok t r e3
    exact ⟨v :: us, by simp [arr, e4, e5], .cons h h2⟩
  | _, _, xs, zs, vs, .cons (.d (d := d) (v := v) hd) t, r, e => by
    obtain ⟨zs', e3, rfl⟩ := Option.map_eq_some_iff.mp e
    obtain ⟨us, e5, h2⟩ := arr_ok t r e3
    exact ⟨v :: us, by simp [arr, e5], .cons (rx_im (hd M)) h2⟩
/-- the values as the rule of calls by keywords wants them -/
def tArr (n m : Nat) (gV : List V → List V → List V) (t tk : TA) : TA := fun σ H Q => t σ H fun vs H1 => tk σ H1 fun zs H2 => vs.length = n ∧ zs.length = m ∧ Q (gV vs zs) H2
def dArr (n m : Nat) (src : List (Src D)) (da dk : Ev → RE (List X)) : Ev → RE (List X) := fun env => (da env).bind fun xs e1 => (dk e1).bind fun ys e2 => if xs.length = n ∧ ys.length = m then match arr X.im src (xs ++ ys) with
  | some zs => .ok zs e2
  | none => .bad
  else .bad
theorem paired_app {α β : Type} {F : α → β → Prop} : ∀ {xs xs' : List α} {ys ys' : List β}, Paired F xs ys → Paired F xs' ys' → Paired F (xs ++ xs') (ys ++ ys')
  | _, _, _, _, .nil, h => h
  | _, _, _, _, .cons a t, h => .cons a (paired_app t h)
theorem paired_len {α β : Type} {F : α → β → Prop} : ∀ {xs : List α} {ys : List β}, Paired F xs ys → xs.length = ys.length
  | _, _, .nil => rfl
  | _, _, .cons _ t => by simp [paired_len t]
theorem da_arr {n m : Nat} {src : List (Src D)} {srv : List (Src V)} {gV : List V → List V → List V} {t tk : TA} {da dk : Ev → RE (List X)} (hs : Paired (SrcR K) src srv) (hg : ∀ vs zs, vs.length = n → zs.length = m → arr id srv (vs ++ zs) = some (gV vs zs))
    (ha : DA K W t da) (hk : DA K W tk dk) : DA K W (tArr n m gV t tk) (dArr n m src da dk) := fun M σ H env hh => by
  have h1 := ha M σ H env hh
  unfold dArr
  cases e1 : da env with
  | bad => trivial
  | exc e env1 =>
    rw [e1] at h1
    exact fun Q k => h1 _ k
  | ok xs env1 =>
    rw [e1] at h1
    show Sat K W M σ H env ((dk env1).bind fun ys e2 => if xs.length = n ∧ ys.length = m then match arr X.im src (xs ++ ys) with
      | some zs => .ok zs e2
      | none => .bad
      else .bad) (RA K σ) (tArr n m gV t tk σ H)
    cases e2 : dk env1 with
    | bad => trivial
    | exc e env2 =>
      refine fun Q k => h1 _ fun v M1 H1 g1 s1 hh1 r1 => ?_
      have h2 := hk M1 σ H1 env1 hh1
      rw [e2] at h2
      exact h2 _ fun cls d M' H' g2 s2 hh2 r2 => k cls d M' H' (g1.trans hh g2) (s1.trans s2) hh2 r2
    | ok ys env2 =>
      show Sat K W M σ H env (if xs.length = n ∧ ys.length = m then match arr X.im src (xs ++ ys) with
        | some zs => .ok zs env2
        | none => .bad
        else .bad) (RA K σ) (tArr n m gV t tk σ H)
      by_cases hl : xs.length = n ∧ ys.length = m
      · rw [if_pos hl]
        cases e3 : arr X.im src (xs ++ ys) with
        | none => trivial
        | some zs =>
          refine fun Q k => h1 _ fun vs M1 H1 g1 s1 hh1 r1 => ?_
          have h2 := hk M1 σ H1 env1 hh1
          rw [e2] at h2
          refine h2 _ fun us M' H' g2 s2 hh2 r2 => ?_
          have r1' : RA K σ H M' H' env2 xs vs := Paired.imp1 (fun x v q => ⟨RepX.grow hh1 q.1 g2 s2, q.2⟩) r1
          have r2' : RA K σ H M' H' env2 ys us := back_a _ _ _ _ _ _ _ g1.dom r2
          have l1 := paired_len r1
          have l2 := paired_len r2
          obtain ⟨ws, e4, h4⟩ := arr_ok hs (paired_app r1' r2') e3
          rw [hg vs us (by omega) (by omega)] at e4
          cases e4
          exact ⟨by omega, by omega, k _ M' H' (g1.trans hh g2) (s1.trans s2) hh2 h4⟩
      · rw [if_neg hl]
        trivial
end
end Dn

namespace Dn
open PySem PySem.Spec PyProof.Rows L2
/-! ### calls of defs with keywords and defaults -/
def tCallNS (n m : Nat) (sp : Sp) (gV : List V → List V → List V) (E : L2.St → XK) (t tk : TA) : TE := fun σ H Q => t σ H fun vs H1 => tk σ H1 fun zs H2 => vs.length = n ∧ zs.length = m ∧ sp (gV vs zs) H2 Q (E σ)
theorem tCallNS_eq {n m : Nat} {sp : Sp} {gV : List V → List V → List V} {E : L2.St → XK} {t tk : TA} : tCallNS n m sp gV E t tk = tCallSD sp [] E (tArr n m gV t tk) := by
  funext σ H Q
  simp only [tCallNS, tCallSD, tArr, List.append_nil]
section
variable {X : Cx} {CX : CXT} {k n : Nat} {f : Addr} {fd : FuncData} {ps ks : List Str} {sp : Sp} {E : L2.St → XK} {x : Str} {p pos : Pos} {e : Expr} {es : List Expr} {kws : List Keyword} {t tk : TA} {g : List Value → List Value → List Value} {gV : List V → List V → List V}
theorem run_fnNS {pins : List (Addr × Obj)} {σ : L2.St} {H : Hp} {s : Shared} {Q : VK} {us ws : List Value} {vs zs : List V} (F : FnOk X.prog X.w X.K X.mg X.base CX k f fd ps sp) (hr : Room k X.A) (hb : KBn X.K fd ps n ks g gV) (hx : PassesAt CX X σ (E σ))
    (I : Inv X pins σ H s) (r : Vals vs us) (rz : Vals zs ws) (l1 : vs.length = n) (l2 : zs.length = ks.length) (h : sp (gV vs zs) H Q (E σ)) : wpAny (model X.prog X.w) X.A (call (.ref f) us (ks.zip ws)) (EP X pins σ Q) X.xe s := by
  have r2 := hb.rel r rz
  refine wpAny_call (codeAny_mono (F.run X.A X.stack s H ⟨us, ks.zip ws⟩ (g us ws) (gV vs zs) Q (E σ) hr I.env0 (hb.to s us ws I.kIn (r.length.symm.trans l1) (rz.length.symm.trans l2)) r2 h) fun r s' hq => ?_)
  cases r with
  | error e => exact hx pins H s e s' I hq
  | ok fl =>
    cases fl with
    | ret u => exact I.after hq
    | next => exact False.elim hq
    | brk => exact False.elim hq
    | cont => exact False.elim hq
end
/-- a def with defaults and keyword-only parameters, called by its name -/
def CallG (CX : CXT) (P : Program) (w : World) (K : Fg) [WD K] (mg : Str → Option Value) (base : Heap) (k : Nat) (x : Str) (st : Stmt) (dvs : List V) (kws : List (Str × V)) (ps : List Str) (m : Ev → RE X) : Prop :=
  ∃ f fd, mg x = some (.ref f) ∧ PySem.W.keepIn K (.ref f) = true ∧ FunD K x x (defArgs st) (defBody st) (defScope st) dvs kws f fd ∧ FnOk P w K mg base CX k f fd ps (spD K m)
/-- one form of call: n positional values, the keywords ks; gV puts them in order -/
def KForm (K : Fg) (x : Str) (st : Stmt) (dvs : List V) (kws : List (Str × V)) (ps : List Str) (n : Nat) (ks : List Str) (gV : List V → List V → List V) : Prop := ∀ f fd, FunD K x x (defArgs st) (defBody st) (defScope st) dvs kws f fd → ∃ g, KBn K fd ps n ks g gV
section
variable {P : Program} {w : World} {K : Fg} [WD K] {mg : Str → Option Value} {base : Heap} {CX : CXT} {X : Cx} {k n : Nat} {ps ks : List Str} {E : L2.St → XK} {x : Str} {st : Stmt} {dvs : List V} {kds : List (Str × V)} {p pos : Pos} {e : Expr} {es : List Expr} {kws : List Keyword} {t tk : TA} {gV : List V → List V → List V} {m : Ev → RE Dn.X}
theorem CallG.mono {j : Nat} (c : CallG CX P w K mg base j x st dvs kds ps m) (h : j ≤ k) : CallG CX P w K mg base k x st dvs kds ps m := by
  obtain ⟨f, fd, a, b, d, e⟩ := c
  exact ⟨f, fd, a, b, d, e.mono h⟩
theorem pe_callG (cx : CxIs X K P w mg base) (c : CallG CX P w K mg base k x st dvs kds ps m) (kf : KForm K x st dvs kds ps n ks gV) (hr : Room k X.A) (hg : Gl X x) (hx : ∀ σ, PassesAt CX X σ (E σ))
    (ha : PA X (e :: es) t) (hkw : PK X kws tk) (hall : (backToKw pos (keywordEach kws X.env)).all (·.1.isSome) = true := by rfl) (hks : (backToKw pos (keywordEach kws X.env)).filterMap (·.1) = ks := by rfl)
    (hdb : (x == ("__debug__" : Str)) = false := by decide) (he : starEach (e :: es) X.env = (false, eval e X.env) :: starEach es X.env := by rfl)
    (hpl : ((backTo pos (starEach (e :: es) X.env)).any (·.1) || (backToKw pos (keywordEach kws X.env)).any (·.1.isNone)) = false := by rfl) :
    PE X (.Call (.Name x p) (e :: es) kws pos) (tCallNS n ks.length (spD K m) gV E t tk) := by
  obtain ⟨rfl, rfl, rfl, rfl, rfl⟩ := cx
  obtain ⟨f, fd, h1, h2, h3, h4⟩ := c
  obtain ⟨g, hb⟩ := kf f fd h3
  refine ⟨fun pins s σ H Q I h => ?_⟩
  refine wpAny_Call_Name_kw (ld_glob I hg h1 ?_ hdb)
  refine PySem.W.callWith_KW (h₀ := X.base) I.ok.mod.kin h2 hall (thn (ha.run pos pins s σ H _ I h) fun us s1 ⟨vs, H1, I1, r, q⟩ => ?_) hpl he
  refine thn (hkw.run pos pins s1 σ H1 _ I1 q) fun ws s2 ⟨zs, H2, I2, rz, l1, l2, q2⟩ => ⟨I2.kIn, ?_⟩
  rw [hks]
  exact run_fnNS h4 hr hb (hx σ) I2 r rz l1 l2 q2
theorem mk_callG {ps N : List Str} {n nn : Nat} {f : Addr} {ds : Ev → RS} (F : ∃ fd, FunD K x x (defArgs st) (defBody st) (defScope st) dvs kds f fd) (g : mg x = some (.ref f)) (S : FnScope N ps (defScope st)) (hn : ps.length = n) (hN : N.length = nn)
    (h : ∀ (cdv : Value) (A : Around) (outer : List Env) (s : Shared) (H : Hp) (E : XK), Room k (A.deeper (envOfC x (defScope st) s.heap.objs.size f cdv)) →
      ∃ t, PSs (cxOf CX0 P w K mg base N x (defScope st) f cdv A outer s H E).nox (defBody st) t ∧ DS K (fun _ => E) t ds) : CallG CX0 P w K mg base (k + 1) x st dvs kds ps (fnM nn n ds) := by
  subst hn hN
  obtain ⟨fd, F⟩ := F
  refine ⟨f, fd, g, F.kp, F, F.ok S (fun vs H Q E h => spD_len h) fun cdv A outer s H vs Q E hr hs => ?_⟩
  obtain ⟨t, h1, h2⟩ := h cdv A outer s H E hr
  exact ⟨t, PSs.nox h1, fn_body h2 hs⟩
theorem mk_callGX {ps N : List Str} {n nn : Nat} {f : Addr} {ds : Ev → RS} (F : ∃ fd, FunD K x x (defArgs st) (defBody st) (defScope st) dvs kds f fd) (g : mg x = some (.ref f)) (S : FnScope N ps (defScope st)) (hn : ps.length = n) (hN : N.length = nn)
    (h : ∀ (cdv : Value) (A : Around) (outer : List Env) (s : Shared) (H : Hp) (E : XK), Room k (A.deeper (envOfC x (defScope st) s.heap.objs.size f cdv)) →
      ∃ t, PSs (cxOf (L2.CX P w) P w K mg base N x (defScope st) f cdv A outer s H E) (defBody st) t ∧ DS K (fun _ => E) t ds) : CallG (L2.CX P w) P w K mg base (k + 1) x st dvs kds ps (fnM nn n ds) := by
  subst hn hN
  obtain ⟨fd, F⟩ := F
  refine ⟨f, fd, g, F.kp, F, F.ok S (fun vs H Q E h => spD_len h) fun cdv A outer s H vs Q E hr hs => ?_⟩
  obtain ⟨t, h1, h2⟩ := h cdv A outer s H E hr
  exact ⟨t, h1, fn_body h2 hs⟩
end
section
variable {K : Fg} [WD K] {W : WS} {m : Ev → RE X} {n nk : Nat} {src : List (Src D)} {srv : List (Src V)} {gV : List V → List V → List V} {t tk : TA} {da dk : Ev → RE (List X)}
theorem de_callG (hm : NoSl m) (hs : Paired (SrcR K) src srv) (hg : ∀ vs zs, vs.length = n → zs.length = nk → arr id srv (vs ++ zs) = some (gV vs zs)) (ha : DA K W t da) (hk : DA K W tk dk) : DE K W (tCallNS n nk (spD K m) gV W t tk) (dCall m (dArr n nk src da dk)) := by
  rw [tCallNS_eq]
  exact de_callS hm (da_arr hs hg ha hk)
theorem de_callG0 (hm : NoSl m) (hs : Paired (SrcR K) src srv) (hg : ∀ vs zs, vs.length = n → zs.length = nk → arr id srv (vs ++ zs) = some (gV vs zs)) (ha : DA K W t da) (hk : DA K W tk dk) : DE K W (tCallNS n nk (spD K m) gV (fun _ => L2.E0) t tk) (dCall0 m (dArr n nk src da dk)) := by
  rw [tCallNS_eq]
  exact de_call0 hm (da_arr hs hg ha hk)
end
end Dn

namespace Dn
open PySem PySem.Spec PyProof.Rows L2
/-! ### defaults that are tuples -/
/-- the keyword-only default nm of the def x, if it is an object -/
def kwAt (x nm : Str) (K : Fg) : Addr := match K.lookup (He.fAd K (x, none)) with
  | some ⟨_, _, .func fd, _⟩ => (match fd.kwdefaults with
    | .ref D => (match PySem.W.nsIn K D nm with
      | some (some (.ref a)) => a
      | _ => 0)
    | _ => 0)
  | _ => 0
def tupB (K : Fg) (a : Addr) (ds : List D) : Bool := match K.lookup a with
  | some ⟨.type t, none, .seq its _, _⟩ => decide (t = "tuple") && (decide (its.size ≤ sizeLine) && (match scals ds with
    | some vs => He.relAll vs its.toList
    | none => false))
  | _ => false
theorem rep_scal {K : Fg} [WD K] {M : Hp} {d : D} {v : V} (e : d.scal = some v) : Rep K M d v := by
  cases d <;> simp [D.scal] at e <;> subst e <;> simp [Rep]
theorem reps_scals {K : Fg} [WD K] {M : Hp} : ∀ {ds : List D} {vs : List V}, scals ds = some vs → Reps K M ds vs
  | [], vs, e => by
    simp only [scals] at e
    cases e
    simp [Reps]
  | d :: ds, vs, e => by
    simp only [scals] at e
    obtain ⟨v, e1, e2⟩ := Option.bind_eq_some_iff.mp e
    obtain ⟨us, e3, e4⟩ := Option.bind_eq_some_iff.mp e2
    cases e4
    simp only [Reps]
    exact ⟨v, us, rfl, rep_scal e1, reps_scals e3⟩
theorem tupB_ok {K : Fg} [WD K] {a : Addr} {ds : List D} (h : tupB K a ds = true) : DvR K (.tup ds) (.ref a) := fun M => by
  unfold tupB at h
  split at h
  · rename_i t its n sl hk
    obtain ⟨h1, h2⟩ := He.ba h
    obtain ⟨h2, h3⟩ := He.ba h2
    split at h3
    · rename_i vs e
      have ht : t = "tuple" := of_decide_eq_true h1
      subst ht
      exact ⟨a, vs, rfl, .inr ⟨_, its, n, hk, rfl, rfl, rfl, of_decide_eq_true h2, He.relAll_ok h3⟩, reps_scals e⟩
    · cases h3
  · cases h
end Dn

namespace Dn
open PySem PySem.Spec PyProof.Rows L2
/-! ### math.comb, math.gcd -/
def rComb : List V → Hp → VK → Prop := fun vs H Q => ∃ a b : Int, vs = [.int a, .int b] ∧ 0 ≤ a ∧ 0 ≤ b ∧ a ≤ 18000 ∧ Q (.int (PySem.W.mcComb a b)) H
theorem cr_comb {X : Cx} : CallR X (.builtin "math.comb") rComb := by
  intro pins s σ H vs us Q I r h
  obtain ⟨a, b, rfl, h1, h2, h3, q⟩ := h
  obtain ⟨t, u, rfl⟩ := Vals.int2 r
  exact PySem.W.mc_comb h1 h2 (by omega) (.inr h3) fun _ => ⟨.int _, H, I.tok _, ⟨_, rfl⟩, q⟩
def pComb : List D → Option X
  | [.int a, .int b] => if 0 ≤ a ∧ 0 ≤ b ∧ a ≤ 18000 then some (.im (.int (PySem.W.mcComb a b))) else none
  | _ => none
def pGcd : List D → Option X
  | [.int a, .int b] => some (.im (.int ((Nat.gcd a.natAbs b.natAbs : Nat) : Int)))
  | _ => none
section
variable {K : Fg} [WD K]
theorem ok_comb : CallOk K rComb pComb := by
  intro M H ds x vs e r hf Q q
  unfold pComb at hf
  split at hf
  · rename_i a b
    split at hf
    · rename_i h
      cases hf
      cases r with
      | cons r1 r =>
        cases r with
        | cons r2 r =>
          cases r
          rw [r1.int, r2.int]
          exact ⟨a, b, rfl, h.1, h.2.1, h.2.2, q.im0 e rep_int⟩
    · cases hf
  · cases hf
theorem ok_gcd : CallOk K rGcd pGcd := by
  intro M H ds x vs e r hf Q q
  unfold pGcd at hf
  split at hf
  · rename_i a b
    cases hf
    cases r with
    | cons r1 r =>
      cases r with
      | cons r2 r =>
        cases r
        rw [r1.int, r2.int]
        exact ⟨a, b, rfl, q.im0 e rep_int⟩
  · cases hf
end
end Dn

namespace Dn
open PySem PySem.Spec PyProof.Rows L2
/-! ### a = b = value -/
def dAsg2 (dg1 dg2 : D → Ev → Option Ev) (de : Ev → RE X) : Ev → RS := fun env => (de env).stm fun x e1 => optS ((frz x).bind fun d => (dg1 d e1).bind (dg2 d))
section
variable {K : Fg} [WD K] {W : WS} {te : TE} {de : Ev → RE X}
theorem ds_asg2 {g1 g2 : TG} {dg1 dg2 : D → Ev → Option Ev} (h1 : DG K g1 dg1) (h2 : DG K g2 dg2) (h : DE K W te de) : DS K W (tAsg2 te g1 g2) (dAsg2 dg1 dg2 de) := fun M σ H env hh => by
  refine Sat.stm (c := fun v H1 D => g1 v σ H1 fun σ1 H2 => g2 v σ1 H2 D.nx) hh (h M σ H env hh) (fun D q => q) fun M1 H1 env1 x v ga s hh1 r => ?_
  cases e : (frz x).bind fun d => (dg1 d env1).bind (dg2 d) with
  | none => trivial
  | some env' =>
    obtain ⟨d, e1, e2⟩ := Option.bind_eq_some_iff.mp e
    obtain ⟨env2, e3, e4⟩ := Option.bind_eq_some_iff.mp e2
    have gb := frzM_grow ga
    have hh2 := frzM_holds (H := H) hh1
    refine fun D k => h1 _ σ H1 env1 env2 d v hh2 (frz_rep r e1) e3 _ fun σ' g3 hh3 => ?_
    exact h2 _ σ' H1 env2 env' d v hh3 (frz_rep r e1) e4 _ fun σ'' g4 hh4 => k σ'' _ H1 ((gb.trans hh g3).trans hh g4) hh4
end
end Dn

namespace Dn
open PySem PySem.Spec PyProof.Rows L2
/-! ### dicts: how they are read and written -/
/-- where a rule about dicts runs -/
structure DCx (X : Cx) (K : Fg) [WD K] : Prop where
  hK : X.K = K
  hP : WD.P K = X.prog
  hw : WD.w K = X.w
/-- all keys of the rows stand -/
def KeysAt (K : Fg) (H : Hp) (xs : List (List Key × Addr × Value)) : Prop := ∀ x ∈ xs, SqN K H x.2.1 (x.1.map kV)
/-- what the dict at a holds at the key y -/
def DG1 (K : Fg) [WD K] (H : Hp) (a : Addr) (y : V) (r : Option V) : Prop :=
  (∃ o vs k, H a = some (obO a o) ∧ DkF K a o vs ∧ y = kV k ∧ RelO r (valueAt vs k)) ∨
  ∃ o xs k b, H a = some (obO a o) ∧ DtF K a o xs ∧ KeysAt K H xs ∧ y = .ref b ∧ SqN K H b (k.map kV) ∧ RelO r ((atKey xs k).map (·.2))
/-- the heap behind a[y] = v -/
def DP1 (K : Fg) [WD K] (H : Hp) (a : Addr) (y v : V) (Q : Hp → Prop) : Prop :=
  (∃ o vs k, H a = some (obO a o) ∧ DkF K a o vs ∧ y = kV k ∧ (stored vs k .none).length ≤ sizeLine ∧ ∀ o' u, RelV v u → DkF K a o' (stored vs k u) → Q (upd H a (obO a o'))) ∨
  ∃ o xs k b, H a = some (obO a o) ∧ DtF K a o xs ∧ KeysAt K H xs ∧ y = .ref b ∧ SqN K H b (k.map kV) ∧ (storedH xs k b .none).length ≤ sizeLine ∧ ∀ o' u, RelV v u → DtF K a o' (storedH xs k b u) → Q (upd H a (obO a o'))
section
variable {X : Cx} {K : Fg} [WD K] {pins : List (Addr × Obj)} {σ : L2.St} {H : Hp} {s : Shared} {a b : Addr} {o : Obj} {A : Around} {E : Value → Shared → Prop} {y v : V} {u r : Value}
theorem ob_at (I : Inv X pins σ H s) (h : H a = some (obO a o)) : s.heap.get? a = some o := (I.hok a _ h).1
theorem ob_ok {P : Program} {w : World} {h : Heap} (e : h.get? a = some o) : ObjOk P w H h a (obO a o) := ⟨e, ⟨_, e⟩, fun _ _ x k => k _ x⟩
theorem dk_in {vs : List (Key × Value)} (cx : DCx X K) (I : Inv X pins σ H s) (h : H a = some (obO a o)) (f : DkF K a o vs) : s.heap.DictOf (mixKind X.prog X.w) a vs := by
  obtain ⟨_, _, hx, es, ep, h1, h2, h3, h4⟩ := f
  have e := ob_at I h
  obtain ⟨_, hP, hw⟩ := cx
  rw [← hP, ← hw]
  exact ⟨o, es, ep, e, hx, h1, h2, h3, h4⟩
theorem key_is {k : List Key} (I : Inv X pins σ H s) (h : SqN X.K H b (k.map kV)) : (tupleKind (mixKind X.prog X.w)).is s.heap k b := by
  rcases h with ⟨o, h, _⟩ | ⟨o, its, n, h1, h2, _, h3, h4, h5⟩
  · obtain ⟨e, _, its, r, o2, q1, q2, n, q3⟩ := I.hok b _ h
    exact ⟨o2, its.toArray, n, q1, q2, q3, by simpa using items_are r⟩
  · have e := I.kIn b o h1
    exact ⟨o, its, n, e, h2, h3, items_are h5⟩
theorem dt_in {xs : List (List Key × Addr × Value)} (cx : DCx X K) (I : Inv X pins σ H s) (h : H a = some (obO a o)) (f : DtF K a o xs) (hk : KeysAt K H xs) : s.heap.DictOfH (tupleKind (mixKind X.prog X.w)) a xs := by
  obtain ⟨_, _, hx, es, ep, h1, h2, h4⟩ := f
  have e := ob_at I h
  obtain ⟨rfl, hP, hw⟩ := cx
  refine ⟨o, es, ep, e, hx, h1, ?_, fun x hx => key_is I (hk x hx), h4⟩
  rw [← hP, ← hw]
  exact h2
theorem dk_out {vs : List (Key × Value)} {h' : Heap} (cx : DCx X K) (hz : vs.length ≤ sizeLine) (hd : (a == sysModules) = false) (f : h'.DictOf (mixKind X.prog X.w) a vs) : ∃ o, h'.get? a = some o ∧ DkF K a o vs := by
  obtain ⟨_, hP, hw⟩ := cx
  rw [← hP, ← hw] at f
  obtain ⟨o, es, ep, e, hx, h1, h2, h3, h4⟩ := f
  exact ⟨o, e, hz, hd, hx, es, ep, h1, h2, h3, h4⟩
theorem dt_out {xs : List (List Key × Addr × Value)} {h' : Heap} (cx : DCx X K) (hz : xs.length ≤ sizeLine) (hd : (a == sysModules) = false) (f : h'.DictOfH (tupleKind (mixKind X.prog X.w)) a xs) : ∃ o, h'.get? a = some o ∧ DtF K a o xs := by
  obtain ⟨_, hP, hw⟩ := cx
  rw [← hP, ← hw] at f
  obtain ⟨o, es, ep, e, hx, h1, h2, _, h4⟩ := f
  exact ⟨o, e, hz, hd, hx, es, ep, h1, h2, h4⟩
theorem g_type (cx : DCx X K) (I : Inv X pins σ H s) {ov : Option V} (g : DG1 K H a y ov) : s.TypeIs (.ref a) "dict" := by
  rcases g with ⟨o, vs, k, e, f, _, _⟩ | ⟨o, xs, k, b, e, f, hk, _, _, _⟩
  · exact (dk_in cx I e f).typeIs
  · exact (dt_in cx I e f hk).typeIs
/-- d[y], there -/
theorem g_item {Q : Value → Shared → Prop} (cx : DCx X K) (hu : A.units + 1 < cLine) (I : Inv X pins σ H s) (g : DG1 K H a y (some v)) (ry : RelV y u) (h : ∀ w' s', Inv X pins σ H s' → RelV v w' → Q w' s') :
    wpAny (model X.prog X.w) A (getItem (.ref a) u) Q E s := by
  rcases g with ⟨o, vs, k, e, f, ey, l⟩ | ⟨o, xs, k, b, e, f, hk, ey, eb, l⟩
  · subst ey
    have dd := dk_in cx I e f
    obtain ⟨w', hw, rw'⟩ := RelO.some_of (v := v) (o := valueAt vs k) l
    exact wpAny_getItem_of (kV_is ry) dd.mapOf hw (h w' _ (I.tok _) rw')
  · subst ey
    cases (show u = Value.ref b from ry)
    have dd := dt_in cx I e f hk
    have eb : SqN X.K H b (k.map kV) := by rw [cx.hK]; exact eb
    obtain ⟨w', hw, rw'⟩ := RelO.some_of (v := v) (o := (atKey xs k).map (·.2)) l
    obtain ⟨p, hp, hp2⟩ := Option.map_eq_some_iff.mp hw
    refine wpAny_getItem_heap (tupleKind_room_in1 hu) (key_is I eb) dd hp ?_
    rw [hp2]
    exact h w' _ (I.tok _) rw'
theorem g_in {Q : Value → Shared → Prop} {ov : Option V} (cx : DCx X K) (hu : A.units + 1 < cLine) (I : Inv X pins σ H s) (g : DG1 K H a y ov) (ry : RelV y u) (h : ∀ s', Inv X pins σ H s' → Q (.bool ov.isSome) s') :
    wpAny (model X.prog X.w) A (compareOp .In u (.ref a)) Q E s := by
  rcases g with ⟨o, vs, k, e, f, ey, l⟩ | ⟨o, xs, k, b, e, f, hk, ey, eb, l⟩
  · subst ey
    have dd := dk_in cx I e f
    refine wpAny_in_of (kV_is ry) f.2.1 dd.mapOf ?_
    rw [← l.isSome_eq]
    exact h _ (I.tok _)
  · subst ey
    cases (show u = Value.ref b from ry)
    have dd := dt_in cx I e f hk
    have eb : SqN X.K H b (k.map kV) := by rw [cx.hK]; exact eb
    refine wpAny_in_heap (tupleKind_room_in1 hu) (key_is I eb) f.2.1 dd ?_
    have q := l.isSome_eq
    rw [Option.isSome_map] at q
    rw [← q]
    exact h _ (I.tok _)
/-- d.get(y, x) -/
theorem g_get2 {Q : Value → Shared → Prop} {d : V} {ov : Option V} (cx : DCx X K) (hu : A.units + 1 < cLine) (I : Inv X pins σ H s) (g : DG1 K H a y ov) (ry : RelV y u) (rd : RelV d r) (h : ∀ w' s', Inv X pins σ H s' → RelV (ov.getD d) w' → Q w' s') :
    wpAny (model X.prog X.w) A (call (.builtin "dict.get") [.ref a, u, r]) Q E s := by
  rcases g with ⟨o, vs, k, e, f, ey, l⟩ | ⟨o, xs, k, b, e, f, hk, ey, eb, l⟩
  · subst ey
    have dd := dk_in cx I e f
    exact call_meetsIn PySem.F.slot_dict_get dd.typeIs PySem.F.entry_dict_get (PySem.F.args_dict_get_3 _ _ _) (meets_dict_get_default (mixKind X.prog X.w) a (kV_is ry) f.2.1 r) ⟨_, dd.mapOf, h _ _ (I.tok _) (l.getD rd)⟩
  · subst ey
    cases (show u = Value.ref b from ry)
    have dd := dt_in cx I e f hk
    have eb : SqN X.K H b (k.map kV) := by rw [cx.hK]; exact eb
    exact call_meetsIn PySem.F.slot_dict_get dd.typeIs PySem.F.entry_dict_get (PySem.F.args_dict_get_3 _ _ _) (meetsH_dict_get_default (tupleKind (mixKind X.prog X.w)) a b f.2.1 r) ⟨tupleKind_room_in1 hu, k, xs, key_is I eb, dd, h _ _ (I.tok _) (l.getD rd)⟩
theorem stored_len (vs : List (Key × Value)) (k : Key) (u u' : Value) : (stored vs k u).length = (stored vs k u').length := by
  unfold stored
  split <;> simp
theorem storedH_len (xs : List (List Key × Addr × Value)) (k : List Key) (b : Addr) (u u' : Value) : (storedH xs k b u).length = (storedH xs k b u').length := by
  unfold storedH
  split <;> simp
/-- d[y] = v -/
theorem g_set {Q : Unit → Shared → Prop} {R : Hp → Prop} (cx : DCx X K) (hu : A.units + 1 < cLine) (I : Inv X pins σ H s) (g : DP1 K H a y v R) (ry : RelV y u) (rv : RelV v r) (h : ∀ H' s', R H' → Inv X pins σ H' s' → Q () s') :
    wpAny (model X.prog X.w) A (setItem (.ref a) u r) Q E s := by
  rcases g with ⟨o, vs, k, e, f, ey, hz, l⟩ | ⟨o, xs, k, b, e, f, hk, ey, eb, hz, l⟩
  · subst ey
    have dd := dk_in cx I e f
    refine wpAny_setItem_pairs (hsz := f.1) (kV_is ry) dd fun h' dd' hs => ?_
    obtain ⟨o', e', f'⟩ := dk_out cx (by rw [stored_len vs k r .none]; exact hz) f.2.1 dd'
    exact h _ _ (l o' r rv f') (d_write I (by rw [e]; exact True.intro) hs ⟨o', e'⟩ (ob_ok e'))
  · subst ey
    cases (show u = Value.ref b from ry)
    have dd := dt_in cx I e f hk
    have eb' : SqN X.K H b (k.map kV) := by rw [cx.hK]; exact eb
    refine wpAny_setItem_heap (hsz := f.1) (tupleKind_room_in1 hu) (key_is I eb') dd fun h' dd' hs => ?_
    obtain ⟨o', e', f'⟩ := dt_out cx (by rw [storedH_len xs k b r .none]; exact hz) f.2.1 dd'
    exact h _ _ (l o' r rv f') (d_write I (by rw [e]; exact True.intro) hs ⟨o', e'⟩ (ob_ok e'))
end
/-! ### the rules -/
/-- a is a dict -/
def IsDN (K : Fg) [WD K] (H : Hp) (a : Addr) : Prop := (∃ o vs, H a = some (obO a o) ∧ DkF K a o vs) ∨ ∃ o xs, H a = some (obO a o) ∧ DtF K a o xs
/-- d[y] -/
def rItD (K : Fg) [WD K] : R2 := fun x y H Q => ∃ a v, x = .ref a ∧ DG1 K H a y (some v) ∧ Q v H
def rInD (K : Fg) [WD K] (neg : Bool) : R2 := fun y x H Q => ∃ a ov, x = .ref a ∧ DG1 K H a y ov ∧ Q (.bl (ov.isSome != neg)) H
def tGetD (K : Fg) [WD K] (td ty tx : TE) : TE := fun σ H Q => td σ H fun x H1 => ∃ a, x = .ref a ∧ IsDN K H1 a ∧ ty σ H1 fun y H2 => tx σ H2 fun z H3 => ∃ ov, DG1 K H3 a y ov ∧ Q (ov.getD z) H3
def rSetD (K : Fg) [WD K] : V → V → V → Hp → (Hp → Prop) → Prop := fun x y v H Q => ∃ a, x = .ref a ∧ DP1 K H a y v Q
section
variable {X : Cx} {K : Fg} [WD K] {o i e f : Expr} {pos apos cpos : Pos} {td ty tx tv : TE}
theorem isDN_at (cx : DCx X K) {pins : List (Addr × Obj)} {σ : L2.St} {H : Hp} {s : Shared} {a : Addr} (I : Inv X pins σ H s) (d : IsDN K H a) : s.TypeIs (.ref a) "dict" ∧ ∀ b, Value.ref a = .ref b → ∃ ob, s.heap.get? b = some ob ∧ ob.dict = none := by
  rcases d with ⟨o, vs, e, f⟩ | ⟨o, xs, e, f⟩
  · have q := ob_at I e
    refine ⟨⟨o, q, f.2.2.1.1⟩, fun b z => ?_⟩
    cases z
    exact ⟨o, q, f.2.2.1.2.1⟩
  · have q := ob_at I e
    refine ⟨⟨o, q, f.2.2.1.1⟩, fun b z => ?_⟩
    cases z
    exact ⟨o, q, f.2.2.1.2.1⟩
theorem pe_itemD (cx : DCx X K) (hu : X.A.units + 1 < cLine) (ho : PE X o td) (hi : PE X i ty) (hs : L2.NoSl i) : PE X (.Subscript o i pos) (tOp (rItD K) td ty) := by
  refine ⟨fun pins s σ H Q I h => ?_⟩
  refine subD_of PySem.F.slot_dict_getitem.lookup hs (thn (ho.run pins s σ H _ I h) fun u s1 ⟨x, H1, I1, rx, q1⟩ => thn (hi.run pins s1 σ H1 _ I1 q1) fun iv s2 ⟨y, H2, I2, ry, a, v, ex, g, q2⟩ => ?_)
  subst ex
  obtain rfl : u = Value.ref a := rx
  exact ⟨g_type cx I2 g, g_item cx hu I2 g ry fun w' s3 I3 rw' => ⟨v, H2, I3, rw', q2⟩⟩
theorem pe_getD (cx : DCx X K) (hu : X.A.units + 1 < cLine) (ho : PE X o td) (he : PE X e ty) (hf : PE X f tx) (m : M2 X o "get" apos e f cpos) : PE X (.Call (.Attribute o "get" apos) [e, f] [] cpos) (tGetD K td ty tx) := by
  refine ⟨fun pins s σ H Q I h => ?_⟩
  refine wpAny_Call_method m.base m.few m.line PySem.F.plainAttrs_dict PySem.F.slot_dict_get PySem.F.type_dict_get (thn (ho.run pins s σ H _ I h) fun u s1 ⟨x, H1, I1, rx, a, ex, d, q1⟩ => ?_)
  subst ex
  obtain rfl : u = Value.ref a := rx
  obtain ⟨t1, t2⟩ := isDN_at cx I1 d
  refine ⟨t1, t2, ?_⟩
  rw [m.trees]
  refine Calls.callWith_builtin rfl (Calls.evalArgs_plain (Calls.spliced_cons (thn (he.run pins s1 σ H1 _ I1 q1) fun iv s2 ⟨y, H2, I2, ry, q2⟩ =>
    Calls.spliced_cons (thn (hf.run pins s2 σ H2 _ I2 q2) fun fv s3 ⟨z, H3, I3, rz, ov, g, q3⟩ => Calls.spliced_nil ?_))))
  exact g_get2 cx hu I3 g ry rz fun w' s4 I4 rw' => ⟨_, H3, I4, rw', q3⟩
theorem set_dict (cx : DCx X K) (hu : X.A.units + 1 < cLine) : PSet X (rSetD K) := by
  intro pins s σ H o i v ov iv u Q I ro ri rv h
  obtain ⟨a, rfl, g⟩ := h
  cases ro
  exact g_set cx hu I g ri rv fun H' s' q I' => ⟨H', I', q⟩
end
end Dn

namespace Dn
open PySem PySem.Spec PyProof.Rows L2
/-! ### dicts: denotations -/
def getKD {κ : Type} [DecidableEq κ] (kvs : List (κ × D)) (k : κ) : Option D := (kvs.find? fun kv => decide (kv.1 = k)).map (·.2)
def putKD {κ : Type} [DecidableEq κ] (kvs : List (κ × D)) (k : κ) (x : D) : List (κ × D) := if (getKD kvs k).isSome = true then kvs.map (fun kv => if kv.1 = k then (kv.1, x) else kv) else kvs ++ [(k, x)]
def keyD : D → Option Key
  | .int i => some (.inl i)
  | .str x => some (.inr x)
  | _ => none
def keysD : List D → Option (List Key)
  | [] => some []
  | d :: ds => (keyD d).bind fun k => (keysD ds).map fun ks => k :: ks
def keyT : D → Option (List Key)
  | .tup ds => keysD ds
  | _ => none
def Key.toD : Key → D
  | .inl i => .int i
  | .inr x => .str x
/-- what stands at the key: not told, nothing, something -/
def lookD (x y : D) : Option (Option D) := match x with
  | .dk kvs => (keyD y).map fun k => getKD kvs k
  | .dt kvs => (keyT y).map fun k => getKD kvs k
  | _ => none
section
variable {K : Fg} [WD K] {W : WS} {M M' M1 M2 : Hp} {env env' env1 env2 : Ev} {σ σ' σ1 : L2.St} {H H' H1 H2 : Hp} {x y : X} {v u : V} {te td ty tx : TE} {de dd dy dx : Ev → RE X}
theorem getKD_nil {κ : Type} [DecidableEq κ] {k : κ} : getKD ([] : List (κ × D)) k = none := rfl
theorem getKD_pos {κ : Type} [DecidableEq κ] {p : κ × D} {r : List (κ × D)} {k : κ} (e : p.1 = k) : getKD (p :: r) k = some p.2 := by simp [getKD, List.find?_cons, e]
theorem getKD_neg {κ : Type} [DecidableEq κ] {p : κ × D} {r : List (κ × D)} {k : κ} (e : ¬ p.1 = k) : getKD (p :: r) k = getKD r k := by simp [getKD, List.find?_cons, e]
theorem valAt_pos {κ : Type} [DecidableEq κ] {p : κ × Value} {r : List (κ × Value)} {k : κ} (e : p.1 = k) : valueAt (p :: r) k = some p.2 := by simp [valueAt, List.find?_cons, e]
theorem valAt_neg {κ : Type} [DecidableEq κ] {p : κ × Value} {r : List (κ × Value)} {k : κ} (e : ¬ p.1 = k) : valueAt (p :: r) k = valueAt r k := by simp [valueAt, List.find?_cons, e]
theorem atKey_pos {p : List Key × Addr × Value} {r : List (List Key × Addr × Value)} {k : List Key} (e : p.1 = k) : atKey (p :: r) k = some p.2 := by simp [atKey, List.find?_cons, e]
theorem atKey_neg {p : List Key × Addr × Value} {r : List (List Key × Addr × Value)} {k : List Key} (e : ¬ p.1 = k) : atKey (p :: r) k = atKey r k := by simp [atKey, List.find?_cons, e]
/-- the same at both: nothing, or what stands for it -/
def SameO (K : Fg) [WD K] (M : Hp) (d : Option D) (ov : Option V) : Prop := match d, ov with
  | none, none => True
  | some d, some v => Rep K M d v
  | _, _ => False
theorem repK_get {kvs : List (Key × D)} {vs : List (Key × Value)} (r : RepK K M kvs vs) (k : Key) : ∃ ov, RelO ov (valueAt vs k) ∧ SameO K M (getKD kvs k) ov := by
  induction r with
  | nil => exact ⟨none, True.intro, True.intro⟩
  | @cons p q ps qs h t ih =>
    obtain ⟨h1, v, h2, h3⟩ := h
    by_cases e : p.1 = k
    · rw [getKD_pos e, valAt_pos (h1.symm.trans e)]
      exact ⟨some v, h2, h3⟩
    · rw [getKD_neg e, valAt_neg (fun z => e (h1.trans z))]
      exact ih
theorem repT_get {kvs : List (List Key × D)} {vs : List (List Key × Addr × Value)} (r : RepT K M kvs vs) (k : List Key) : ∃ ov, RelO ov ((atKey vs k).map (·.2)) ∧ SameO K M (getKD kvs k) ov := by
  induction r with
  | nil => exact ⟨none, True.intro, True.intro⟩
  | @cons p q ps qs h t ih =>
    obtain ⟨h1, _, v, h2, h3⟩ := h
    by_cases e : p.1 = k
    · rw [getKD_pos e, atKey_pos (h1.symm.trans e)]
      exact ⟨some v, h2, h3⟩
    · rw [getKD_neg e, atKey_neg (fun z => e (h1.trans z))]
      exact ih
theorem same_some {d : Option D} {ov : Option V} (h : SameO K M d ov) : d.isSome = ov.isSome := by
  cases d <;> cases ov <;> first | rfl | exact h.elim
theorem repK_any {kvs : List (Key × D)} {vs : List (Key × Value)} (r : RepK K M kvs vs) (k : Key) : (vs.any fun kv => decide (kv.1 = k)) = (getKD kvs k).isSome := by
  induction r with
  | nil => rfl
  | @cons p q ps qs h t ih =>
    obtain ⟨h1, v, h2, h3⟩ := h
    by_cases e : p.1 = k
    · rw [getKD_pos e, List.any_cons, decide_eq_true (h1.symm.trans e)]
      rfl
    · rw [getKD_neg e, List.any_cons, decide_eq_false (fun z => e (h1.trans z)), ih, Bool.false_or]
theorem repT_any {kvs : List (List Key × D)} {vs : List (List Key × Addr × Value)} (r : RepT K M kvs vs) (k : List Key) : (atKey vs k).isSome = (getKD kvs k).isSome := by
  obtain ⟨ov, h1, h2⟩ := repT_get r k
  rw [same_some h2, h1.isSome_eq, Option.isSome_map]
theorem paired_snoc {α β : Type} {F : α → β → Prop} : ∀ {xs : List α} {ys : List β} {a : α} {b : β}, Paired F xs ys → F a b → Paired F (xs ++ [a]) (ys ++ [b])
  | _, _, a, b, .nil, h => .cons h .nil
  | _, _, a, b, .cons h t, h' => .cons h (paired_snoc t h')
theorem repK_put {kvs : List (Key × D)} {vs : List (Key × Value)} (r : RepK K M kvs vs) (k : Key) {d : D} {v : V} {u : Value} (h1 : RelV v u) (h2 : Rep K M d v) : RepK K M (putKD kvs k d) (stored vs k u) := by
  unfold putKD stored
  rw [repK_any r k]
  by_cases q : (getKD kvs k).isSome = true
  · rw [if_pos q, if_pos q]
    clear q
    induction r with
    | nil => exact .nil
    | @cons p q ps qs h t ih =>
      rw [List.map_cons, List.map_cons]
      refine .cons ?_ ih
      obtain ⟨h3, w, h4, h5⟩ := h
      by_cases e : p.1 = k
      · rw [if_pos e, if_pos (h3.symm.trans e)]; exact ⟨h3, v, h1, h2⟩
      · rw [if_neg e, if_neg (fun z => e (h3.trans z))]; exact ⟨h3, w, h4, h5⟩
  · rw [if_neg q, if_neg q]; exact paired_snoc r ⟨rfl, v, h1, h2⟩
theorem repT_put {kvs : List (List Key × D)} {vs : List (List Key × Addr × Value)} (r : RepT K M kvs vs) (k : List Key) {b : Addr} {d : D} {v : V} {u : Value} (hb : SqN K M b (k.map kV)) (h1 : RelV v u) (h2 : Rep K M d v) : RepT K M (putKD kvs k d) (storedH vs k b u) := by
  unfold putKD storedH
  rw [repT_any r k]
  by_cases q : (getKD kvs k).isSome = true
  · rw [if_pos q, if_pos q]
    clear q
    induction r with
    | nil => exact .nil
    | @cons p q ps qs h t ih =>
      rw [List.map_cons, List.map_cons]
      refine .cons ?_ ih
      obtain ⟨h3, h6, w, h4, h5⟩ := h
      unfold putAt
      by_cases e : p.1 = k
      · rw [if_pos e, if_pos (h3.symm.trans e)]; exact ⟨h3, h6, v, h1, h2⟩
      · rw [if_neg e, if_neg (fun z => e (h3.trans z))]; exact ⟨h3, h6, w, h4, h5⟩
  · rw [if_neg q, if_neg q]; exact paired_snoc r ⟨rfl, hb, v, h1, h2⟩
theorem keyD_ok {d : D} {k : Key} (e : keyD d = some k) (h : Rd2 K M H d v) : v = kV k := by
  cases d with
  | int i => cases e; exact h.int
  | str x => cases e; exact h.str
  | _ => cases e
theorem keysD_ok : ∀ {ds : List D} {ks : List Key} {vs : List V}, keysD ds = some ks → Reps K M ds vs → vs = ks.map kV
  | [], ks, vs, e, h => by
    cases e
    simpa [Reps] using h
  | d :: ds, ks, vs, e, h => by
    obtain ⟨k, e1, e2⟩ := Option.bind_eq_some_iff.mp e
    obtain ⟨ks', e3, rfl⟩ := Option.map_eq_some_iff.mp e2
    simp only [Reps] at h
    obtain ⟨v, r, rfl, h1, h2⟩ := h
    rw [keyD_ok (H := M) e1 (.inl h1), keysD_ok e3 h2]
    rfl
theorem keyT_ok {d : D} {ks : List Key} (e : keyT d = some ks) (h : Rd2 K M H d v) : ∃ b, v = .ref b ∧ SqN K M b (ks.map kV) := by
  cases d with
  | tup ds =>
    rcases h with h | ⟨l, o, _, _, e2⟩
    · simp only [Rep] at h
      obtain ⟨a, vs, h1, h2, h3⟩ := h
      rw [keysD_ok e h3] at h2
      exact ⟨a, h1, h2⟩
    · cases o <;> cases e2
  | _ => cases e
theorem Rd2.dk {kvs : List (Key × D)} (h : Rd2 K M H (.dk kvs) v) (s : Same M H) : ∃ a o vs, v = .ref a ∧ H a = some (obO a o) ∧ DkF K a o vs ∧ RepK K M kvs vs := by
  rcases h with h | ⟨l, o, e1, a, e⟩
  · simp only [Rep] at h
    obtain ⟨a, o, vs, h1, h2, h3, h4⟩ := h
    exact ⟨a, o, vs, h1, s _ _ h2, h3, repG_iff.mp h4⟩
  · cases o with
    | dk xs =>
      cases e
      obtain ⟨o, vs, h1, h2, h3⟩ := a
      exact ⟨l, o, vs, e1, h1, h2, h3⟩
    | _ => cases e
theorem Rd2.dt {kvs : List (List Key × D)} (h : Rd2 K M H (.dt kvs) v) (s : Same M H) : ∃ a o vs, v = .ref a ∧ H a = some (obO a o) ∧ DtF K a o vs ∧ RepT K M kvs vs := by
  rcases h with h | ⟨l, o, e1, a, e⟩
  · simp only [Rep] at h
    obtain ⟨a, o, vs, h1, h2, h3, h4⟩ := h
    exact ⟨a, o, vs, h1, s _ _ h2, h3, repH_iff.mp h4⟩
  · cases o with
    | dt xs =>
      cases e
      obtain ⟨o, vs, h1, h2, h3⟩ := a
      exact ⟨l, o, vs, e1, h1, h2, h3⟩
    | _ => cases e
theorem keysAt {kvs : List (List Key × D)} {vs : List (List Key × Addr × Value)} (r : RepT K M kvs vs) (s : Same M H) : KeysAt K H vs := by
  induction r with
  | nil => exact fun x h => nomatch h
  | @cons p q ps qs h t ih =>
    intro x hx
    obtain ⟨h1, h2, _⟩ := h
    rcases List.mem_cons.mp hx with rfl | hx
    · rw [← h1]
      exact h2.mono s
    · exact ih x hx
theorem look_ok {dx dy : D} {r : Option D} (s : Same M H) (h1 : Rd2 K M H dx v) (h2 : Rd2 K M H dy u) (e : lookD dx dy = some r) : ∃ a ov, v = .ref a ∧ DG1 K H a u ov ∧ SameO K M r ov := by
  cases dx with
  | dk kvs =>
    obtain ⟨k, e1, rfl⟩ := Option.map_eq_some_iff.mp e
    obtain ⟨a, o, vs, rfl, q1, q2, q3⟩ := h1.dk s
    obtain ⟨ov, q4, q5⟩ := repK_get q3 k
    exact ⟨a, ov, rfl, .inl ⟨o, vs, k, q1, q2, keyD_ok e1 h2, q4⟩, q5⟩
  | dt kvs =>
    obtain ⟨k, e1, rfl⟩ := Option.map_eq_some_iff.mp e
    obtain ⟨a, o, vs, rfl, q1, q2, q3⟩ := h1.dt s
    obtain ⟨ov, q4, q5⟩ := repT_get q3 k
    obtain ⟨b, rfl, hb⟩ := keyT_ok e1 h2
    exact ⟨a, ov, rfl, .inr ⟨o, vs, k, b, q1, q2, keysAt q3 s, rfl, hb.mono s, q4⟩, q5⟩
  | _ => cases e
/-- d[y] -/
def pItD (x y : D) : Option X := (lookD x y).bind fun r => r.map X.im
theorem ok_itD : OpOk K (rItD K) pItD := fun M H dx dy x v u s h1 h2 e Q q => by
  obtain ⟨r, e1, e2⟩ := Option.bind_eq_some_iff.mp e
  obtain ⟨d, rfl, rfl⟩ := Option.map_eq_some_iff.mp e2
  obtain ⟨a, ov, rfl, g, so⟩ := look_ok s h1 h2 e1
  cases ov with
  | none => exact so.elim
  | some w => exact ⟨a, w, rfl, g, q.im0 s so⟩
/-- d.get(y, z) -/
def isDic : D → Bool
  | .dk _ => true
  | .dt _ => true
  | _ => false
def imX : X → Option D
  | .im d => some d
  | _ => none
def dGetD (dd dy dx : Ev → RE X) : Ev → RE X := fun env => (dd env).bind fun x e1 => if ((rd e1 x).map isDic) = some true then (dy e1).bind fun y e2 => (dx e2).bind fun z e3 => opt ((rd e3 x).bind fun a => (rd e3 y).bind fun b => (imX z).bind fun c => (lookD a b).map fun r => X.im (r.getD c)) e3 else .bad
theorem isDN_of {d : D} (s : Same M H) (h : Rd2 K M H d v) (e : isDic d = true) : ∃ a, v = .ref a ∧ IsDN K H a := by
  cases d with
  | dk kvs =>
    obtain ⟨a, o, vs, rfl, q1, q2, q3⟩ := h.dk s
    exact ⟨a, rfl, .inl ⟨o, vs, q1, q2⟩⟩
  | dt kvs =>
    obtain ⟨a, o, vs, rfl, q1, q2, q3⟩ := h.dt s
    exact ⟨a, rfl, .inr ⟨o, vs, q1, q2⟩⟩
  | _ => cases e
theorem de_getD (hd : DE K W td dd) (hy : DE K W ty dy) (hx : DE K W tx dx) : DE K W (tGetD K td ty tx) (dGetD dd dy dx) := fun M σ H env hh => by
  refine Sat.bind (c := fun v H1 Q => ∃ a, v = V.ref a ∧ IsDN K H1 a ∧ ty σ H1 fun y H2 => tx σ H2 fun z H3 => ∃ ov, DG1 K H3 a y ov ∧ Q (ov.getD z) H3) back_x hh (hd M σ H env hh) (fun Q q => q) fun M1 H1 env1 x v g1 s1 hh1 r1 => ?_
  by_cases hc : ((rd env1 x).map isDic) = some true
  · rw [if_pos hc]
    obtain ⟨d0, q1, q2⟩ := Option.map_eq_some_iff.mp hc
    obtain ⟨a, rfl, isd⟩ := isDN_of hh1.ex (rd_ok hh1 r1.1 q1) q2
    refine Sat.bind (c := fun y H2 Q => tx σ H2 fun z H3 => ∃ ov, DG1 K H3 a y ov ∧ Q (ov.getD z) H3) back_x hh1 (hy M1 σ H1 env1 hh1) (fun Q q => ⟨a, rfl, isd, q⟩) fun M2 H2 env2 y u g2 s2 hh2 r2 => ?_
    refine Sat.bind (c := fun z H3 Q => ∃ ov, DG1 K H3 a u ov ∧ Q (ov.getD z) H3) back_x hh2 (hx M2 σ H2 env2 hh2) (fun Q q => q) fun M3 H3 env3 z w g3 s3 hh3 r3 => ?_
    refine sat_fin hh3 fun x' e Q q => ?_
    obtain ⟨da, e1, e⟩ := Option.bind_eq_some_iff.mp e
    obtain ⟨db, e2, e⟩ := Option.bind_eq_some_iff.mp e
    obtain ⟨dc, e3, e⟩ := Option.bind_eq_some_iff.mp e
    obtain ⟨r, e4, rfl⟩ := Option.map_eq_some_iff.mp e
    have ra := rd_ok hh3 (RepX.grow hh2 (RepX.grow hh1 r1.1 g2 s2) g3 s3) e1
    have rb := rd_ok hh3 (RepX.grow hh2 r2.1 g3 s3) e2
    obtain ⟨a', ov, e5, g, so⟩ := look_ok hh3.ex ra rb e4
    cases e5
    have rz : Rep K M3 dc w := by
      cases z with
      | im d => cases e3; exact r3.1
      | _ => cases e3
    refine ⟨ov, g, q.im0 hh3.ex ?_⟩
    cases r with
    | none =>
      cases ov with
      | none => exact rz
      | some _ => exact so.elim
    | some d =>
      cases ov with
      | none => exact so.elim
      | some _ => exact so
  · rw [if_neg hc]
    trivial
/-- d[k] = x -/
def setD (ds : List D) (po : Bool × OD) : Option OD := match ds, po.2 with
  | [d, k], .dk kvs => (keyD k).bind fun k => if fit (putKD kvs k d).length = true then some (.dk (putKD kvs k d)) else none
  | [d, k], .dt kvs => (keyT k).bind fun k => if fit (putKD kvs k d).length = true then some (.dt (putKD kvs k d)) else none
  | _, _ => none
def dSetD (i : Nat) (de dk : Ev → RE X) : Ev → RS := fun env => if (slotOf env i).isSome = true then (de env).stm fun y e1 => (dk e1).stm fun k e2 => optS ((frzs [y, k]).bind fun ds => (slotOf e2 i).bind fun po => (setD ds po).map fun o => e2.set i (.ow po.1 o)) else .bad
theorem set_at {l : Addr} {d k : D} {o o' : OD} {v u : V} {p : Bool} {Q : Hp → Prop} (s : Same M H) (a : At K M H l o) (hd : Rep K M d v) (hk : Rep K M k u) (e : setD [d, k] (p, o) = some o') (q : ∀ ho, At K M (upd H l ho) l o' → Q (upd H l ho)) : DP1 K H l u v Q := by
  cases o with
  | dk kvs =>
    obtain ⟨kk, e1, e2⟩ := Option.bind_eq_some_iff.mp (show ((keyD k).bind fun k => if fit (putKD kvs k d).length = true then some (OD.dk (putKD kvs k d)) else none) = some o' from e)
    split at e2
    · rename_i hf
      cases e2
      obtain ⟨ob, vs, h1, h2, h3⟩ := a
      have hz := fit_ok hf
      have rr : RepK K M (putKD kvs kk d) (stored vs kk .none) → True := fun _ => trivial
      have lz : (stored vs kk .none).length ≤ sizeLine := by
        have : (putKD kvs kk d).length = (stored vs kk .none).length := by
          unfold putKD stored
          rw [repK_any h3 kk]
          have := Paired.length h3
          by_cases q : (getKD kvs kk).isSome = true
          · rw [if_pos q, if_pos q]; simp [this]
          · rw [if_neg q, if_neg q]; simp [this]
        rw [← this]; exact hz
      refine .inl ⟨ob, vs, kk, h1, h2, keyD_ok (H := H) e1 (.inl hk), lz, fun o2 w hw f => q (obO l o2) ⟨o2, _, upd_same, f, repK_put h3 kk hw hd⟩⟩
    · cases e2
  | dt kvs =>
    obtain ⟨kk, e1, e2⟩ := Option.bind_eq_some_iff.mp (show ((keyT k).bind fun k => if fit (putKD kvs k d).length = true then some (OD.dt (putKD kvs k d)) else none) = some o' from e)
    split at e2
    · rename_i hf
      cases e2
      obtain ⟨ob, vs, h1, h2, h3⟩ := a
      have hz := fit_ok hf
      obtain ⟨b, rfl, hb⟩ := keyT_ok (H := H) e1 (.inl hk)
      have lz : (storedH vs kk b .none).length ≤ sizeLine := by
        have : (putKD kvs kk d).length = (storedH vs kk b .none).length := by
          unfold putKD storedH
          rw [repT_any h3 kk]
          have := Paired.length h3
          by_cases q : (getKD kvs kk).isSome = true
          · rw [if_pos q, if_pos q]; simp [this]
          · rw [if_neg q, if_neg q]; simp [this]
        rw [← this]; exact hz
      refine .inr ⟨ob, vs, kk, b, h1, h2, keysAt h3 s, rfl, hb.mono s, lz, fun o2 w hw f => q (obO l o2) ⟨o2, _, upd_same, f, repT_put h3 kk hb hw hd⟩⟩
    · cases e2
  | _ => cases e
theorem ds_setD {i : Nat} {tk : TE} {dk : Ev → RE X} (h : DE K W te de) (hk : DE K W tk dk) : DS K W (tAsg te (gSub (tVar i) tk (rSetD K))) (dSetD i de dk) := fun M σ H env hh => by
  unfold dSetD
  by_cases hc : (slotOf env i).isSome = true
  · rw [if_pos hc]
    obtain ⟨⟨p0, o0⟩, q1⟩ := Option.isSome_iff_exists.mp hc
    obtain ⟨l, es, a0, m0⟩ := hh.slot i _ (slotOf_ok q1)
    refine Sat.stm (c := fun x H1 D => ∃ v, σ[i]? = some (some v) ∧ tk σ H1 fun k H2 => rSetD K v k x H2 fun H3 => D.nx σ H3) hh (h M σ H env hh) (fun D q => q) fun M1 H1 env1 y x g1 s1 hh1 r1 => ?_
    refine Sat.stmB (c := fun k H2 D => rSetD K (.ref l) k x H2 fun H3 => D.nx σ H3) hh g1 (hk M1 σ H1 env1 hh1) (fun D q => ⟨_, es, q⟩) fun M2 H2 env2 yk kv g2 s2 hh2 r2 => ?_
    cases e2 : ((frzs [y, yk]).bind fun ds => (slotOf env2 i).bind fun po => (setD ds po).map fun o => env2.set i (.ow po.1 o)) with
    | none => trivial
    | some env' =>
      obtain ⟨ds, t1, e3⟩ := Option.bind_eq_some_iff.mp e2
      obtain ⟨⟨p, o⟩, t2, e4⟩ := Option.bind_eq_some_iff.mp e3
      obtain ⟨o', t3, rfl⟩ := Option.map_eq_some_iff.mp e4
      refine fun D k => ?_
      have g := g1.trans hh g2
      have gz := frzM_grow g
      have hz := frzM_holds (H := H) hh2
      have ra : RA K σ H M2 H2 env2 [y, yk] [x, kv] := Paired.cons ⟨RepX.grow hh1 r1.1 g2 s2, r1.2⟩ (Paired.cons (back_x _ _ _ _ _ _ _ g1.dom r2) Paired.nil)
      have rs := frzs_rep ra t1
      obtain ⟨l', es', a', m'⟩ := hz.slot i _ (slotOf_ok t2)
      rw [es] at es'
      cases es'
      cases ds with
      | nil => simp [Reps] at rs
      | cons d ds =>
        cases ds with
        | nil =>
          simp only [Reps] at rs
          obtain ⟨_, _, e5, _, rfl⟩ := rs
          cases e5
        | cons d2 ds =>
          cases ds with
          | cons d3 ds =>
            simp only [Reps] at rs
            obtain ⟨_, _, e5, _, _, _, e6, _, _, _, rfl, _⟩ := rs
            cases e5
            cases e6
          | nil =>
            simp only [Reps] at rs
            obtain ⟨x', r1', e9, hx, kk, r2', e8, hk2, e7⟩ := rs
            subst e7
            cases e8
            cases e9
            refine ⟨l, rfl, set_at hz.ex a' hx hk2 t3 fun ho az => ?_⟩
            obtain ⟨w1, w2, w3⟩ := own_write hz (slotOf_ok t2) es az
            exact k σ _ _ (gz.trans hh w2) w1
  · rw [if_neg hc]
    trivial
end
/-! ### new ones -/
def tNewD : TE := fun _ H Q => ∀ p, H p = none → (p == sysModules) = false → ∀ o : Obj, o.ExactDict → (∃ ep, o.data = .dict #[] ep) → Q (.ref p) (upd H p (obO p o))
theorem pe_newD {X : Cx} {pos : Pos} : PE X (.Dict [] [] pos) tNewD := ⟨fun pins s σ H Q I h =>
  wpAny_Dict_empty ⟨.ref s.heap.objs.size, _, I.laid (a := s.heap.objs.size) (o := obO s.heap.objs.size { cls := .type "dict", data := .dict #[] }) (t' := s.toks) (fun _ _ q => Heap.get?_push_of_some _ q) (Nat.le_refl _) (ob_ok (Heap.get?_push_size _ rfl)), rfl,
    h _ (I.hok.fresh (Nat.le_refl _)) (beq_eq_false_iff_ne.mpr (Ne.symm (Nat.ne_of_lt I.big))) _ ⟨rfl, rfl, rfl⟩ ⟨_, rfl⟩⟩⟩
def dNewK : Ev → RE X := fun env => .ok (.ow (.dk [])) env
def dNewT : Ev → RE X := fun env => .ok (.ow (.dt [])) env
section
variable {K : Fg} [WD K] {W : WS}
theorem newD_grow {M H : Hp} {σ : L2.St} {env : Ev} {p : Addr} {ho : HO} {o : OD} (hh : Holds K M env σ H) (n : H p = none) (a : At K M (upd H p ho) p o) : Grow M env σ H M env σ (upd H p ho) ∧ Holds K M env σ (upd H p ho) ∧ RX K σ H M (upd H p ho) env (.ow o) (.ref p) := by
  have e := ext_own hh.ex (o := ho) n
  have hh2 := e.holds hh
  refine ⟨e.grow hh, hh2, ⟨p, rfl, a, hh.ex.free n, fun z => ?_⟩, fun o2 _ l z => by cases z; exact n⟩
  obtain ⟨u, q⟩ := hh.ownSome z
  rw [n] at q
  cases q
theorem de_newK : DE K W tNewD dNewK := fun M σ H env hh Q k p n hs o hx ⟨ep, hd⟩ => by
  obtain ⟨g, h2, r⟩ := newD_grow (ho := obO p o) (o := .dk []) hh n ⟨o, [], upd_same, ⟨Nat.zero_le _, hs, hx, #[], ep, hd, (fun e h => by simp at h), .nil, List.nodup_nil⟩, .nil⟩
  exact k _ _ _ g (.refl _) h2 r
theorem de_newT : DE K W tNewD dNewT := fun M σ H env hh Q k p n hs o hx ⟨ep, hd⟩ => by
  obtain ⟨g, h2, r⟩ := newD_grow (ho := obO p o) (o := .dt []) hh n ⟨o, [], upd_same, ⟨Nat.zero_le _, hs, hx, #[], ep, hd, rfl, List.nodup_nil⟩, .nil⟩
  exact k _ _ _ g (.refl _) h2 r
end
end Dn

namespace Dn
open PySem PySem.Spec PyProof.Rows L2
/-! ### walks over a dict's keys -/
/-- the keys ks of the dict at d, whose object is o -/
def ItG (d : Addr) (o : Obj) (ks : List V) : It :=
  ⟨fun i H => H d = some (obO d o) ∧ i < ks.length, fun i H x H' => H' = H ∧ ks[i]? = some x, fun i H => H d = some (obO d o) ∧ ks.length ≤ i⟩
/-- o is a dict with these keys -/
def DKs (d : Addr) (o : Obj) (ks : List V) : Prop := (d == sysModules) = false ∧ o.ExactDict ∧ ∃ (es : Array DictEntry) (ep : Nat), o.data = .dict es ep ∧ es.size = ks.length ∧ ∀ (i : Nat) (x : V), ks[i]? = some x → ∃ en : DictEntry, es[i]? = some en ∧ RelV x en.key
theorem turn_ks {P : Program} {w : World} {K : PySem.W.Frag} {tg : Expr} {d : Addr} {o : Obj} {ks : List V} {es : Array DictEntry} {ep : Nat} (it : Addr) (hdt : o.data = .dict es ep) (hsz : es.size = ks.length) (ent : ∀ (i : Nat) (x : V), ks[i]? = some x → ∃ en : DictEntry, es[i]? = some en ∧ RelV x en.key) :
    Turn P w K tg (ItG d o ks) [it] it (fun i h => h.IsKeyIter it d i ks.length ep) where
  mem := by simp
  obj := fun i h st b hb => by
    have e : b = it := by simpa using hb
    subst e
    obtain ⟨oi, e, c, dd⟩ := st
    exact ⟨oi, e, fun v z => by rw [dd] at z; cases z⟩
  keep := fun i h h' st k => st.at fun oi e => k it (by simp) oi e
  item := by
    intro X hP hw hK hc i pins s σ H E I hf st hg
    subst hP hw hK
    obtain ⟨hd, hi⟩ := hg
    obtain ⟨f0, f1, f2, f3, f4, f5⟩ := hf it (by simp)
    obtain ⟨x, hkv⟩ : ∃ p, ks[i]? = some p := ⟨ks[i], List.getElem?_eq_getElem hi⟩
    obtain ⟨en, hen, hrel⟩ := ent i x hkv
    have hgd := ob_at I hd
    refine next_key_item st hgd hdt hsz hen fun h' st' sb => ?_
    have I1 : Inv X pins σ H { s with heap := h' } := I.turned (t' := s.toks) (fun b ob hb e => (sb.2 b hb).trans e) f0 f1 f3 f4 f5
    obtain ⟨oi, e, c, dd⟩ := id st'
    exact ⟨en.key, rfl, go_of (s := { s with heap := h' }) e c dd (by decide) ⟨x, H, I1, hrel, ⟨rfl, hkv⟩, st', fun b hb => (hf b hb).1⟩⟩
  done := by
    intro X hP hw hK hc i pins s σ H E I hf st hg
    subst hP hw hK
    obtain ⟨hd, hi⟩ := hg
    obtain ⟨f0, f1, f2, f3, f4, f5⟩ := hf it (by simp)
    have hgd := ob_at I hd
    exact next_key_end (I.ok.hd hc) st hgd hdt hsz hi fun h' eb => ⟨rfl, I.turned (t' := s.toks) (fun b ob hb e => eb b ob hb e) f0 f1 f3 f4 f5⟩
  self := fun A i s Q E st h => by
    refine wpAny_pyIter_slot st.typeIs F.slot_dict_keyiterator_iter (wpAny_call_entry F.slot_dict_keyiterator_iter st.typeIs F.entry_dict_keyiterator_iter ?_ (F.args_dict_keyiterator_iter_1 _))
    show wpAny _ _ (ret (.ref it)) _ _ s
    exact wpAny_pure ⟨_, rfl, "dict_keyiterator", _, st.typeIs, F.slot_dict_keyiterator_next.lookup, h⟩
def iKsD (td : TE) : TI := fun σ H R => td σ H fun x H1 => ∃ d o ks, x = .ref d ∧ H1 d = some (obO d o) ∧ DKs d o ks ∧ R (ItG d o ks) H1
theorem pi_ksD {X : Cx} {tg e : Expr} {td : TE} (he : PE X e td) : PI X tg e (iKsD td) := by
  refine ⟨fun pins s σ H R I h => ?_⟩
  refine thn (he.run pins s σ H _ I h) fun u s1 ⟨x, H1, I1, rx, d, o, ks, ex, hd, ⟨hs, hx, es, ep, hdt, hsz, ent⟩, q⟩ => ?_
  subst ex
  obtain rfl : u = Value.ref d := rx
  refine iter_keys hs (ob_at I1 hd) hx hdt (pi_one (tk := s1.toks) I1 _ (turn_ks _ hdt hsz ent) ⟨_, Heap.get?_push_size _ rfl, rfl, ?_⟩ q)
  rw [hsz] <;> rfl
section
variable {K : Fg} [WD K] {W : WS} {M M' M1 M2 : Hp} {env env' env1 env2 : Ev} {σ σ' σ1 : L2.St} {H H' H1 H2 : Hp} {x y : X} {v u : V} {td : TE} {dd : Ev → RE X}
theorem pairs_get {P : Program} {w : World} {knd : KeyKind P w Key} : ∀ {es : List DictEntry} {vs : List (Key × Value)} {i : Nat} {p : Key × Value}, Pairs knd es vs → vs[i]? = some p → ∃ en, es[i]? = some en ∧ knd.is p.1 en.key = true
  | _, _, i, p, .nil, e => by simp at e
  | _, _, 0, p, .cons h1 h2 t, e => by
    simp at e
    subst e
    exact ⟨_, rfl, h1⟩
  | _, _, i + 1, p, .cons h1 h2 t, e => by
    obtain ⟨en, q1, q2⟩ := pairs_get (i := i) t (by simpa using e)
    exact ⟨en, by simpa using q1, q2⟩
theorem pairs_len {P : Program} {w : World} {knd : KeyKind P w Key} : ∀ {es : List DictEntry} {vs : List (Key × Value)}, Pairs knd es vs → es.length = vs.length
  | _, _, .nil => rfl
  | _, _, .cons _ _ t => by simp [pairs_len t]
theorem dk_ks {a : Addr} {o : Obj} {vs : List (Key × Value)} (f : DkF K a o vs) : DKs a o (vs.map fun p => kV p.1) := by
  obtain ⟨_, hs, hx, es, ep, hd, _, pr, _⟩ := f
  refine ⟨hs, hx, es, ep, hd, by rw [List.length_map, ← pairs_len pr, Array.length_toList], fun i x e => ?_⟩
  rw [List.getElem?_map] at e
  obtain ⟨p, e1, rfl⟩ := Option.map_eq_some_iff.mp e
  obtain ⟨en, q1, q2⟩ := pairs_get pr e1
  exact ⟨en, by simpa using q1, relV_key (show keyIs p.1 en.key = true from q2)⟩
theorem dt_ks {a : Addr} {o : Obj} {xs : List (List Key × Addr × Value)} (f : DtF K a o xs) : DKs a o (xs.map fun p => V.ref p.2.1) := by
  obtain ⟨_, hs, hx, es, ep, hd, pr, _⟩ := f
  refine ⟨hs, hx, es, ep, hd, by rw [List.length_map]; exact size_of_entries pr, fun i x e => ?_⟩
  rw [List.getElem?_map] at e
  obtain ⟨p, e1, rfl⟩ := Option.map_eq_some_iff.mp e
  have q := entry_at pr i
  rw [e1] at q
  exact ⟨_, q, rfl⟩
theorem rep_key (k : Key) : Rep K M (Key.toD k) (kV k) := by
  cases k with
  | inl i => exact rep_int
  | inr x => exact rep_str
theorem reps_key : ∀ ks : List Key, Reps K M (ks.map Key.toD) (ks.map kV)
  | [] => Reps.nil
  | k :: ks => Reps.cons (rep_key k) (reps_key ks)
theorem repK_keys {kvs : List (Key × D)} {vs : List (Key × Value)} (r : RepK K M kvs vs) : Reps K M (kvs.map fun p => Key.toD p.1) (vs.map fun p => kV p.1) := by
  induction r with
  | nil => exact Reps.nil
  | @cons p q ps qs h t ih =>
    obtain ⟨h1, _⟩ := h
    rw [List.map_cons, List.map_cons, ← h1]
    exact Reps.cons (rep_key _) ih
theorem repT_keys {kvs : List (List Key × D)} {vs : List (List Key × Addr × Value)} (r : RepT K M kvs vs) : Reps K M (kvs.map fun p => D.tup (p.1.map Key.toD)) (vs.map fun p => V.ref p.2.1) := by
  induction r with
  | nil => exact Reps.nil
  | @cons p q ps qs h t ih =>
    obtain ⟨h1, h2, _⟩ := h
    rw [List.map_cons, List.map_cons]
    refine Reps.cons ?_ ih
    simp only [Rep]
    exact ⟨_, _, rfl, h2, reps_key _⟩
theorem it_ks {d : Addr} {o : Obj} {ks : List V} {xs : List D} {as : List Addr} (r : Reps K M xs ks) (src : ∀ M2 H2, Same M M2 → Same M2 H2 → (∀ b ∈ as, ∀ o, H b = some o → H2 b = some o) → H2 d = some (obO d o)) : ItOk K (ItG d o ks) as M H xs where
  go := fun M2 H2 i x q e1 e2 f => by
    obtain ⟨v, h1, h2⟩ := r.get q
    refine ⟨⟨src M2 H2 e1 e2 f, (List.getElem?_eq_some_iff.mp h1).1⟩, fun w H3 hy => ?_⟩
    obtain ⟨rfl, hy⟩ := hy
    have e : w = v := Option.some.inj (hy.symm.trans h1)
    subst e
    exact ⟨M2, Ext.refl e2, Rep.mono e1 _ _ h2⟩
  stop := fun M2 H2 e1 e2 f => ⟨src M2 H2 e1 e2 f, by rw [r.length]; exact Nat.le_refl _⟩
/-- what a walk over the dict yields -/
def D.ks : D → Option (List D)
  | .dk kvs => some (kvs.map fun p => Key.toD p.1)
  | .dt kvs => some (kvs.map fun p => D.tup (p.1.map Key.toD))
  | _ => none
def diKs (dd : Ev → RE X) : Ev → RE Dn.Its := fun env => (dd env).bind fun x e1 => match x with
  | .im d => opt ((D.ks d).map fun l => (l, none)) e1
  | _ => .bad
theorem di_ks (h : DE K W td dd) : DI K W (iKsD td) (diKs dd) := fun M σ H env hh => by
  refine Sat.bind (c := fun x H1 (R : It → Hp → Prop) => ∃ d o ks, x = V.ref d ∧ H1 d = some (obO d o) ∧ DKs d o ks ∧ R (ItG d o ks) H1) back_i hh (h M σ H env hh) (fun Q q => q) fun M1 H1 env1 x v g1 s1 hh1 r1 => ?_
  obtain ⟨r, n⟩ := r1
  cases x with
  | im d =>
    cases d with
    | dk kvs =>
      refine fun Q k => ?_
      simp only [RepX, Rep] at r
      obtain ⟨a, o, vs, rfl, h1, h2, h3⟩ := r
      exact ⟨a, o, _, rfl, hh1.ex _ _ h1, dk_ks h2, k _ M1 H1 .refl (.refl _) hh1 ⟨[], (fun a z => nomatch z), it_ks (repK_keys (repG_iff.mp h3)) fun M2 H2 e1 e2 f => e2 _ _ (e1 _ _ h1), (fun j z => nomatch z)⟩⟩
    | dt kvs =>
      refine fun Q k => ?_
      simp only [RepX, Rep] at r
      obtain ⟨a, o, vs, rfl, h1, h2, h3⟩ := r
      exact ⟨a, o, _, rfl, hh1.ex _ _ h1, dt_ks h2, k _ M1 H1 .refl (.refl _) hh1 ⟨[], (fun a z => nomatch z), it_ks (repT_keys (repH_iff.mp h3)) fun M2 H2 e1 e2 f => e2 _ _ (e1 _ _ h1), (fun j z => nomatch z)⟩⟩
    | _ => trivial
  | ow o => trivial
  | sl j => trivial
end
end Dn

/-! sorted(..) of alike data, the empty tuple among tuples too -/
namespace DnSort
open PySem PySem.W PySem.SeqAt PySem.Calls PyProof.Rows
section
variable {prog : Program} {w : World} {A : Around} {E : Value → Shared → Prop} {s : Shared}
theorem call_tuple_lt {Q : Value → Shared → Prop} {l b : Addr} {items items2 : Array Value} {e r : Nat → Bool} (hl : s.heap.IsTuple l items) (hb : s.heap.IsTuple b items2)
    (he : ∀ j (h1 : j < items.size) (h2 : j < items2.size), EqAt A.in1 s items[j] items2[j] (e j)) (hr : ∀ j (h1 : j < items.size) (h2 : j < items2.size), e j = false → RcLt A.in1 s items[j] items2[j] (r j))
    (h : Q (.bool (firstLt e r (decide (items.size < items2.size)) (List.range (min items.size items2.size)))) s) : wpAny (model prog w) A (call (.builtin "tuple.__lt__") [.ref l, .ref b]) Q E s := by
  obtain ⟨⟨cls, dd, data, sl⟩, ho, hc, n, hd⟩ := id hl
  obtain ⟨⟨cls2, dd2, data2, sl2⟩, ho2, hc2, n2, hd2⟩ := id hb
  simp only at hc hd hc2 hd2
  subst hc hd hc2 hd2
  exact call_meets F.slot_tuple_lt ⟨_, ho, rfl⟩ F.entry_tuple_lt (F.args_tuple_lt_2 _ _) (tuple_ltAt l b items items2 n n2 dd dd2 sl sl2 e r) ⟨ho, ho2, he, hr, h⟩
theorem oneLt_tup {xs ys : List PyData} {a b : Value} {as bs : List Addr} {Q : Bool → Shared → Prop} (ra : Reads s.heap a (.tuple xs) as) (rb : Reads s.heap b (.tuple ys) bs) (hal : alikeAll xs ys = true)
    (hu : A.units + min (PyData.tuple xs).depth (PyData.tuple ys).depth < cLine) (hq : Q (dataLt (.tuple xs) (.tuple ys)) s) : wpAny (model prog w) A (oneLt' true a b) Q E s := by
  cases ra with
  | @tuple l o vs n _ as₁ h1 h2 h3 h4 =>
    cases rb with
    | @tuple l' o' vs' n' _ bs₁ k1 k2 k3 k4 =>
      have n1 : vs.size = xs.length := by simpa using ReadsAll.length _ _ _ h4
      have n2 : vs'.size = ys.length := by simpa using ReadsAll.length _ _ _ k4
      rw [dataLt_tuple, ← firstLt_toks xs ys hal, ← n1, ← n2] at hq
      rw [oneLt'_eq]
      simp only [if_true]
      refine wpAny_bind (wpAny_cRoomFor (room_here hu) ?_)
      refine wpAny_bind (wpAny_callSpecialIfBound?_slot (T := "tuple") ⟨_, h1, h2⟩ F.slot_tuple_lt (call_tuple_lt (e := pairEq xs ys) (r := fun j => dataLt (xs.getD j .none) (ys.getD j .none)) ⟨_, h1, h2, _, h3⟩ ⟨_, k1, k2, _, k3⟩ (fun j j1 j2 => ?_) (fun j j1 j2 hj => ?_) ?_))
      · have := eqAt_alikeAll xs ys A.in1 s vs.toList vs'.toList _ _ h4 k4 hal (room_in hu) j (by simpa using j1) (by simpa using j2)
        simpa using this
      · have := rcLt_alikeAll xs ys A.in1 s vs.toList vs'.toList _ _ h4 k4 hal (room_in hu) j (by simpa using j1) (by simpa using j2) hj
        simpa using this
      · exact wpAny_truthy_bool hq
theorem row_firsts : ∀ {vs : List Value} {ds : List PyData}, EachIs (fun v d => ∃ as, Reads s.heap v d as) vs ds → (∀ d ∈ ds, ∃ xs, d = .tuple xs) →
    ∃ fo : List (Option Value), fo.length = vs.length ∧ ((∃ d ∈ ds, d = .tuple []) → fo.all (·.isSome) = false) ∧ ∀ {M : Model} {A : Around} {E : Value → Shared → Prop} (Q : List (Option Value) → Shared → Prop), Q fo s → wpAny M A (vs.mapM firstOfTuple') Q E s
  | _, _, .nil, _ => ⟨[], rfl, fun ⟨_, h, _⟩ => (by simp at h), fun Q h => by rw [List.mapM_nil]; exact wpAny_pure h⟩
  | _, _, .cons (a := v) (b := d) (as := vs) (bs := ds) ⟨as, r⟩ t, ht => by
    obtain ⟨fo, h1, h2, h3⟩ := row_firsts t fun d hd => ht d (by simp [hd])
    obtain ⟨xs, e⟩ := ht d (by simp)
    subst e
    cases r with
    | @tuple l o us n _ _ q1 q2 q3 q4 =>
      refine ⟨us[0]? :: fo, by simp [h1], fun ⟨d2, m, e⟩ => ?_, fun {M A E} Q h => ?_⟩
      · rcases List.mem_cons.mp m with rfl | m
        · cases e
          have : us.toList.length = 0 := ReadsAll.length _ _ _ q4
          have : us[0]? = none := by rw [Array.getElem?_eq_none]; simpa using this
          rw [List.all_cons, this]
          rfl
        · rw [List.all_cons, h2 ⟨d2, m, e⟩, Bool.and_false]
      · rw [List.mapM_cons]
        refine wpAny_bind ?_
        rw [kas_first_eq]
        refine wpAny_bind (Looks.here (show Looks M s.heap (typeOf (.ref l)) o.cls from (Looks.ld q1).andThen .now) ?_)
        rw [q2, if_neg (by first | decide | simp)]
        refine wpAny_bind (listItems_at q1 q3 (wpAny_pure ?_))
        exact wpAny_bind (h3 (fun bs s' => wpAny M A (pure (us[0]? :: bs)) Q E s') (wpAny_pure h))
/-- tuples, one of them empty -/
theorem sortsAt_rows {vs : List Value} {ds : List PyData} (e : EachIs (fun v d => ∃ as, Reads s.heap v d as) vs ds) (hal : AllAlike ds) (ht : ∀ d ∈ ds, ∃ xs, d = .tuple xs) (h0 : ∃ d ∈ ds, d = .tuple []) (hu : ∀ d, d ∈ ds → A.units + d.depth < cLine) : SortsAt prog w A s (dataKind s.heap ds) vs := by
  have room : ∀ {d d' : PyData}, d ∈ ds → A.units + min d.depth d'.depth < cLine := fun {d d'} hd => Nat.lt_of_le_of_lt (Nat.add_le_add_left (Nat.min_le_left _ _) _) (hu d hd)
  obtain ⟨fo, f1, f2, f3⟩ := row_firsts e ht
  refine ⟨fun v hv => ?_, if (fo.toArray[0]?.bind id).isSome then general' else oneType', ?_, fun h2 E Q hq => ?_⟩
  · obtain ⟨d, hd, as, r⟩ := e.left v hv
    exact ⟨_, dataKind_some hal hd r⟩
  · intro E x y a b Q ha hb hq
    obtain ⟨d, as, hd, ra, rfl⟩ := dataKind_inv ha
    obtain ⟨d', as', hd', rb, rfl⟩ := dataKind_inv hb
    have hdd := hal d hd d' hd'
    have hroom := room (d' := d') hd
    obtain ⟨x1, rfl⟩ := ht d hd
    obtain ⟨x2, rfl⟩ := ht d' hd'
    split
    · exact oneLt_alike (f := false) (fun z => nomatch z) ra rb hdd (fun z => nomatch z) hroom hq
    · rw [keyLt'_oneType]
      exact oneLt_tup ra rb (by simpa [alike] using hdd) hroom hq
  · rw [keyKind'_eq, List.mapM_toArray, map_eq_pure_bind]
    refine wpAny_bind (wpAny_bind (f3 _ (wpAny_pure ?_)))
    have hf : (fo.toArray.all fun x => x.isSome) = false := by rw [List.all_toArray]; exact f2 h0
    rw [if_neg (by rw [hf]; exact Bool.false_ne_true)]
    split at hq
    · rename_i hg
      rw [if_pos hg]
      exact wpAny_pure hq
    · rename_i hg
      rw [if_neg hg]
      rw [oneTypeOnly'_eq, List.mapM_toArray, map_eq_pure_bind]
      refine wpAny_bind (wpAny_bind (wpAny_bind (kas_mapM (r := Value.type "tuple") _ (fun v hv Q' hq => ?_) (wpAny_pure ?_))))
      · obtain ⟨d, hd, as, r⟩ := e.left v hv
        obtain ⟨xs, rfl⟩ := ht d hd
        cases r with
        | tuple q1 q2 q3 q4 =>
          refine Looks.here ?_ hq
          rw [← q2]
          exact (Looks.ld q1).andThen .now
      · have hall : ((List.map (fun _ => Value.type "tuple") vs).toArray.all fun x => x == Value.type "tuple") = true := by
          simp only [List.all_toArray, List.all_map, List.all_eq_true]
          intro _ _
          rfl
        have h0 : (List.map (fun _ => Value.type "tuple") vs).toArray[0]? = some (Value.type "tuple") := by
          cases vs with
          | nil => simp at h2
          | cons v vs => simp
        rw [h0]
        simp only [hall, if_true]
        exact wpAny_pure (wpAny_pure hq)
end
section
variable {prog : Program} {w : World} {A : Around} {E : Value → Shared → Prop} {s : Shared} {β : Type} {R : Value → β → Prop} {enc : β → PyData} {vs : List Value} {bs : List β}
def SortX (ds : List PyData) : Prop := Sortable ds ∨ (∀ d ∈ ds, ∃ xs, d = .tuple xs)
theorem sortsX (e : EachIs (fun v d => ∃ as, Reads s.heap v d as) vs ds) (hal : AllAlike ds) (hx : SortX ds) (hu : ∀ d, d ∈ ds → A.units + d.depth < cLine) : SortsAt prog w A s (dataKind s.heap ds) vs := by
  rcases hx with h | h
  · exact SortsAt.data e hal h hu
  · by_cases h0 : ∃ d ∈ ds, d = .tuple []
    · exact sortsAt_rows e hal h h0 hu
    · refine SortsAt.data e hal (.inl fun d hd => ?_) hu
      obtain ⟨xs, rfl⟩ := h d hd
      cases xs with
      | nil => exact (h0 ⟨_, hd, rfl⟩).elim
      | cons x r => exact ⟨x, r, rfl⟩
theorem sorted_any {l : Addr} {Q : Value → Shared → Prop} (hl : s.heap.IsList l vs.toArray) (e : EachIs R vs bs) (er : EachIs (fun v b => ∃ as, Reads s.heap v (enc b) as) vs bs) (hal : AllAlike (bs.map enc)) (hk : SortX (bs.map enc)) (hL : bs.length ≤ sizeLine)
    (hu : ∀ b, b ∈ bs → A.units + 2 + (enc b).depth < cLine) (h : ∀ out, out.length = bs.length → EachIs R out (bs.mergeSort (dataLe false enc)) → Q (.ref (s.heap.objs.size + 1)) { s with heap := sortedAll s.heap vs (List.toArray out) }) :
    wpAny (model prog w) A (call (.builtin "sorted") [.ref l]) Q E s := by
  have er' : EachIs (fun v b => ∃ as, Reads (sortingHeap (copyHeap s.heap vs) (s.heap.objs.size + 1) vs) v (enc b) as) vs bs := er.mono fun _ _ ⟨as, r⟩ => ⟨as, PyProof.Rows.Reads.keeps (fun _ _ => sorting_copy_old) r⟩
  exact sorted_vals hl (sortsX (s := { s with heap := sortingHeap (copyHeap s.heap vs) (s.heap.objs.size + 1) vs }) (each_map (R := fun v d => ∃ as, Reads (sortingHeap (copyHeap s.heap vs) (s.heap.objs.size + 1) vs) v d as) enc er') hal hk (bound_map hu)) (by rw [e.length]; exact hL)
    (h _ (by rw [sortVals_length false rfl]; exact e.length) (sortVals_data false e er' hal))
end
end DnSort
namespace Dn
open PySem PySem.Spec PyProof.Rows L2
/-- as data of the model -/
def D.pyD (d : D) : PyData := d.py.getD .none
/-- a before b, or like it -/
def leD (rev : Bool) (a b : D) : Bool := cond rev (!PySem.W.dataLt a.pyD b.pyD) (!PySem.W.dataLt b.pyD a.pyD)
def tupP : PyData → Bool
  | .tuple _ => true
  | _ => false
def plainP : PyData → Bool
  | .none => false
  | .tuple _ => false
  | _ => true
def sortOk (ds : List PyData) : Bool := (ds.all fun d => ds.all fun e => PySem.W.alike d e) && ((ds.all tupP || ds.all plainP) && ds.all fun d => decide (d.depth ≤ 8))
def pSorted : List D → Option X
  | [.lst xs] => (pys xs).bind fun ds => if sortOk ds = true then some (.ow (.lst (xs.mergeSort (leD false)))) else none
  | _ => none
def rSorted (K : Fg) (rev : Bool) : List V → Hp → VK → Prop := fun vs H Q => ∃ (a : Addr) (bs : List (D × V)), vs = [V.ref a] ∧ SqL K H a (bs.map (·.2)) ∧ (∀ b ∈ bs, Dp K H b.2 b.1.pyD) ∧ sortOk (bs.map fun b => b.1.pyD) = true ∧
  ∀ p, H p = none → Q (.ref p) (upd H p (.lst ((bs.mergeSort fun a b => leD rev a.1 b.1).map (·.2))))
theorem sortOk_ok {ds : List PyData} (h : sortOk ds = true) : PySem.W.AllAlike ds ∧ DnSort.SortX ds ∧ ∀ d ∈ ds, d.depth ≤ 8 := by
  unfold sortOk at h
  rw [Bool.and_eq_true, Bool.and_eq_true, Bool.or_eq_true] at h
  obtain ⟨h1, h2, h3⟩ := h
  refine ⟨fun d hd d' hd' => (List.all_eq_true.mp (List.all_eq_true.mp h1 d hd)) d' hd', ?_, fun d hd => of_decide_eq_true (List.all_eq_true.mp h3 d hd)⟩
  rcases h2 with h2 | h2
  · refine .inr fun d hd => ?_
    have := List.all_eq_true.mp h2 d hd
    cases d with
    | tuple xs => exact ⟨xs, rfl⟩
    | _ => cases this
  · refine .inl (.inr fun d hd => ?_)
    have := List.all_eq_true.mp h2 d hd
    cases d with
    | none => cases this
    | tuple xs => cases this
    | _ => exact ⟨(fun z => nomatch z), (fun xs z => nomatch z)⟩
theorem cr_sorted {X : Cx} (hu : X.A.units + 64 < cLine) : CallR X (.builtin "sorted") (rSorted X.K false) := by
  intro pins s σ H vs us Q I r h
  obtain ⟨a, bs, rfl, hs, hp, ho, q⟩ := h
  obtain ⟨hal, hx, hd⟩ := sortOk_ok ho
  obtain ⟨its, rv, hl, hz⟩ := I.list hs
  obtain ⟨u, rfl, ru⟩ := vals1 r
  obtain rfl : u = Value.ref a := ru
  have each : ∀ {bs : List (D × V)} {its : List Value}, Vals (bs.map (·.2)) its → PySem.W.EachIs (fun (u : Value) (b : D × V) => RelV b.2 u) its bs := by
    intro bs
    induction bs with
    | nil => intro its r; cases r; exact .nil
    | cons b bs ih => intro its r; cases r with | cons h t => exact .cons h (ih t)
  have e1 := each rv
  have e2 : PySem.W.EachIs (fun (u : Value) (b : D × V) => ∃ as, Reads s.heap u b.1.pyD as) its bs := by
    clear hs ho q hal hx hd hl hz each rv
    induction e1 with
    | nil => exact .nil
    | @cons u b us bs h t ih => exact .cons (Dp.reads I _ _ _ (hp b (by simp)) h) (ih fun b hb => hp b (by simp [hb]))
  have hlen : bs.length = its.length := by have := rv.length; simpa using this
  refine DnSort.sorted_any (enc := fun b : D × V => b.1.pyD) (R := fun (u : Value) (b : D × V) => RelV b.2 u) hl.isList e1 e2 hal hx (by rw [hlen, ← rv.length]; exact hz) (fun b hb => ?_) fun out h1 h2 => ?_
  · have := hd _ (List.mem_map.mpr ⟨b, hb, rfl⟩)
    omega
  · have hb : H (s.heap.objs.size + 1) = none := I.hok.fresh (Nat.le_succ _)
    obtain ⟨c, hc⟩ := sortedAll_at s.heap its out.toArray
    have back : ∀ {bs : List (D × V)} {out : List Value}, PySem.W.EachIs (fun (u : Value) (b : D × V) => RelV b.2 u) out bs → Vals (bs.map (·.2)) out := by
      intro bs
      induction bs with
      | nil => intro out r; cases r; exact .nil
      | cons b bs ih => intro out r; cases r with | cons h t => exact .cons h (ih t)
    have rel : Vals ((bs.mergeSort fun a b => leD false a.1 b.1).map (·.2)) out := back h2
    refine ⟨.ref (s.heap.objs.size + 1), _, I.laid (a := s.heap.objs.size + 1) (o := .lst ((bs.mergeSort fun a b => leD false a.1 b.1).map (·.2))) (t' := s.toks) (fun b o hb => sortedAll_old hb) (Nat.le_succ _) ⟨?_, out, c, rel, hc⟩, rfl, q _ hb⟩
    rw [List.length_map, List.length_mergeSort, hlen, ← rv.length]
    exact hz
section
variable {K : Fg} [WD K]
theorem pys_get : ∀ {xs : List D} {ds : List PyData}, pys xs = some ds → ds = xs.map D.pyD ∧ ∀ x ∈ xs, ∃ p, x.py = some p
  | [], ds, e => by
    simp only [pys] at e
    cases e
    exact ⟨rfl, fun x h => nomatch h⟩
  | x :: xs, ds, e => by
    simp only [pys] at e
    obtain ⟨d, e1, e⟩ := Option.bind_eq_some_iff.mp e
    obtain ⟨ds', e2, e⟩ := Option.bind_eq_some_iff.mp e
    cases e
    obtain ⟨h1, h2⟩ := pys_get e2
    refine ⟨by rw [List.map_cons, ← h1]; unfold D.pyD; rw [e1]; rfl, fun y hy => ?_⟩
    rcases List.mem_cons.mp hy with rfl | hy
    · exact ⟨d, e1⟩
    · exact h2 y hy
theorem ok_sorted : CallOk K (rSorted K false) pSorted := fun M H ds x vs s r e Q q => by
  unfold pSorted at e
  split at e
  · rename_i xs
    obtain ⟨ps, e1, e2⟩ := Option.bind_eq_some_iff.mp e
    split at e2
    · rename_i ho
      cases e2
      obtain ⟨rfl, h2⟩ := pys_get e1
      cases r with
      | cons h t =>
        cases t
        obtain ⟨a, us, rfl, h3, h4⟩ := h.lst s
        have hl := h4.length
        have z1 : (xs.zip us).map (·.2) = us := List.map_snd_zip (by omega)
        have z2 : (xs.zip us).map (·.1) = xs := List.map_fst_zip (by omega)
        have hrep : ∀ b ∈ xs.zip us, Rep K M b.1 b.2 := by
          clear q ho e1 h3 z1 z2 hl h h2 e
          induction xs generalizing us with
          | nil => intro b hb; simp at hb
          | cons x xs ih =>
            simp only [Reps] at h4
            obtain ⟨v, r, rfl, q1, q2⟩ := h4
            intro b hb
            rw [List.zip_cons_cons] at hb
            rcases List.mem_cons.mp hb with rfl | hb
            · exact q1
            · exact ih r q2 b hb
        have hsort : ((xs.zip us).mergeSort fun a b => leD false a.1 b.1).map (·.1) = xs.mergeSort (leD false) := by
          rw [PySem.W.sort_maps (r := fun a b : D × V => leD false a.1 b.1) (s := leD false) (·.1) fun a _ b _ => rfl, z2]
        refine ⟨a, xs.zip us, rfl, by rw [z1]; exact SqL.of h3, fun b hb => ?_, by rw [show (xs.zip us).map (fun b => b.1.pyD) = ((xs.zip us).map (·.1)).map D.pyD by rw [List.map_map]; rfl, z2]; exact ho, fun p n => ?_⟩
        · have hm : b.1 ∈ xs := by rw [← z2]; exact List.mem_map_of_mem (f := (·.1)) hb
          obtain ⟨p, hp⟩ := h2 _ hm
          have : b.1.pyD = p := by unfold D.pyD; rw [hp]; rfl
          rw [this]
          exact Dp.up s (dp_of _ _ _ hp (hrep b hb))
        · refine q.lst s ?_ n
          rw [← hsort]
          have : ∀ l : List (D × V), (∀ b ∈ l, Rep K M b.1 b.2) → Reps K M (l.map (·.1)) (l.map (·.2)) := by
            intro l
            induction l with
            | nil => intro _; exact Reps.nil
            | cons b l ih => intro h; exact Reps.cons (h b (by simp)) (ih fun c hc => h c (by simp [hc]))
          exact this _ fun b hb => hrep b ((List.mem_mergeSort).mp hb)
    · cases e2
  · cases e
end
end Dn

namespace Dn
open PySem PySem.Spec PyProof.Rows L2
/-! ### constructors with defaults and keywords -/
def FnG (CX : CXT) (P : Program) (w : World) (K : Fg) [WD K] (mg : Str → Option Value) (base : Heap) (k : Nat) (name qual : Str) (st : Stmt) (dvs : List V) (kds : List (Str × V)) (f : Addr) (ps : List Str) (den : Ev → RE X) : Prop :=
  ∃ fd, FunD K name qual (defArgs st) (defBody st) (defScope st) dvs kds f fd ∧ FnOk P w K mg base CX k f fd ps (spD K den)
def KFormM (K : Fg) (name qual : Str) (st : Stmt) (dvs : List V) (kds : List (Str × V)) (ps : List Str) (n : Nat) (ks : List Str) (gV : List V → List V → List V) : Prop := ∀ f fd, FunD K name qual (defArgs st) (defBody st) (defScope st) dvs kds f fd → ∃ g, KBn K fd ps n ks g gV
def tMakeG (K : Fg) [WD K] (c : Str) (n m : Nat) (den : Ev → RE X) (gV : List V → List V → List V) (E : L2.St → XK) (t tk : TA) : TE := fun σ H Q => t σ H fun vs H1 => tk σ H1 fun zs H2 => vs.length = n ∧ zs.length = m ∧ ∀ x dx, H2 x = none → H2 dx = none → dx ≠ x →
  spD K den (gV (V.ref x :: vs) zs) (upd (upd H2 dx (.own x)) x (.ins (He.ga K c) dx [])) (fun v H3 => v = .non ∧ Q (.ref x) H3) (E σ)
theorem tMakeG_eq {K : Fg} [WD K] {c : Str} {n m : Nat} {den : Ev → RE X} {gV gV' : List V → List V → List V} {E : L2.St → XK} {t tk : TA} (h : ∀ x vs zs, gV (x :: vs) zs = x :: gV' vs zs) : tMakeG K c n m den gV E t tk = tMakeF K c den E (tArr n m gV' t tk) := by
  funext σ H Q
  simp only [tMakeG, tMakeF, tArr, h]
section
variable {P : Program} {w : World} {K : Fg} [WD K] {mg : Str → Option Value} {base : Heap} {CX : CXT} {X : Cx} {k n : Nat} {ps ks : List Str} {E : L2.St → XK} {c : Str} {name qual : Str} {st : Stmt} {dvs : List V} {kds : List (Str × V)} {p pos : Pos} {e : Expr} {es : List Expr} {kws : List Keyword} {t tk : TA} {gV : List V → List V → List V} {den : Ev → RE Dn.X} {f : Addr} {fd : FuncData} {g : List Value → List Value → List Value}
theorem run_makeG {C : Addr} {sp : Sp} {σ : L2.St} {pins : List (Addr × Obj)} {H : Hp} {s : Shared} {Q : VK} {us ws : List Value} {vs zs : List V} (M : Mk X.K C f) (F : FnOk X.prog X.w X.K X.mg X.base CX k f fd ps sp) (hr : Room (k + 1) X.A) (hb : KBn X.K fd ps (n + 1) ks g gV)
    (hx : PassesAt CX X σ (E σ)) (I : Inv X pins σ H s) (r : Vals vs us) (rz : Vals zs ws) (l1 : vs.length = n) (l2 : zs.length = ks.length)
    (h : ∀ x dx, H x = none → H dx = none → dx ≠ x → sp (gV (.ref x :: vs) zs) (upd (upd H dx (.own x)) x (.ins C dx [])) (fun v H2 => v = .non ∧ Q (.ref x) H2) (E σ)) :
    wpAny (model X.prog X.w) X.A (call (.ref C) us (ks.zip ws)) (EP X pins σ Q) X.xe s := by
  have hq := h (s.heap.objs.size + 1) s.heap.objs.size (I.hok.fresh (Nat.le_succ _)) (I.hok.fresh (Nat.le_refl _)) (Nat.ne_of_lt (Nat.lt_succ_self _))
  have I2 := Inv.made (C := C) I
  have r1 : Vals (V.ref (s.heap.objs.size + 1) :: vs) (Value.ref (s.heap.objs.size + 1) :: us) := .cons rfl r
  have r2 := hb.rel r1 rz
  have n1 : (Value.ref (s.heap.objs.size + 1) :: us).length = n + 1 := by
    rw [List.length_cons, ← r.length, l1]
  refine wpAny_call (make_map (f := f) I.kIn M.makes M.init (beq_iff_eq.mp M.fn) (codeAny_mono (F.run _ X.stack _ _ ⟨Value.ref (s.heap.objs.size + 1) :: us, ks.zip ws⟩ (g (Value.ref (s.heap.objs.size + 1) :: us) ws) _ _ (E σ) (hr.make C us (ks.zip ws))
    (I2.env0.make C us (ks.zip ws)) (hb.to _ (Value.ref (s.heap.objs.size + 1) :: us) ws I2.kIn n1 (rz.length.symm.trans l2)) r2 hq) fun r s' hq' => ?_))
  cases r with
  | error e => exact hx pins _ _ e s' I2 hq'
  | ok fl =>
    cases fl with
    | ret u =>
      obtain ⟨v, H', I3, rv, ev, q3⟩ := I2.after hq'
      subst ev
      exact ⟨rv, ⟨V.ref (s.heap.objs.size + 1), H', I3, rfl, q3⟩⟩
    | next => exact False.elim hq'
    | brk => exact False.elim hq'
    | cont => exact False.elim hq'
/-- a class whose __init__ has defaults -/
def MkG (CX : CXT) (P : Program) (w : World) (K : Fg) [WD K] (mg : Str → Option Value) (base : Heap) (k : Nat) (c qual : Str) (st : Stmt) (dvs : List V) (kds : List (Str × V)) (ps : List Str) (den : Ev → RE Dn.X) : Prop :=
  ∃ f, Mk K (He.ga K c) f ∧ mg c = some (.ref (He.ga K c)) ∧ FnG CX P w K mg base k "__init__" qual st dvs kds f ps den
theorem pe_makeG (cx : CxIs X K P w mg base) (hm : MkG CX P w K mg base k c qual st dvs kds ps den) (kf : KFormM K "__init__" qual st dvs kds ps (n + 1) ks gV) (hr : Room (k + 1) X.A) (hg : Gl X c) (hx : ∀ σ, PassesAt CX X σ (E σ))
    (ha : PA X (e :: es) t) (hkw : PK X kws tk) (hall : (backToKw pos (keywordEach kws X.env)).all (·.1.isSome) = true := by rfl) (hks : (backToKw pos (keywordEach kws X.env)).filterMap (·.1) = ks := by rfl)
    (hdb : (c == ("__debug__" : Str)) = false := by decide) (he : starEach (e :: es) X.env = (false, eval e X.env) :: starEach es X.env := by rfl)
    (hpl : ((backTo pos (starEach (e :: es) X.env)).any (·.1) || (backToKw pos (keywordEach kws X.env)).any (·.1.isNone)) = false := by rfl) :
    PE X (.Call (.Name c p) (e :: es) kws pos) (tMakeG K c n ks.length den gV E t tk) := by
  obtain ⟨rfl, rfl, rfl, rfl, rfl⟩ := cx
  obtain ⟨f, M, hmg, fd, h3, F⟩ := hm
  obtain ⟨g, hb⟩ := kf f fd h3
  refine ⟨fun pins s σ H Q I h => ?_⟩
  refine wpAny_Call_Name_kw (ld_glob I hg hmg ?_ hdb)
  refine PySem.W.callWith_KW (h₀ := X.base) I.ok.mod.kin M.kp hall (thn (ha.run pos pins s σ H _ I h) fun us s1 ⟨vs, H1, I1, r, q⟩ => ?_) hpl he
  refine thn (hkw.run pos pins s1 σ H1 _ I1 q) fun ws s2 ⟨zs, H2, I2, rz, l1, l2, q2⟩ => ⟨I2.kIn, ?_⟩
  rw [hks]
  exact run_makeG M F hr hb (hx σ) I2 r rz l1 l2 q2
theorem mkG_of {f : Addr} (h : Mk K (He.ga K c) f) (g : mg c = some (.ref (He.ga K c))) (F : FnG CX P w K mg base k "__init__" qual st dvs kds f ps den) : MkG CX P w K mg base k c qual st dvs kds ps den := ⟨f, h, g, F⟩
theorem mk_fnG {ps N : List Str} {n nn : Nat} {f : Addr} {ds : Ev → RS} (F : ∃ fd, FunD K name qual (defArgs st) (defBody st) (defScope st) dvs kds f fd) (S : FnScope N ps (defScope st)) (hn : ps.length = n) (hN : N.length = nn)
    (h : ∀ (cdv : Value) (A : Around) (outer : List Env) (s : Shared) (H : Hp) (E : XK), Room k (A.deeper (envOfC qual (defScope st) s.heap.objs.size f cdv)) →
      ∃ t, PSs (cxOf CX0 P w K mg base N qual (defScope st) f cdv A outer s H E).nox (defBody st) t ∧ DS K (fun _ => E) t ds) : FnG CX0 P w K mg base (k + 1) name qual st dvs kds f ps (fnM nn n ds) := by
  subst hn hN
  obtain ⟨fd, F⟩ := F
  refine ⟨fd, F, F.ok S (fun vs H Q E h => spD_len h) fun cdv A outer s H vs Q E hr hs => ?_⟩
  obtain ⟨t, h1, h2⟩ := h cdv A outer s H E hr
  exact ⟨t, PSs.nox h1, fn_body h2 hs⟩
theorem mk_fnGX {ps N : List Str} {n nn : Nat} {f : Addr} {ds : Ev → RS} (F : ∃ fd, FunD K name qual (defArgs st) (defBody st) (defScope st) dvs kds f fd) (S : FnScope N ps (defScope st)) (hn : ps.length = n) (hN : N.length = nn)
    (h : ∀ (cdv : Value) (A : Around) (outer : List Env) (s : Shared) (H : Hp) (E : XK), Room k (A.deeper (envOfC qual (defScope st) s.heap.objs.size f cdv)) →
      ∃ t, PSs (cxOf (L2.CX P w) P w K mg base N qual (defScope st) f cdv A outer s H E) (defBody st) t ∧ DS K (fun _ => E) t ds) : FnG (L2.CX P w) P w K mg base (k + 1) name qual st dvs kds f ps (fnM nn n ds) := by
  subst hn hN
  obtain ⟨fd, F⟩ := F
  refine ⟨fd, F, F.ok S (fun vs H Q E h => spD_len h) fun cdv A outer s H vs Q E hr hs => ?_⟩
  obtain ⟨t, h1, h2⟩ := h cdv A outer s H E hr
  exact ⟨t, h1, fn_body h2 hs⟩
end
section
variable {K : Fg} [WD K] {W : WS} {c : Str} {m : Ev → RE X} {n nk : Nat} {src : List (Src D)} {srv : List (Src V)} {gV gV' : List V → List V → List V} {t tk : TA} {da dk : Ev → RE (List X)}
theorem de_makeG (hm : NoSl m) (h1 : ∀ x vs zs, gV (x :: vs) zs = x :: gV' vs zs) (hs : Paired (SrcR K) src srv) (hg : ∀ vs zs, vs.length = n → zs.length = nk → arr id srv (vs ++ zs) = some (gV' vs zs)) (ha : DA K W t da) (hk : DA K W tk dk) : DE K W (tMakeG K c n nk m gV W t tk) (dMakeF c m (dArr n nk src da dk)) := by
  rw [tMakeG_eq h1]
  exact de_makeF (da_arr hs hg ha hk)
theorem de_makeG0 (hm : NoSl m) (h1 : ∀ x vs zs, gV (x :: vs) zs = x :: gV' vs zs) (hs : Paired (SrcR K) src srv) (hg : ∀ vs zs, vs.length = n → zs.length = nk → arr id srv (vs ++ zs) = some (gV' vs zs)) (ha : DA K W t da) (hk : DA K W tk dk) : DE K W (tMakeG K c n nk m gV (fun _ => L2.E0) t tk) (dMakeF0 c m (dArr n nk src da dk)) := by
  rw [tMakeG_eq h1]
  exact de_makeF0 (da_arr hs hg ha hk)
end
end Dn

namespace Dn
open PySem PySem.Spec PyProof.Rows L2
/-! ### classes that hand out iter(self.F) and len(self.F), F a tuple -/
theorem fn_at {CX : CXT} {P : Program} {w : World} {K : PySem.W.Frag} {mg : Str → Option Value} {base : Heap} {k : Nat} {f : Addr} {name qual : Str} {params : Arguments} {body : List Stmt} {scope : Scope} {dV kV doc pm cdv ct oc : Value} {an od : Option Addr}
    {osl : Array (Option Value)} {N ps : List Str} {A : Around} {outer : List Env} {s : Shared} {H : Hp} {args : Args} {us : List Value} {vs : List V} {Q : VK} {E : XK} (lk : K.lookup f = some ⟨oc, od, .func (PySem.W.fnOf name qual params body scope dV kV doc pm an cdv ct), osl⟩) (hcd : PySem.W.codeIn K cdv qual = true) (S : FnScope N ps scope)
    (hr : Room (k + 1) A) (e0 : Env0 P w K mg base A outer s H) (hb : BindsTo s (PySem.W.fnOf name qual params body scope dV kV doc pm an cdv ct) args (ps.zip us)) (r : Vals vs us) (hl : vs.length = ps.length)
    (hbody : Room k (A.deeper (envOfC qual scope s.heap.objs.size f cdv)) → ∃ t, PSs (cxOf CX P w K mg base N qual scope f cdv A outer s H E) body t ∧ t { nx := fun _ H' => Q .non H', rt := Q } (start N vs) H) :
    codeAny (model P w) A (.call (.ref f) args) (CR CX outer P w H s Q E) s := by
  have KX : K.In s.heap := e0.mod.kin.keeps fun b o e => (e0.bs b o e).1
  have lim : s.heap.NoLimit := e0.mod.nolimit.keeps fun b o e => (e0.bs b o e).1
  have hkind : ∀ y ∈ ps.zip us, scope.names.lookup y.1 = some .local ∨ (scope.names.lookup y.1 = some .cell ∧ ((cellsFrom (s.heap.objs.size + 1) scope.names []).lookup y.1).isSome = true) := fun ⟨n, v⟩ hy => by
    rcases S.par n (List.of_mem_zip hy).1 with q | q
    · exact .inl q
    · exact .inr ⟨q, PySem.W.cellsFrom_some _ _ _ (.inl q)⟩
  refine codeAny_call_function hr.depth (KX _ _ lk) rfl S.co S.gen rfl (PySem.W.codeRec_of KX hcd) (hb _ _ _ _ ?_)
  refine wpAny_newFunctionEnv_cells S.kind hkind fun env he s1 x => ?_
  subst he
  refine ⟨lim.keeps x.toInCall.keep, codeAny_func ?_⟩
  obtain ⟨t, ht, hq⟩ := hbody (hr.deeper _)
  have I : Inv (cxOf CX P w K mg base N qual scope f cdv A outer s H E) [] (start N vs) H s1 := inv_start S hr.hd e0 hl r x
  refine wpAny_mono (ht.run [] s1 (start N vs) H _ I hq) (fun fl s' hs => ?_) fun e s' hs => hs
  have fin : ∀ {σ' : L2.St} {H' : Hp} {v : V} {u : Value}, Inv (cxOf CX P w K mg base N qual scope f cdv A outer s H E) [] σ' H' s' → RelV v u → Q v H' → CE outer P w H s Q u s' :=
    fun {σ' H' v u} J rv q => ⟨v, H', J.os, J.bare, J.base, J.hok, rv, q⟩
  cases fl with
  | ret u =>
    obtain ⟨v, σ', H', J, rv, q⟩ := hs
    exact fin J rv q
  | next =>
    obtain ⟨σ', H', J, q⟩ := hs
    exact fin (v := V.non) (u := Value.none) J rfl q
  | brk =>
    obtain ⟨_, _, _, q⟩ := hs
    exact False.elim q
  | cont =>
    obtain ⟨_, _, _, q⟩ := hs
    exact False.elim q
abbrev itT (t : Addr) (i : Nat) : Obj := { cls := .type "tuple_iterator", data := .fields #[.ref t, .int i 0] }
theorem itT_at {h : Heap} {it t : Addr} {i : Nat} (e : h.get? it = some (itT t i)) : h.IsTupleIter it t i := ⟨_, e, rfl, rfl⟩
def itH (it t : Addr) (i : Nat) : HO := .ext fun h => h.IsTupleIter it t i
theorem itH_ok {P : Program} {w : World} {H : Hp} {h : Heap} {it t : Addr} {i : Nat} (e : h.IsTupleIter it t i) : ObjOk P w H h it (itH it t i) := ⟨e, let ⟨o, q, _⟩ := e; ⟨o, q⟩, fun _ _ x k => let ⟨o, q1, q2⟩ := x; ⟨o, k _ q1, q2⟩⟩
theorem itH_at {X : Cx} {pins : List (Addr × Obj)} {σ : L2.St} {H : Hp} {s : Shared} {it t : Addr} {i : Nat} (I : Inv X pins σ H s) (h : H it = some (itH it t i)) : s.heap.IsTupleIter it t i := (I.hok it _ h).1
/-- iter(t), t a tuple; n: the iterator is not below -/
def rIterT (K : Fg) (n : Nat) : List V → Hp → VK → Prop := fun xs H Q => ∃ (t : Addr) (zs : List V), xs = [.ref t] ∧ SqT K H t zs ∧ ∀ it, H it = none → n ≤ it → Q (.ref it) (upd H it (itH it t 0))
theorem cr_iterT {X : Cx} : CallR X (.builtin "iter") (rIterT X.K X.s_0.heap.objs.size) := by
  intro pins s σ H xs us Q I r h
  obtain ⟨t, zs, rfl, hq, q⟩ := h
  obtain ⟨u, rfl, ru⟩ := vals1 r
  cases ru
  obtain ⟨its, rv, pl, hz⟩ := I.tuple hq
  refine Calls.call_function_entry (by decide +kernel) (by decide +kernel) PySem.W.kdk_entry_iter (PySem.W.kdk_args_iter _) ?_
  unfold Builtin.«iter»
  refine wpAny_bind (m := someArgs "iter" 1 2 _) (wpAny_of_eq (a := [Value.ref t]) (by first | rfl | kernel_rfl!) ?_)
  show wpAny _ _ (pyIter (.ref t) >>= _) _ _ _
  refine wpAny_bind (wpAny_pyIter_tuple (show s.heap.IsTuple t its.toArray from pl) ?_)
  exact wpAny_pure ⟨_, rfl, .ref s.heap.objs.size, _, I.laid (t' := s.toks) (fun b u e => Heap.get?_push_of_some _ e) (Nat.le_refl _) (itH_ok (itT_at (Heap.get?_push_size _ rfl))), rfl, q _ (I.hok.fresh (Nat.le_refl _)) I.sz⟩
/-- the dunder m of the class c is a def whose body gives t, at each state -/
def OwnF (P : Program) (w : World) (K : Fg) (mg : Str → Option Value) (base : Heap) (k : Nat) (c m : Str) (te : Nat → TE) : Prop :=
  Cls K (He.ga K c) ∧ ∃ (f : Addr) (qual : Str) (st : Stmt) (fd : FuncData), PySem.W.findIn K (.ref (He.ga K c)) m = some (some (.ref f)) ∧ PySem.W.isFn K (.ref f) = true ∧ FunD K m qual (defArgs st) (defBody st) (defScope st) [] [] f fd ∧ FnScope ["self"] ["self"] (defScope st) ∧
  (∀ (kV doc pm : Value) (an : Option Addr) (cdv ct : Value) (us : List Value), us.length = ["self"].length → bindArgs (PySem.W.fnOf m qual (defArgs st) (defBody st) (defScope st) .none kV doc pm an cdv ct) ⟨us, []⟩ = pure ((["self"] : List Str).zip us)) ∧
  ∀ (cdv : Value) (A : Around) (outer : List Env) (s : Shared) (H : Hp) (E : XK), Room k (A.deeper (envOfC qual (defScope st) s.heap.objs.size f cdv)) → PSs (cxOf CX0 P w K mg base ["self"] qual (defScope st) f cdv A outer s H E) (defBody st) (tRet (te s.heap.objs.size))
def tIt (K : Fg) (F : Str) (n : Nat) : TE := tCB (rIterT K n) (tCons (tFld K (tVar 0) F) tNil)
def tLn (K : Fg) (F : Str) (n : Nat) : TE := tCB (rLenU K) (tCons (tFld K (tVar 0) F) tNil)
abbrev OwnI (P : Program) (w : World) (K : Fg) (mg : Str → Option Value) (base : Heap) (k : Nat) (c F : Str) : Prop := OwnF P w K mg base k c "__iter__" (tIt K F) ∧ NoAttr K (He.ga K c) F
abbrev OwnL (P : Program) (w : World) (K : Fg) (mg : Str → Option Value) (base : Heap) (k : Nat) (c F : Str) : Prop := OwnF P w K mg base k c "__len__" (tLn K F) ∧ NoAttr K (He.ga K c) F
section
variable {X : Cx} {pins : List (Addr × Obj)} {σ : L2.St} {H : Hp} {s : Shared} {a t dx : Addr} {A1 : Around} {E : Value → Shared → Prop} {k : Nat} {c F : Str} {fs : List (Str × V)} {xs : List V}
/-- the dunder's code -/
theorem own_code {G : Prop} {m : Str} {te : Nat → TE} {Qv : VK} (o : OwnF X.prog X.w X.K X.mg X.base k c m te) (sb : Sub X (k + 1) A1) (I : Inv X pins σ H s) (ha : H a = some (.ins (He.ga X.K c) dx fs))
    (ht : te s.heap.objs.size [some (V.ref a)] H Qv)
    (h : ∀ (f : Addr) (ox od : Obj), PySem.W.InstAt s.heap a ox (He.ga X.K c) (some od) → PySem.W.findIn X.K (.ref (He.ga X.K c)) m = some (some (.ref f)) → PySem.W.isFn X.K (.ref f) = true → (∀ (A : Around) (E2 : Value → Shared → Prop) (R2 : Value → Shared → Prop), Sub X (k + 1) A → (∀ u s' v H', Inv X pins σ H' s' → RelV v u → Qv v H' → R2 u s') → wpAny (model X.prog X.w) A (call (.ref f) [.ref a]) R2 E2 s) → G) : G := by
  obtain ⟨cl, f, qual, st, fd, h1, h2, FD, S, bnd, body⟩ := o
  obtain ⟨mA, J, _⟩ := ins_get I.hok ha
  obtain ⟨od, J, _⟩ := J.look
  refine h f _ od J h1 h2 fun A E2 R2 sb hR => ?_
  obtain ⟨oc, od', dV, kV, doc, pm, an, cdv, ct, osl, rfl, lk, hcd, hD, hK⟩ := FD.ex
  have hdV : dV = .none := by
    rcases hD with ⟨_, e⟩ | ⟨e, _⟩
    · exact e
    · exact absurd rfl e
  subst hdV
  have e0 : Env0 X.prog X.w X.K X.mg X.base A X.stack s H := by
    have e := I.env0
    exact ⟨by rw [sb.fr]; exact e.frames, e.mod, e.bs, e.bsz, e.funs, e.frf, e.hok, e.bare⟩
  have r : Vals [V.ref a] [Value.ref a] := .cons rfl .nil
  refine wpAny_call (codeAny_mono (fn_at (CX := CX0) (ps := ["self"]) (N := ["self"]) (E := L2.E0) (Q := Qv) lk hcd S sb.room e0 (.of_eq (bnd kV doc pm an cdv ct [.ref a] rfl)) r rfl fun hr => ⟨_, body cdv A X.stack s H L2.E0 hr, ht⟩) fun r s' hq => ?_)
  cases r with
  | error e => exact False.elim hq
  | ok fl =>
    cases fl with
    | next => exact False.elim hq
    | brk => exact False.elim hq
    | cont => exact False.elim hq
    | ret u =>
      obtain ⟨v, H', I', rv, q⟩ := I.after hq
      exact hR u s' v H' I' rv q
theorem own_iter {Q : Value → Shared → Prop} (o : OwnI X.prog X.w X.K X.mg X.base k c F) (sb : Sub X (k + 1) A1) (I : Inv X pins σ H s) (ha : H a = some (.ins (He.ga X.K c) dx fs)) (hl : fs.lookup F = some (.ref t)) (ht : SqT X.K H t xs)
    (h : ∀ it s', s.heap.objs.size ≤ it → H it = none → Inv X pins σ (upd H it (itH it t 0)) s' → Q (.ref it) s') : wpAny (model X.prog X.w) A1 (pyIter (.ref a)) Q E s := by
  refine own_code (Qv := fun v H' => ∃ it, v = .ref it ∧ s.heap.objs.size ≤ it ∧ H it = none ∧ H' = upd H it (itH it t 0)) o.1 sb I ha ⟨.ref a, rfl, a, _, dx, fs, .ref t, rfl, ha, o.1.1, o.2, hl, t, xs, rfl, ht, fun it n g => ⟨it, rfl, g, n, rfl⟩⟩ fun f ox od J h1 h2 run => ?_
  obtain ⟨m0, hF⟩ := I.fr
  refine PySem.W.owit_iter hF I.ok.mod.kin J h1 h2 (run _ _ _ sb fun u s' v H' I' rv q => ?_)
  obtain ⟨it, rfl, g, n, rfl⟩ := q
  obtain rfl : u = Value.ref it := rv
  have e := itH_at I' upd_same
  unfold PySem.W.OwitIt
  exact wpAny_specialOf (show s'.TypeIs (.ref it) "tuple_iterator" from e.typeIs) PySem.F.slot_tuple_iterator_next.lookup (h it s' g n I')
theorem len_tail {A : Around} {n : Nat} {tk : Tok} {Q : Value → Shared → Prop} (hz : n ≤ sizeLine) (h : ∀ t s', s'.heap = s.heap → s'.gens = s.gens → s'.drawn = s.drawn → s'.os = s.os → Q (.int n t) s') :
    wpAny (model X.prog X.w) A (do
      let m ← holding [Value.int n tk] (asIndex (.int n tk))
      letGo [Value.int n tk]
      if m < 0 then rule "len.negative"; raiseError "ValueError" "__len__() should return >= 0"
      if m ≥ 2 ^ 63 then
        if let .ref _ := Value.int n tk then unsupported "len:the-overflow's-words-name-the-type-of-what-__len__-gave"
        rule "len.overflow"; raiseError "OverflowError" "cannot fit 'int' into an index-sized integer"
      retInt m) (fun f s' => ∃ v, f = .done (.ret v) ∧ Q v s') E s := by
  have hs : sizeLine = 16777216 := sizeLine_eq
  refine wpAny_bind (wpAny_holding (wpAny_pure ?_))
  refine wpAny_bind (wpAny_letGo ?_)
  show wpAny _ _ (if ((n : Nat) : Int) < 0 then _ else _) _ _ _
  rw [if_neg (by omega)]
  show wpAny _ _ (if ((n : Nat) : Int) ≥ 2 ^ 63 then _ else _) _ _ _
  rw [if_neg (by omega)]
  exact wpAny_bind (wpAny_mkInt (wpAny_pure ⟨_, rfl, h _ _ rfl rfl rfl rfl⟩))
theorem own_len {Q : Value → Shared → Prop} (o : OwnL X.prog X.w X.K X.mg X.base k c F) (sb : Sub X (k + 2) A1) (I : Inv X pins σ H s) (ha : H a = some (.ins (He.ga X.K c) dx fs)) (hl : fs.lookup F = some (.ref t)) (ht : SqT X.K H t xs) (hz : xs.length ≤ sizeLine)
    (h : ∀ tk s', Inv X pins σ H s' → Q (.int xs.length tk) s') : wpAny (model X.prog X.w) A1 (call (.builtin "len") [.ref a]) Q E s := by
  refine own_code (A1 := A1.in1) (Qv := fun v H' => v = .int xs.length ∧ H' = H) o.1 sb.in1 I ha ⟨.ref a, rfl, a, _, dx, fs, .ref t, rfl, ha, o.1.1, o.2, hl, .inl ⟨t, xs, rfl, .inr ht, rfl, rfl⟩⟩ fun f ox od J h1 h2 run => ?_
  refine Calls.call_function_entry (by decide +kernel) (by decide +kernel) entry_len (args_len1 _) ?_
  unfold Builtin.«len»
  refine wpAny_bind (m := oneArg "len" _) (wpAny_of_eq (a := Value.ref a) (by first | rfl | kernel_rfl!) ?_)
  refine wpAny_bind (PySem.W.special_fn I.kIn J h1 (beq_iff_eq.mp h2) (run _ _ _ sb.in1 fun u s' v H' I' rv q => ?_))
  obtain ⟨rfl, rfl⟩ := q
  obtain ⟨tk, rfl⟩ := rv
  exact len_tail (X := X) hz fun tk s'' e1 e2 e3 e4 => h tk s'' (by
    obtain ⟨hp, g, d, tt, os⟩ := s''
    cases e1; cases e2; cases e3; cases e4
    exact I'.tok _)
/-- for .. in o, o of one of the classes cs -/
def iOwn (K : Fg) (cs : List Str) (F : Str) (te : TE) : TI := fun σ H R => te σ H fun x H1 => ∃ c a dx fs t xs, c ∈ cs ∧ x = .ref a ∧ H1 a = some (.ins (He.ga K c) dx fs) ∧ fs.lookup F = some (.ref t) ∧ SqT K H1 t xs ∧ R (Itt K t) H1
theorem pi_own {K : Fg} {P : Program} {w : World} {mg : Str → Option Value} {base : Heap} {cs : List Str} {tg e : Expr} {te : TE} (cx : CxIs X K P w mg base) (o : ∀ c ∈ cs, OwnI P w K mg base k c F) (hr : Room (k + 1) X.A) (he : PE X e te) : PI X tg e (iOwn K cs F te) := by
  obtain ⟨rfl, rfl, rfl, rfl, rfl⟩ := cx
  refine ⟨fun pins s σ H R I h => ?_⟩
  refine thn (he.run pins s σ H _ I h) fun v s1 ⟨x, H1, I1, r1, c, a, dx, fs, t, xs, hc, ex, ha, hl, ht, q⟩ => ?_
  subst ex
  obtain rfl : v = Value.ref a := r1
  refine own_iter (o c hc) ⟨hr, rfl⟩ I1 ha hl ht fun it s' g n I' => ?_
  have e := itH_at I' upd_same
  have I2 : Inv X pins σ H1 s' := by
    have := ItX.inv_drop I' (a := it) upd_same
    rwa [ItX.dropH_upd n] at this
  refine ⟨it, [it], _, _, H1, rfl, I2, turn_tuple t it, e, fun b hb => ?_, q⟩
  have eb : b = it := by simpa using hb
  subst eb
  exact I1.fpOk g n
/-- list(o) -/
def rListO (K : Fg) (cs : List Str) (F : Str) : List V → Hp → VK → Prop := fun vs H Q => ∃ c a dx fs t xs, c ∈ cs ∧ vs = [.ref a] ∧ H a = some (.ins (He.ga K c) dx fs) ∧ fs.lookup F = some (.ref t) ∧ SqT K H t xs ∧ ∀ q, H q = none → Q (.ref q) (upd H q (.lst xs))
theorem own_fill {A : Around} {it S : Addr} {H0 : Hp} {Rs : Result → Shared → Prop} (hh : A.handled = none) (hA : A.in1.handled = none) (ht : ∀ (H : Hp), (∀ b u, H0 b = some u → H b = some u) → SqT X.K H t xs) (hn : H0 it = none) (hS : H0 S = none) (hne : S ≠ it) (hz : xs.length ≤ sizeLine) (g : ∀ s, Inv X pins σ (upd (upd H0 it (itH it t xs.length)) S (.lst xs)) s → FpOk X pins (upd H0 S (.lst xs)) it)
    (done : ∀ s, Inv X pins σ (upd H0 S (.lst xs)) s → Rs (.ok (.ret .none)) s) :
    ∀ (m i : Nat) (s : Shared), i + m = xs.length → Inv X pins σ (upd (upd H0 it (itH it t i)) S (.lst (xs.take i))) s → codeAny (model X.prog X.w) A (.builtin "list.extend.loop" ⟨[.ref S, .ref it, .none], []⟩) Rs s := by
  intro m
  induction m with
  | zero =>
    intro i s hi I
    have hi : i = xs.length := by omega
    subst hi
    rw [List.take_length] at I
    refine codeAny_builtin PySem.F.entry_extend_loop ?_
    rw [Around.under_plainId PySem.F.plain_extend_loop _]
    show wpAny _ A.in1 (pyNext (.ref it) >>= _) _ _ s
    have e1 : upd (upd H0 it (itH it t xs.length)) S (.lst xs) it = some (itH it t xs.length) := by rw [upd_ne (Ne.symm hne), upd_same]
    have e := itH_at I e1
    have hT : SqT X.K (upd (upd H0 it (itH it t xs.length)) S (.lst xs)) t xs := ht _ fun b u q => by
      rw [upd_ne (ne_of_none q hS), upd_ne (ne_of_none q hn)]
      exact q
    obtain ⟨its, rv, pl, _⟩ := I.tuple hT
    have hl := rv.length
    have fp := g s I
    have ed : ItX.dropH (upd (upd H0 it (itH it t xs.length)) S (.lst xs)) it = upd H0 S (.lst xs) := by
      funext b
      by_cases hb : b = it
      · subst hb
        rw [ItX.dropH_same, upd_ne (Ne.symm hne), hn]
      · rw [ItX.dropH_ne hb]
        by_cases hb2 : b = S
        · subst hb2
          rw [upd_same, upd_same]
        · rw [upd_ne hb2, upd_ne hb2, upd_ne hb]
    have I2 := ItX.inv_drop I e1
    rw [ed] at I2
    obtain ⟨f0, f1, f2, f3, f4, f5⟩ := fp
    refine wpAny_bind (wpAny_pyNext_tuple_end hA e (show s.heap.IsTuple t its.toArray from pl) (by rw [List.getElem?_toArray, List.getElem?_eq_none]; omega) fun h' eb => ?_)
    exact wpAny_pure (done _ (I2.turned (t' := s.toks) (fun b o hb e => eb b o hb e) f0 f1 f3 f4 f5))
  | succ m ih =>
    intro i s hi I
    refine codeAny_builtin PySem.F.entry_extend_loop ?_
    rw [Around.under_plainId PySem.F.plain_extend_loop _]
    show wpAny _ A.in1 (pyNext (.ref it) >>= _) _ _ s
    have e1 : upd (upd H0 it (itH it t i)) S (.lst (xs.take i)) it = some (itH it t i) := by rw [upd_ne (Ne.symm hne), upd_same]
    have e := itH_at I e1
    have hT : SqT X.K (upd (upd H0 it (itH it t i)) S (.lst (xs.take i))) t xs := ht _ fun b u q => by
      rw [upd_ne (ne_of_none q hS), upd_ne (ne_of_none q hn)]
      exact q
    obtain ⟨its, rv, pl, _⟩ := I.tuple hT
    have hl := rv.length
    have hx : xs[i]? = some xs[i] := List.getElem?_eq_getElem (by omega)
    obtain ⟨u, hu, ru⟩ := rv.get hx
    refine wpAny_bind (wpAny_pyNext_tuple_item e (show s.heap.IsTuple t its.toArray from pl) (x := u) (by rw [List.getElem?_toArray]; exact hu) fun h' st' sb => ?_)
    have ho : ∃ o, h'.get? it = some o := let ⟨o, q, _⟩ := st'; ⟨o, q⟩
    have I2 := I.write (x := it) (e := it) (t' := s.toks) (o := itH it t (i + 1)) (h' := h') (by rw [e1]; exact True.intro) (.inl rfl) (fun b o nb z => (sb.2 b nb).trans z) ho (itH_ok st')
    have e3 : upd (upd (upd H0 it (itH it t i)) S (.lst (xs.take i))) it (itH it t (i + 1)) = upd (upd H0 it (itH it t (i + 1))) S (.lst (xs.take i)) := by
      funext b
      by_cases hb : b = it
      · subst hb
        rw [upd_same, upd_ne (Ne.symm hne), upd_same]
      · rw [upd_ne hb]
        by_cases hb2 : b = S
        · subst hb2
          rw [upd_same, upd_same]
        · rw [upd_ne hb2, upd_ne hb2, upd_ne hb, upd_ne hb]
    rw [e3] at I2
    obtain ⟨z, its2, k2, r2, hl2, e4⟩ := I2.lstM (l := S) (xs := xs.take i) (by rw [upd_same])
    have hzi : its2.length = i := by rw [← hl2, List.length_take]; omega
    have lim : sizeLine = 16777216 := sizeLine_eq
    show wpAny _ A.in1 (updateSeq S (·.push u) >>= _) _ _ _
    refine wpAny_bind (wpAny_updateSeq e4 rfl (wpAny_pure ⟨plainId_quiet PySem.F.plain_extend_loop _, ?_⟩) (by rw [List.size_toArray]; omega) (by show (its2.toArray.push u).size ≤ sizeLine + 1; rw [Array.size_push, List.size_toArray]; omega))
    have tk : xs.take (i + 1) = xs.take i ++ [xs[i]] := by
      rw [List.take_add_one, hx]
      rfl
    have I3 := I2.lset (l := S) (its' := its2 ++ [u]) (ys := xs.take (i + 1)) (f := (·.push u)) (t' := s.toks) (by rw [upd_same]) e4 (by simp) (by rw [tk]; exact r2.append (.cons ru .nil)) (by rw [List.length_take]; omega)
    rw [upd_upd] at I3
    exact ih (i + 1) _ (by omega) I3
end
end Dn

namespace Dn
open PySem PySem.Spec PyProof.Rows L2
section
variable {X : Cx} {pins : List (Addr × Obj)} {σ : L2.St} {H : Hp} {s : Shared} {a t dx : Addr} {A1 : Around} {E : Value → Shared → Prop} {k : Nat} {c F : Str} {fs : List (Str × V)} {xs : List V}
theorem own_lhint {Q : Bool → Shared → Prop} (o : OwnL X.prog X.w X.K X.mg X.base k c F) (sb : Sub X (k + 2) A1) (I : Inv X pins σ H s) (ha : H a = some (.ins (He.ga X.K c) dx fs)) (hl : fs.lookup F = some (.ref t)) (ht : SqT X.K H t xs) (hz : xs.length ≤ sizeLine)
    (h : ∀ b s', Inv X pins σ H s' → Q b s') : wpAny (model X.prog X.w) A1 (Builtin.List.listLengthHint (.ref a)) Q E s := by
  obtain ⟨cl, f, qual, st, fd, h1, h2, _⟩ := o.1
  obtain ⟨mA, J, _⟩ := ins_get I.hok ha
  obtain ⟨od, J, _⟩ := J.look
  unfold Builtin.List.listLengthHint
  refine wpAny_bind (wpAny_bind (J.type.here ((PySem.W.looks_findIn I.kIn h1).here ?_)))
  refine PySem.W.KFB.if_not rfl ?_
  refine wpAny_ite_split (fun _ => ?_) (fun z => absurd rfl z)
  refine wpAny_bind (wpAny_rule ?_)
  refine wpAny_bind (wpAny_attempt (own_len o sb I ha hl ht hz fun tk s' I' => ?_))
  show wpAny _ A1 (asInt? (.int xs.length tk) >>= _) _ _ s'
  refine wpAny_bind ?_
  show wpAny _ A1 (pure (some (xs.length : Int))) _ _ s'
  refine wpAny_pure ?_
  show wpAny _ A1 (if Builtin.List.listTooLong ((xs.length : Int).toNat) = true then _ else _) _ _ s'
  rw [if_neg (by rw [notLongL (by omega)]; exact Bool.false_ne_true)]
  exact wpAny_pure (h _ _ I')
theorem cr_listO {K : Fg} {P : Program} {w : World} {mg : Str → Option Value} {base : Heap} {cs : List Str} (cx : CxIs X K P w mg base) (hc : X.calm = true) (oi : ∀ c ∈ cs, OwnI P w K mg base k c F) (ol : ∀ c ∈ cs, OwnL P w K mg base k c F) (hr : Room (k + 5) X.A) : CallR X (.type "list") (rListO K cs F) := by
  obtain ⟨rfl, rfl, rfl, rfl, rfl⟩ := cx
  intro pins s σ H vs us Q I rv h
  obtain ⟨c, a, dx, fs, t, xs, hcs, rfl, ha, hl, ht, hq⟩ := h
  obtain ⟨u, rfl, ru⟩ := rv.one
  cases ru
  have sb : Sub X (k + 3) X.A.in1.in1 := (Sub.in1 (Sub.in1 (⟨hr, rfl⟩ : Sub X (k + 5) X.A)))
  obtain ⟨_, _, _, hzt⟩ := I.tuple ht
  have hz : xs.length ≤ sizeLine := hzt
  refine callType_codes (Q₁ := fun obj s₁ => obj = .ref s.heap.objs.size ∧ s₁ = { s with heap := s.heap.push { cls := .type "list", data := .seq #[] } }) PySem.F.called_list (PySem.F.typeCall_list_1 _) PySem.F.entry_list_init
    (code_list_new _ ⟨rfl, rfl⟩) fun obj s₁ h₁ => ?_
  obtain ⟨rfl, rfl⟩ := h₁
  have hS : (s.heap.push { cls := .type "list", data := .seq #[] }).get? s.heap.objs.size = some { cls := .type "list", data := .seq #[] } := Heap.get?_push_size _ rfl
  refine ⟨⟨_, hS, rfl⟩, PySem.F.args_list_init_2 _ _, ?_⟩
  have fr : H s.heap.objs.size = none := I.hok.fresh (Nat.le_refl _)
  have I1 : Inv X pins σ (upd H s.heap.objs.size (.lst [])) { s with heap := s.heap.push { cls := .type "list", data := .seq #[] } } := I.lnew (its := []) (t' := s.toks) .nil (Nat.zero_le _)
  show wpAny _ _ (do let old ← Builtin.List.listItems (.ref s.heap.objs.size); Builtin.List.listUpdate (.ref s.heap.objs.size) (fun _ => #[]); letGo old.toList.reverse; Builtin.List.listExtendWith (.ref s.heap.objs.size) (.ref a) .none) _ _ _
  refine wpAny_bind ?_
  unfold Builtin.List.listItems
  refine wpAny_bind (wpAny_seqItems hS rfl (wpAny_pure ?_))
  show wpAny _ _ (updateSeq s.heap.objs.size (fun _ => #[]) >>= fun _ => letGo (#[] : Array Value).toList.reverse >>= fun _ => Builtin.List.listExtendWith (.ref s.heap.objs.size) (.ref a) .none) _ _ _
  refine wpAny_bind (wpAny_updateSeq hS rfl ?_)
  have I2 := I1.lset (f := fun _ => #[]) (its := []) (its' := []) (ys := []) (t' := s.toks) upd_same hS rfl .nil (Nat.zero_le _)
  rw [upd_upd] at I2
  refine wpAny_bind (wpAny_letGo ?_)
  have same : Same H (upd H s.heap.objs.size (.lst [])) := fun b o e => by rw [upd_ne (ne_of_none e fr)]; exact e
  have ha2 : upd H s.heap.objs.size (.lst []) a = some (.ins (He.ga X.K c) dx fs) := same _ _ ha
  have ht2 : SqT X.K (upd H s.heap.objs.size (.lst [])) t xs := sqT_mono same ht
  have hne : s.heap.objs.size ≠ a := Ne.symm (ne_of_none ha fr)
  generalize hs2 : ({ s with heap := (s.heap.push { cls := .type "list", data := .seq #[] }).update s.heap.objs.size (Obj.mapSeq fun _ => #[]), toks := s.toks } : Shared) = s2 at I2
  have hsz : s.heap.objs.size < s2.heap.objs.size := by
    obtain ⟨_, its, n, _, _, e⟩ := I2.lstM (l := s.heap.objs.size) (xs := []) upd_same
    exact Heap.lt_size e
  obtain ⟨mA, J, _⟩ := ins_get I2.hok ha2
  obtain ⟨od, J, _⟩ := J.look
  have h1 : Builtin.List.listSameRef (.ref s.heap.objs.size) (.ref a) = false := by simp [Builtin.List.listSameRef, hne]
  have h2 : (Value.ref (He.ga X.K c) == Value.type "list") = false := rfl
  have h3 : (Value.ref (He.ga X.K c) == Value.type "tuple") = false := rfl
  show wpAny _ _ (Builtin.List.listExtendWith (.ref s.heap.objs.size) (.ref a) .none) _ _ _
  first | rw [hs2] | skip
  unfold Builtin.List.listExtendWith
  refine wpAny_bind (J.type.here ?_)
  simp only [h1, h2, h3, Bool.or_false, Bool.false_eq_true, if_false]
  refine wpAny_bind (own_iter (oi c hcs) (sb.mono (by omega)) I2 ha2 hl ht2 fun it s3 g n I3 => ?_)
  have nS : s.heap.objs.size ≠ it := by omega
  have same3 : Same (upd H s.heap.objs.size (.lst [])) (upd (upd H s.heap.objs.size (.lst [])) it (itH it t 0)) := fun b o e => by rw [upd_ne (ne_of_none e n)]; exact e
  refine wpAny_bind (wpAny_holding (own_lhint (ol c hcs) (sb.mono (by omega)) I3 (same3 _ _ ha2) hl (sqT_mono same3 ht2) hz fun b s4 I4 => ?_))
  have hn : H it = none := by
    rw [upd_ne (Ne.symm nS)] at n
    exact n
  have comm : upd (upd H s.heap.objs.size (.lst [])) it (itH it t 0) = upd (upd H it (itH it t 0)) s.heap.objs.size (.lst []) := by
    funext b
    by_cases hb : b = it
    · subst hb
      rw [upd_same, upd_ne (Ne.symm nS), upd_same]
    · rw [upd_ne hb]
      by_cases hb2 : b = s.heap.objs.size
      · subst hb2
        rw [upd_same, upd_same]
      · rw [upd_ne hb2, upd_ne hb2, upd_ne hb]
  rw [comm] at I4
  have loop : ∀ s5, Inv X pins σ (upd (upd H it (itH it t 0)) s.heap.objs.size (.lst [])) s5 → codeAny (model X.prog X.w) X.A.in1 (.builtin "list.extend.loop" ⟨[.ref s.heap.objs.size, .ref it, .none], []⟩) (wants (fun r s₂ => r = .none ∧ EP X pins σ Q (.ref s.heap.objs.size) s₂) X.xe) s5 := fun s5 I5 => by
    refine own_fill (A := X.A.in1) (xs := xs) (t := t) (H0 := H) (I.ok.hd hc) (I.ok.hd hc) (fun H' up => sqT_mono (fun b o e => up b o e) ht) hn fr nS hz (fun s6 I6 => ?_) (fun s6 I6 => ⟨rfl, .ref s.heap.objs.size, _, I6, rfl, hq _ fr⟩) xs.length 0 s5 (by omega) (by rw [List.take_zero]; exact I5)
    exact I2.fpOk g (by rw [upd_ne (Ne.symm nS)]; exact hn)
  refine wpAny_ite_split (fun _ => ?_) (fun _ => wpAny_pure ⟨plainId_quiet PySem.F.plain_extend_loop _, loop _ I4⟩)
  refine wpAny_bind (wpAny_rule ?_)
  refine wpAny_bind ?_
  show wpAny _ _ (updateSeq s.heap.objs.size (·.push .none) >>= fun _ => updateSeq s.heap.objs.size (·.pop)) _ _ _
  obtain ⟨z, its, k3, r3, hl3, e3⟩ := I4.lstM (l := s.heap.objs.size) (xs := []) upd_same
  cases r3
  refine wpAny_bind (wpAny_updateSeq e3 rfl ?_)
  have I5 := I4.lset (l := s.heap.objs.size) (f := (·.push Value.none)) (its' := [Value.none]) (ys := [.non]) (t' := s4.toks) upd_same e3 (by simp) (.cons rfl .nil) (by rw [List.length_singleton, sizeLine_eq]; decide)
  obtain ⟨z4, its4, k4, r4, hl4, e4⟩ := I5.lstM (l := s.heap.objs.size) (xs := [.non]) upd_same
  obtain ⟨u4, rfl, ru4⟩ := r4.one
  refine wpAny_updateSeq e4 rfl ?_ (by show 1 ≤ sizeLine; rw [sizeLine_eq]; decide) (by show 0 ≤ sizeLine + 1; exact Nat.zero_le _)
  have I6 := I5.lset (l := s.heap.objs.size) (f := (·.pop)) (its := [u4]) (its' := []) (ys := []) (t' := s4.toks) upd_same e4 (by rfl) .nil (Nat.zero_le _)
  rw [upd_upd, upd_upd] at I6
  exact wpAny_pure ⟨plainId_quiet PySem.F.plain_extend_loop _, loop _ I6⟩
end
end Dn

namespace Dn
open PySem PySem.Spec PyProof.Rows L2
/-! ### own walks: denotations -/
theorem room1 {k : Nat} {A : Around} (r : Room k A) : A.units + 1 < cLine := by have := r.units; omega
/-- the tuple that an instance of one of the classes hands out -/
def rowsO (cs : List Str) (F : Str) (c : Str) (fs : List (Str × D)) : Option (List D) := if c ∈ cs then (match fs.lookup F with
  | some (.tup xs) => some xs
  | _ => none) else none
def pListO (cs : List Str) (F : Str) : List D → Option X
  | [.obj c fs] => (rowsO cs F c fs).map fun xs => .ow (.lst xs)
  | _ => none
def pLenO (cs : List Str) (F : Str) : List D → Option X
  | [.obj c fs] => (rowsO cs F c fs).map fun xs => .im (.int xs.length)
  | _ => none
def rLenO (K : Fg) (cs : List Str) (F : Str) : List V → Hp → VK → Prop := fun vs H Q => ∃ c a dx fs t xs, c ∈ cs ∧ vs = [.ref a] ∧ H a = some (.ins (He.ga K c) dx fs) ∧ fs.lookup F = some (.ref t) ∧ SqT K H t xs ∧ Q (.int xs.length) H
theorem cr_lenO {K : Fg} {P : Program} {w : World} {mg : Str → Option Value} {base : Heap} {cs : List Str} {F : Str} {k : Nat} {X : Cx} (cx : CxIs X K P w mg base) (ol : ∀ c ∈ cs, OwnL P w K mg base k c F) (hr : Room (k + 2) X.A) : CallR X (.builtin "len") (rLenO K cs F) := by
  obtain ⟨rfl, rfl, rfl, rfl, rfl⟩ := cx
  intro pins s σ H vs us Q I rv h
  obtain ⟨c, a, dx, fs, t, xs, hcs, rfl, ha, hl, ht, hq⟩ := h
  obtain ⟨u, rfl, ru⟩ := rv.one
  cases ru
  obtain ⟨_, _, _, hzt⟩ := I.tuple ht
  exact own_len (ol c hcs) ⟨hr, rfl⟩ I ha hl ht hzt fun tk s' I' => ⟨.int xs.length, H, I', ⟨tk, rfl⟩, hq⟩
section
variable {K : Fg} [WD K] {W : WS} {M M' M1 M2 : Hp} {env env' env1 env2 : Ev} {σ σ' σ1 : L2.St} {H H' H1 H2 : Hp} {x y : X} {v u : V} {te : TE} {de : Ev → RE X} {cs : List Str} {F : Str}
theorem rowsO_ok {c : Str} {fs : List (Str × D)} {fvs : List (Str × V)} {xs : List D} (e : rowsO cs F c fs = some xs) (r : RepF K M fs fvs) : c ∈ cs ∧ ∃ t vs, fvs.lookup F = some (.ref t) ∧ SqN K M t vs ∧ Reps K M xs vs := by
  unfold rowsO at e
  split at e
  · rename_i hc
    split at e
    · rename_i ys hl
      cases e
      obtain ⟨v, h1, h2⟩ := repF_lookup r hl
      simp only [Rep] at h2
      obtain ⟨t, vs, rfl, h3, h4⟩ := h2
      exact ⟨hc, t, vs, h1, h3, h4⟩
    · cases e
  · cases e
theorem ok_listO : CallOk K (rListO K cs F) (pListO cs F) := fun M H ds x vs s r e Q q => by
  unfold pListO at e
  split at e
  · rename_i c fs
    obtain ⟨xs, e1, rfl⟩ := Option.map_eq_some_iff.mp e
    obtain ⟨v, rfl, h⟩ := one_rd r
    obtain ⟨a, dx, fvs, rfl, h1, h2⟩ := h.obj s
    obtain ⟨hc, t, us, h3, h4, h5⟩ := rowsO_ok e1 h2
    exact ⟨c, a, dx, fvs, t, us, hc, rfl, h1, h3, (h4.mono s).t, fun p n => q.lst s h5 n⟩
  · cases e
theorem ok_lenO : CallOk K (rLenO K cs F) (pLenO cs F) := fun M H ds x vs s r e Q q => by
  unfold pLenO at e
  split at e
  · rename_i c fs
    obtain ⟨xs, e1, rfl⟩ := Option.map_eq_some_iff.mp e
    obtain ⟨v, rfl, h⟩ := one_rd r
    obtain ⟨a, dx, fvs, rfl, h1, h2⟩ := h.obj s
    obtain ⟨hc, t, us, h3, h4, h5⟩ := rowsO_ok e1 h2
    rw [h5.length] at q
    exact ⟨c, a, dx, fvs, t, us, hc, rfl, h1, h3, (h4.mono s).t, q.im0 s rep_int⟩
  · cases e
def diOwn (cs : List Str) (F : Str) (de : Ev → RE X) : Ev → RE Dn.Its := fun env => (de env).bind fun x e1 => opt ((rcvA e1 x).bind fun cf => (rowsO cs F cf.1 cf.2).map fun l => (l, none)) e1
theorem di_own (h : DE K W te de) : DI K W (iOwn K cs F te) (diOwn cs F de) := fun M σ H env hh => by
  refine Sat.bind (c := fun x H1 (R : It → Hp → Prop) => ∃ c a dx fs t xs, c ∈ cs ∧ x = V.ref a ∧ H1 a = some (.ins (He.ga K c) dx fs) ∧ fs.lookup F = some (.ref t) ∧ SqT K H1 t xs ∧ R (Itt K t) H1) back_i hh (h M σ H env hh) (fun Q q => q) fun M1 H1 env1 x v g1 s1 hh1 r1 => ?_
  cases e1 : (rcvA env1 x).bind fun cf => (rowsO cs F cf.1 cf.2).map fun l => (l, (none : Option Nat)) with
  | none => trivial
  | some its =>
    refine fun Q k => ?_
    obtain ⟨⟨c, fs⟩, e2, e3⟩ := Option.bind_eq_some_iff.mp e1
    obtain ⟨l, e4, rfl⟩ := Option.map_eq_some_iff.mp e3
    obtain ⟨a, dx, fvs, rfl, ea, rf⟩ := rcvA_ok hh1 r1.1 e2
    obtain ⟨hc, t, us, h3, h4, h5⟩ := rowsO_ok e4 rf
    exact ⟨c, a, dx, fvs, t, us, hc, rfl, ea, h3, (h4.mono hh1.ex).t, k _ M1 H1 .refl (.refl _) hh1 ⟨[], (fun a z => nomatch z), it_seqT h5 h4.t, (fun j z => nomatch z)⟩⟩
end
end Dn

namespace Dn
open PySem PySem.Spec PyProof.Rows L2
/-- the keyword-only default nm of the def or method at key, if it is an object -/
def kwAtK (key : Str × Option Str) (nm : Str) (K : Fg) : Addr := match K.lookup (He.fAd K key) with
  | some ⟨_, _, .func fd, _⟩ => (match fd.kwdefaults with
    | .ref D => (match PySem.W.nsIn K D nm with
      | some (some (.ref a)) => a
      | _ => 0)
    | _ => 0)
  | _ => 0
theorem fndB_ok {K : Fg} {C : Value} {n : Str} {v : Option Value} (h : fndB K C n v = true) : PySem.W.findIn K C n = some v := of_decide_eq_true h
end Dn

namespace Wk
open PySem PySem.Spec PyProof.Rows L2 Dn
def topS (i : Nat) : Stmt := PySem.Challenge.pw_ballotturns_k06_roll_rows.main.body.getD i (.Pass ⟨0, 0, 0, 0⟩)
abbrev s__law_mix : Stmt := topS 34
abbrev s__law_draw : Stmt := topS 36
abbrev s__law_word : Stmt := topS 37
abbrev s__law_names : Stmt := topS 38
abbrev s__law_cell : Stmt := topS 33
abbrev s__law_pool : Stmt := topS 35
abbrev s__law_choice : Stmt := topS 39
abbrev s__law_ballot : Stmt := topS 40
abbrev s__law_times : Stmt := topS 41
abbrev s__law_many_rows : Stmt := topS 46
abbrev s__law_sum_of : Stmt := topS 44
abbrev s__law_ahead : Stmt := topS 43
abbrev s__law_ordered : Stmt := topS 45
abbrev s_is_name : Stmt := topS 16
abbrev s_checked_names : Stmt := topS 17
abbrev s_checked_ballot : Stmt := topS 18
abbrev s_sorted_rows : Stmt := topS 30
abbrev s_Roll___init__ : Stmt := match topS 31 with
  | .ClassDef (body := b) .. => b.getD 1 (.Pass ⟨0, 0, 0, 0⟩)
  | _ => .Pass ⟨0, 0, 0, 0⟩
abbrev s__law_same : Stmt := topS 42
abbrev s__law_yields : Stmt := topS 47
abbrev s_law : Stmt := topS 48
abbrev s_Roll___iter__ : Stmt := match topS 31 with
  | .ClassDef (body := b) .. => b.getD 6 (.Pass ⟨0, 0, 0, 0⟩)
  | _ => .Pass ⟨0, 0, 0, 0⟩
abbrev s_Roll___len__ : Stmt := match topS 31 with
  | .ClassDef (body := b) .. => b.getD 7 (.Pass ⟨0, 0, 0, 0⟩)
  | _ => .Pass ⟨0, 0, 0, 0⟩
abbrev mfP : Str := PySem.Challenge.pw_ballotturns_k06_roll_rows.main.file
def exT : XTab := []
def kiT : XTab := []
def ktT : XTab2 := []
def oexL : List Str := []
def oiT : XTab := [(("Roll", "Roll"), true)]
def oiU : XTab2 := []
@[simp] theorem oi_Roll_Roll : XTab.get oiT "Roll" "Roll" = some true := by decide
def fl_names : List Str := ["Roll"]
@[simp] theorem in_fl_names_Roll : ("Roll" : Str) ∈ fl_names := by decide
def fl__rows : List Str := ["Roll"]
@[simp] theorem in_fl__rows_Roll : ("Roll" : Str) ∈ fl__rows := by decide
structure TX (P : Program) (w : World) (K : Fg) [WD K] (mg : Str → Option Value) : Prop where
  wd : WD.P K = P ∧ WD.w K = w
  F__law_mix : ∃ fd, FunD K "_law_mix" "_law_mix" (defArgs s__law_mix) (defBody s__law_mix) (defScope s__law_mix) [] [] (He.ga K "_law_mix") fd
  g__law_mix : mg "_law_mix" = some (.ref (He.ga K "_law_mix"))
  F__law_draw : ∃ fd, FunD K "_law_draw" "_law_draw" (defArgs s__law_draw) (defBody s__law_draw) (defScope s__law_draw) [] [] (He.ga K "_law_draw") fd
  g__law_draw : mg "_law_draw" = some (.ref (He.ga K "_law_draw"))
  F__law_word : ∃ fd, FunD K "_law_word" "_law_word" (defArgs s__law_word) (defBody s__law_word) (defScope s__law_word) [] [] (He.ga K "_law_word") fd
  g__law_word : mg "_law_word" = some (.ref (He.ga K "_law_word"))
  F__law_names : ∃ fd, FunD K "_law_names" "_law_names" (defArgs s__law_names) (defBody s__law_names) (defScope s__law_names) [] [] (He.ga K "_law_names") fd
  g__law_names : mg "_law_names" = some (.ref (He.ga K "_law_names"))
  F__law_cell : ∃ fd, FunD K "_law_cell" "_law_cell" (defArgs s__law_cell) (defBody s__law_cell) (defScope s__law_cell) [] [] (He.ga K "_law_cell") fd
  g__law_cell : mg "_law_cell" = some (.ref (He.ga K "_law_cell"))
  F__law_pool : ∃ fd, FunD K "_law_pool" "_law_pool" (defArgs s__law_pool) (defBody s__law_pool) (defScope s__law_pool) [] [] (He.ga K "_law_pool") fd
  g__law_pool : mg "_law_pool" = some (.ref (He.ga K "_law_pool"))
  F__law_choice : ∃ fd, FunD K "_law_choice" "_law_choice" (defArgs s__law_choice) (defBody s__law_choice) (defScope s__law_choice) [] [] (He.ga K "_law_choice") fd
  g__law_choice : mg "_law_choice" = some (.ref (He.ga K "_law_choice"))
  F__law_ballot : ∃ fd, FunD K "_law_ballot" "_law_ballot" (defArgs s__law_ballot) (defBody s__law_ballot) (defScope s__law_ballot) [] [] (He.ga K "_law_ballot") fd
  g__law_ballot : mg "_law_ballot" = some (.ref (He.ga K "_law_ballot"))
  F__law_times : ∃ fd, FunD K "_law_times" "_law_times" (defArgs s__law_times) (defBody s__law_times) (defScope s__law_times) [] [] (He.ga K "_law_times") fd
  g__law_times : mg "_law_times" = some (.ref (He.ga K "_law_times"))
  F__law_many_rows : ∃ fd, FunD K "_law_many_rows" "_law_many_rows" (defArgs s__law_many_rows) (defBody s__law_many_rows) (defScope s__law_many_rows) [] [] (He.ga K "_law_many_rows") fd
  g__law_many_rows : mg "_law_many_rows" = some (.ref (He.ga K "_law_many_rows"))
  F__law_sum_of : ∃ fd, FunD K "_law_sum_of" "_law_sum_of" (defArgs s__law_sum_of) (defBody s__law_sum_of) (defScope s__law_sum_of) [] [] (He.ga K "_law_sum_of") fd
  g__law_sum_of : mg "_law_sum_of" = some (.ref (He.ga K "_law_sum_of"))
  F__law_ahead : ∃ fd, FunD K "_law_ahead" "_law_ahead" (defArgs s__law_ahead) (defBody s__law_ahead) (defScope s__law_ahead) [] [] (He.ga K "_law_ahead") fd
  g__law_ahead : mg "_law_ahead" = some (.ref (He.ga K "_law_ahead"))
  F__law_ordered : ∃ fd, FunD K "_law_ordered" "_law_ordered" (defArgs s__law_ordered) (defBody s__law_ordered) (defScope s__law_ordered) [] [] (He.ga K "_law_ordered") fd
  g__law_ordered : mg "_law_ordered" = some (.ref (He.ga K "_law_ordered"))
  F_is_name : ∃ fd, FunD K "is_name" "is_name" (defArgs s_is_name) (defBody s_is_name) (defScope s_is_name) [] [] (He.ga K "is_name") fd
  g_is_name : mg "is_name" = some (.ref (He.ga K "is_name"))
  F_checked_names : ∃ fd, FunD K "checked_names" "checked_names" (defArgs s_checked_names) (defBody s_checked_names) (defScope s_checked_names) [] [] (He.ga K "checked_names") fd
  g_checked_names : mg "checked_names" = some (.ref (He.ga K "checked_names"))
  F_checked_ballot : ∃ fd, FunD K "checked_ballot" "checked_ballot" (defArgs s_checked_ballot) (defBody s_checked_ballot) (defScope s_checked_ballot) [] [] (He.ga K "checked_ballot") fd
  g_checked_ballot : mg "checked_ballot" = some (.ref (He.ga K "checked_ballot"))
  F_sorted_rows : ∃ fd, FunD K "sorted_rows" "sorted_rows" (defArgs s_sorted_rows) (defBody s_sorted_rows) (defScope s_sorted_rows) [] [] (He.ga K "sorted_rows") fd
  g_sorted_rows : mg "sorted_rows" = some (.ref (He.ga K "sorted_rows"))
  F__law_same : ∃ fd, FunD K "_law_same" "_law_same" (defArgs s__law_same) (defBody s__law_same) (defScope s__law_same) [] [] (He.ga K "_law_same") fd
  g__law_same : mg "_law_same" = some (.ref (He.ga K "_law_same"))
  F__law_yields : ∃ fd, FunD K "_law_yields" "_law_yields" (defArgs s__law_yields) (defBody s__law_yields) (defScope s__law_yields) [] [] (He.ga K "_law_yields") fd
  g__law_yields : mg "_law_yields" = some (.ref (He.ga K "_law_yields"))
  F_law : ∃ fd, FunD K "law" "law" (defArgs s_law) (defBody s_law) (defScope s_law) [] [] (He.ga K "law") fd
  g_law : mg "law" = some (.ref (He.ga K "law"))
  F_Roll___init__ : ∃ fd, FunD K "__init__" "Roll.__init__" (defArgs s_Roll___init__) (defBody s_Roll___init__) (defScope s_Roll___init__) [(.ref (He.dflAt ("Roll", some "__init__") 0 K))] [("largest", (.int 1000000000000))] (He.ma K (He.ga K "Roll") "__init__") fd
  F_Roll___iter__ : ∃ fd, FunD K "__iter__" "Roll.__iter__" (defArgs s_Roll___iter__) (defBody s_Roll___iter__) (defScope s_Roll___iter__) [] [] (He.ma K (He.ga K "Roll") "__iter__") fd
  F_Roll___len__ : ∃ fd, FunD K "__len__" "Roll.__len__" (defArgs s_Roll___len__) (defBody s_Roll___len__) (defScope s_Roll___len__) [] [] (He.ma K (He.ga K "Roll") "__len__") fd
  b_all : mg "all" = none
  b_bool : mg "bool" = none
  b_enumerate : mg "enumerate" = none
  b_int : mg "int" = none
  b_isinstance : mg "isinstance" = none
  b_iter : mg "iter" = none
  b_len : mg "len" = none
  b_list : mg "list" = none
  b_min : mg "min" = none
  b_range : mg "range" = none
  b_sorted : mg "sorted" = none
  b_str : mg "str" = none
  b_sum : mg "sum" = none
  b_tuple : mg "tuple" = none
  g_Roll : mg "Roll" = some (.ref (He.ga K "Roll"))
  dv_Roll___init___rows : DvR K (.tup []) (.ref (He.dflAt ("Roll", some "__init__") 0 K))
  mk_Roll : Mk K (He.ga K "Roll") (He.ma K (He.ga K "Roll") "__init__")
  fd_names : FldT K fl_names "names"
  fd__rows : FldT K fl__rows "_rows"
  cl_Roll : Cls K (He.ga K "Roll")
  fi_Roll_iter : PySem.W.findIn K (.ref (He.ga K "Roll")) "__iter__" = some (some (.ref (He.ma K (He.ga K "Roll") "__iter__")))
  ff_Roll_iter : PySem.W.isFn K (.ref (He.ma K (He.ga K "Roll") "__iter__")) = true
  fi_Roll_len : PySem.W.findIn K (.ref (He.ga K "Roll")) "__len__" = some (some (.ref (He.ma K (He.ga K "Roll") "__len__")))
  ff_Roll_len : PySem.W.isFn K (.ref (He.ma K (He.ga K "Roll") "__len__")) = true
  ois : (∀ c C b, XTab.get oiT c C = some b → IsiC K (He.ga K c) ∧ PySem.W.kitOne K (.ref (He.ga K c)) (.ref (He.ga K C)) = some b) ∧ ∀ c n b, XTab2.get oiU c n = some b → IsiC K (He.ga K c) ∧ PySem.W.kitOne K (.ref (He.ga K c)) (.type n) = some b
  k_LETTERS : ∃ u, mg "LETTERS" = some u ∧ RelV (.str "abcdefghijklmnopqrstuvwxyz") u
  k_LONGEST_NAME : ∃ u, mg "LONGEST_NAME" = some u ∧ RelV (.int 12) u
  k_MOST_NAMES : ∃ u, mg "MOST_NAMES" = some u ∧ RelV (.int 5) u
  file : ((P.main.file : Str) == mfP) = true
  top : (P.main.scope.names.lookup ("super" : Str)).isSome = false
  b_super : mg "super" = none
  x_ex : ∀ p ∈ exT, PySem.W.exmOne K (.ref (He.ga K p.1.1)) (.ref (He.ga K p.1.2)) = some p.2
  x_ki : ∀ p ∈ kiT, ExcC K (He.ga K p.1.1) ∧ PySem.W.kitOne K (.ref (He.ga K p.1.1)) (.ref (He.ga K p.1.2)) = some p.2
  x_kt : ∀ p ∈ ktT, ExcC K (He.ga K p.1.1) ∧ PySem.W.kitOne K (.ref (He.ga K p.1.1)) (.type p.1.2) = some p.2
  x_oex : ∀ c ∈ oexL, OexS K (He.ga K c)
  x_ini : ∀ c ∈ oexL, PySem.W.findIn K (.ref (He.ga K c)) "__init__" = some (some (.ref (He.ma K (He.ga K c) "__init__"))) ∧ PySem.W.typeIn K (.ref (He.ma K (He.ga K c) "__init__")) = some (.type "function")
def b__law_mix : Ev → RS := (dSeq (dAsg 2 (dOp pMod (dCB pInt (dCons (dOp pAdd (dOp pAdd (dOp pMul (dVar 0) (dC (.int 48271))) (dOp pMul (dVar 1) (dC (.int 69621)))) (dC (.int 11))) dNil)) (dC (.int 2147483647))))
 (dSeq (dAsg 3 (dOp pMod (dCB pInt (dCons (dOp pAdd (dOp pAdd (dOp pMul (dVar 2) (dVar 2)) (dOp pMul (dVar 1) (dC (.int 16807)))) (dC (.int 3))) dNil)) (dC (.int 2147483629))))
 (dRet (dOp pMod (dCB pInt (dCons (dOp pAdd (dOp pAdd (dOp pMul (dVar 3) (dVar 3)) (dOp pMul (dVar 3) (dC (.int 40692)))) (dC (.int 7))) dNil)) (dC (.int 2147483587))))))
def d__law_mix : Ev → RE X := fnM 4 2 b__law_mix
theorem n__law_mix : NoSl d__law_mix := noSl_fn
def b__law_draw : Ev → RS := (dSeq (dIfS (dTest (dOp (pCmp fun i j => decide (i > j)) (dOp pIx (dVar 0) (dC (.int 0))) (dC (.int 0))))
 (dSeq (dAsg 2 (dOp pMod (dCB pInt (dCons (dOp pIx (dVar 0) (dC (.int 0))) dNil)) (dVar 1)))
 (dSeq (dSetI 0 (dOp pDiv (dOp pIx (dVar 0) (dC (.int 0))) (dVar 1)) (dC (.int 0)))
 (dRet (dVar 2))))
 dNext)
 (dSeq (dSetI 0 (dOp pAdd (dOp pIx (dVar 0) (dC (.int 2))) (dC (.int 1))) (dC (.int 2)))
 (dRet (dOp pMod (dCB pInt (dCons (dCall d__law_mix (dCons (dOp pIx (dVar 0) (dC (.int 1))) (dCons (dOp pIx (dVar 0) (dC (.int 2))) dNil))) dNil)) (dVar 1)))))
def d__law_draw : Ev → RE X := fnM 3 2 b__law_draw
theorem n__law_draw : NoSl d__law_draw := noSl_fn
def c__law_word_E1 : Ev → RE X := (dOp pIx (dVar 1) (dCall d__law_draw (dCons (dVar 0) (dCons (dC (.int 26)) dNil))))
def b__law_word : Ev → RS := (dSeq (dAsg 1 (dC (.str "abcdefghijklmnopqrstuvwxyz")))
 (dSeq (dAsg 2 (dFrz (dCall d__law_draw (dCons (dVar 0) (dCons (dC (.int 4)) dNil)))))
 (dSeq (dIfS (dTest (dOp pEq (dVar 2) (dC (.int 0))))
 (dRet (dOp pIx (dVar 1) (dCall d__law_draw (dCons (dVar 0) (dCons (dC (.int 26)) dNil)))))
 dNext)
 (dSeq (dAsg 3 (dFrz (dOp pAdd (dC (.int 1)) (dCall d__law_draw (dCons (dVar 0) (dCons (dC (.int 12)) dNil))))))
 (dSeq (dIfS (dTest (dOp pEq (dVar 2) (dC (.int 1))))
 (dRet (dOp pAdd (dOp pMul (dC (.str "a")) (dOp pSub (dVar 3) (dC (.int 1)))) (dOp pIx (dVar 1) (dCall d__law_draw (dCons (dVar 0) (dCons (dC (.int 26)) dNil))))))
 dNext)
 (dSeq (dIfS (dTest (dOp pEq (dVar 2) (dC (.int 2))))
 (dRet (dOp pAdd (dOp pIx (dVar 1) (dCall d__law_draw (dCons (dVar 0) (dCons (dC (.int 26)) dNil)))) (dOp pMul (dC (.str "z")) (dOp pSub (dVar 3) (dC (.int 1))))))
 dNext)
 (dRet (dM1 pJoin (dC (.str "")) (dLc (diR1 (dCons (dVar 3) dNil)) (dgName 4) (fun env => .ok true env) c__law_word_E1 [4])))))))))
def d__law_word : Ev → RE X := fnM 5 1 b__law_word
theorem n__law_word : NoSl d__law_word := noSl_fn
def c__law_names_T1 : Ev → RE Bool := (dTest (dOp pNotIn (dVar 6) (dVar 3)))
def c__law_names_E1 : Ev → RE X := (dVar 6)
def b__law_names_L1 : Ev → RS := (dSeq (dAsg 5 (dFrz (dCall d__law_word (dCons (dVar 0) dNil))))
 (dSeq (dIfS (dTest (dOp pIn (dVar 5) (dVar 3)))
 (dAsg 5 (dOp pIx (dLc (diSeq (dLst (dCons (dC (.str "a")) (dCons (dC (.str "b")) (dCons (dC (.str "c")) (dCons (dC (.str "d")) (dCons (dC (.str "e")) dNil))))))) (dgName 6) c__law_names_T1 c__law_names_E1 [6]) (dC (.int 0))))
 dNext)
 (dDrop (dMut 3 OD.isL mApp (dCons (dVar 5) dNil)))))
def b__law_names : Ev → RS := (dSeq (dAsg 3 (dLst dNil))
 (dSeq (dFor (diR1 (dCons (dOp pAdd (dVar 1) (dCall d__law_draw (dCons (dVar 0) (dCons (dFrz (dOp pAdd (dOp pSub (dVar 2) (dVar 1)) (dC (.int 1)))) dNil)))) dNil)) (dgName 4)
 b__law_names_L1)
 (dRet (dCB pTuple (dCons (dVar 3) dNil)))))
def d__law_names : Ev → RE X := fnM 7 3 b__law_names
theorem n__law_names : NoSl d__law_names := noSl_fn
def b__law_cell : Ev → RS := (dSeq (dIfS (dTest (dOp (pCmp fun i j => decide (i < j)) (dVar 1) (dCB pLen (dCons (dVar 0) dNil))))
 (dRet (dOp pIx (dVar 0) (dVar 1)))
 dNext)
 (dRet (dC (.int 0))))
def d__law_cell : Ev → RE X := fnM 2 2 b__law_cell
theorem n__law_cell : NoSl d__law_cell := noSl_fn
def b__law_pool : Ev → RS := (dSeq (dAsg 2 (dFrz (dCall d__law_cell (dCons (dVar 0) (dCons (dVar 1) dNil)))))
 (dSeq (dIfS (dTest (dOp (pCmp fun i j => decide (i ≥ j)) (dVar 2) (dOp pPow (dC (.int 10)) (dC (.int 18)))))
 (dRet (dLst (dCons (dOp pSub (dVar 2) (dOp pPow (dC (.int 10)) (dC (.int 18)))) (dCons (dOp pAdd (dOp pMul (dVar 2) (dC (.int 64))) (dVar 1)) (dCons (dC (.int 0)) dNil)))))
 dNext)
 (dRet (dLst (dCons (dC (.int 0)) (dCons (dOp pAdd (dOp pMul (dVar 2) (dC (.int 64))) (dVar 1)) (dCons (dC (.int 0)) dNil)))))))
def d__law_pool : Ev → RE X := fnM 3 2 b__law_pool
theorem n__law_pool : NoSl d__law_pool := noSl_fn
def b__law_choice_L1 : Ev → RS := (dSeq (dAsg 6 (dFrz (dCall d__law_draw (dCons (dVar 0) (dCons (dCB pLen (dCons (dVar 3) dNil)) dNil)))))
 (dDrop (dMut 4 OD.isL mApp (dCons (dMut 3 OD.isL mPopAt (dCons (dVar 6) dNil)) dNil))))
def b__law_choice : Ev → RS := (dSeq (dAsg 3 (dCB pList (dCons (dVar 1) dNil)))
 (dSeq (dAsg 4 (dLst dNil))
 (dSeq (dFor (diR1 (dCons (dVar 2) dNil)) (dgName 5)
 b__law_choice_L1)
 (dRet (dCB pTuple (dCons (dVar 4) dNil))))))
def d__law_choice : Ev → RE X := fnM 7 3 b__law_choice
theorem n__law_choice : NoSl d__law_choice := noSl_fn
def b__law_ballot : Ev → RS := (dRet (dCall d__law_choice (dCons (dVar 0) (dCons (dVar 1) (dCons (dFrz (dCall d__law_draw (dCons (dVar 0) (dCons (dFrz (dOp pAdd (dCB pLen (dCons (dVar 1) dNil)) (dC (.int 1)))) dNil)))) dNil)))))
def d__law_ballot : Ev → RE X := fnM 2 2 b__law_ballot
theorem n__law_ballot : NoSl d__law_ballot := noSl_fn
def b__law_times : Ev → RS := (dSeq (dIfS (dTest (dOp pEq (dVar 1) (dC (.int 0))))
 (dRet (dCall d__law_draw (dCons (dVar 0) (dCons (dC (.int 4)) dNil))))
 dNext)
 (dSeq (dIfS (dTest (dOp pEq (dVar 1) (dC (.int 1))))
 (dRet (dCall d__law_draw (dCons (dVar 0) (dCons (dC (.int 30)) dNil))))
 dNext)
 (dRet (dCall d__law_draw (dCons (dVar 0) (dCons (dFrz (dOp pAdd (dOp pPow (dC (.int 10)) (dC (.int 12))) (dC (.int 1)))) dNil))))))
def d__law_times : Ev → RE X := fnM 2 2 b__law_times
theorem n__law_times : NoSl d__law_times := noSl_fn
def b__law_many_rows_L1 : Ev → RS := (dSeq (dAsg 5 (dFrz (dCall d__law_ballot (dCons (dVar 0) (dCons (dVar 1) dNil)))))
 (dSeq (dIfS (dtAnd (dTest (dOp (pCmp fun i j => decide (i > j)) (dCB pLen (dCons (dVar 3) dNil)) (dC (.int 0)))) (dTest (dOp pEq (dCall d__law_draw (dCons (dVar 0) (dCons (dC (.int 3)) dNil))) (dC (.int 0)))))
 (dAsg 5 (dOp pIx (dOp pIx (dVar 3) (dCall d__law_draw (dCons (dVar 0) (dCons (dCB pLen (dCons (dVar 3) dNil)) dNil)))) (dC (.int 0))))
 dNext)
 (dSeq (dAsg 6 (dFrz (dCall d__law_times (dCons (dVar 0) (dCons (dFrz (dCall d__law_draw (dCons (dVar 0) (dCons (dC (.int 3)) dNil)))) dNil)))))
 (dDrop (dMut 3 OD.isL mApp (dCons (dTup (dCons (dVar 5) (dCons (dVar 6) dNil))) dNil))))))
def b__law_many_rows : Ev → RS := (dSeq (dAsg 2 (dC (.int 7)))
 (dSeq (dIfS (dTest (dOp pEq (dCall d__law_draw (dCons (dVar 0) (dCons (dC (.int 4)) dNil))) (dC (.int 0))))
 (dAsg 2 (dC (.int 31)))
 dNext)
 (dSeq (dAsg 3 (dLst dNil))
 (dSeq (dFor (diR1 (dCons (dCall d__law_draw (dCons (dVar 0) (dCons (dVar 2) dNil))) dNil)) (dgName 4)
 b__law_many_rows_L1)
 (dRet (dVar 3))))))
def d__law_many_rows : Ev → RE X := fnM 7 2 b__law_many_rows
theorem n__law_many_rows : NoSl d__law_many_rows := noSl_fn
def c__law_sum_of_T1 : Ev → RE Bool := (dTest (dOp pEq (dVar 2) (dVar 1)))
def c__law_sum_of_E1 : Ev → RE X := (dVar 3)
def b__law_sum_of : Ev → RS := (dRet (dCB pSum (dCons (dLc (diSeq (dVar 0)) (dgTup 2 (dgCons (dgName 2) (dgCons (dgName 3) dgNil))) c__law_sum_of_T1 c__law_sum_of_E1 [2, 3]) dNil)))
def d__law_sum_of : Ev → RE X := fnM 4 2 b__law_sum_of
theorem n__law_sum_of : NoSl d__law_sum_of := noSl_fn
def b__law_ahead_L1 : Ev → RS := (dIfS (dTest (dOp pNe (dOp pIx (dVar 1) (dVar 3)) (dOp pIx (dVar 2) (dVar 3))))
 (dRet (dOp (pCmp fun i j => decide (i < j)) (dTIx (dVar 0) (dOp pIx (dVar 1) (dVar 3))) (dTIx (dVar 0) (dOp pIx (dVar 2) (dVar 3)))))
 dNext)
def b__law_ahead : Ev → RS := (dSeq (dFor (diR1 (dCons (dCB pMin (dCons (dCB pLen (dCons (dVar 1) dNil)) (dCons (dCB pLen (dCons (dVar 2) dNil)) dNil))) dNil)) (dgName 3)
 b__law_ahead_L1)
 (dRet (dOp (pCmp fun i j => decide (i < j)) (dCB pLen (dCons (dVar 1) dNil)) (dCB pLen (dCons (dVar 2) dNil)))))
def d__law_ahead : Ev → RE X := fnM 4 3 b__law_ahead
theorem n__law_ahead : NoSl d__law_ahead := noSl_fn
def c__law_ordered_T1 : Ev → RE Bool := (dTest (dCall d__law_ahead (dCons (dVar 0) (dCons (dVar 6) (dCons (dVar 3) dNil)))))
def c__law_ordered_E1 : Ev → RE X := (dVar 6)
def b__law_ordered_L1 : Ev → RS := (dIfS (dtAnd (dTest (dOp pNotIn (dVar 3) (dVar 2))) (dTest (dOp (pCmp fun i j => decide (i > j)) (dCall d__law_sum_of (dCons (dVar 1) (dCons (dVar 3) dNil))) (dC (.int 0)))))
 (dSeq (dAsg 5 (dCB pLen (dCons (dLc (diSeq (dVar 2)) (dgName 6) c__law_ordered_T1 c__law_ordered_E1 [6]) dNil)))
 (dDrop (dMut 2 OD.isL mIns (dCons (dVar 5) (dCons (dVar 3) dNil)))))
 dNext)
def c__law_ordered_E2 : Ev → RE X := (dTup (dCons (dVar 3) (dCons (dCall d__law_sum_of (dCons (dVar 1) (dCons (dVar 3) dNil))) dNil)))
def b__law_ordered : Ev → RS := (dSeq (dAsg 2 (dLst dNil))
 (dSeq (dFor (diSeq (dVar 1)) (dgTup 2 (dgCons (dgName 3) (dgCons (dgName 4) dgNil)))
 b__law_ordered_L1)
 (dRet (dLc (diSeq (dVar 2)) (dgName 3) (fun env => .ok true env) c__law_ordered_E2 [3]))))
def d__law_ordered : Ev → RE X := fnM 7 2 b__law_ordered
theorem n__law_ordered : NoSl d__law_ordered := noSl_fn
def c_is_name_E1 : Ev → RE X := (dOp pIn (dVar 1) (dC (.str "abcdefghijklmnopqrstuvwxyz")))
def b_is_name : Ev → RS := (dSeq (dIfS (dtNot (dTest (dChain (fun i j => decide (i ≤ j)) (fun i j => decide (i ≤ j)) (dC (.int 1)) (dCB pLen (dCons (dVar 0) dNil)) (dC (.int 12)))))
 (dRet (dC (.bl false)))
 dNext)
 (dRet (dCB pAll (dCons (dLc (diSeq (dVar 0)) (dgName 1) (fun env => .ok true env) c_is_name_E1 [1]) dNil))))
def d_is_name : Ev → RE X := fnM 2 1 b_is_name
theorem n_is_name : NoSl d_is_name := noSl_fn
def b_checked_names_L1 : Ev → RS := (dSeq (dIfS (dtNot (dTest (dCall d_is_name (dCons (dVar 2) dNil))))
 dNever
 dNext)
 (dIfS (dTest (dOp pIn (dVar 2) (dSl (dVar 0) dNone (dSome (dVar 1)))))
 dNever
 dNext))
def b_checked_names : Ev → RS := (dSeq (dIfS (dtNot (dTest (dChain (fun i j => decide (i ≤ j)) (fun i j => decide (i ≤ j)) (dC (.int 1)) (dCB pLen (dCons (dVar 0) dNil)) (dC (.int 5)))))
 dNever
 dNext)
 (dSeq (dFor (diEnum (dVar 0)) (dgTup 2 (dgCons (dgName 1) (dgCons (dgName 2) dgNil)))
 b_checked_names_L1)
 (dRet (dVar 0))))
def d_checked_names : Ev → RE X := fnM 3 1 b_checked_names
theorem n_checked_names : NoSl d_checked_names := noSl_fn
def b_checked_ballot_L1 : Ev → RS := (dSeq (dIfS (dTest (dOp pNotIn (dVar 3) (dVar 0)))
 dNever
 dNext)
 (dIfS (dTest (dOp pIn (dVar 3) (dSl (dVar 1) dNone (dSome (dVar 2)))))
 dNever
 dNext))
def b_checked_ballot : Ev → RS := (dSeq (dFor (diEnum (dVar 1)) (dgTup 2 (dgCons (dgName 2) (dgCons (dgName 3) dgNil)))
 b_checked_ballot_L1)
 (dRet (dVar 1)))
def d_checked_ballot : Ev → RE X := fnM 4 2 b_checked_ballot
theorem n_checked_ballot : NoSl d_checked_ballot := noSl_fn
def c_sorted_rows_E1 : Ev → RE X := (dTIx (dVar 0) (dVar 7))
def c_sorted_rows_T2 : Ev → RE Bool := (dTest (dOp (pCmp fun i j => decide (i > j)) (dOp pItD (dVar 1) (dVar 5)) (dC (.int 0))))
def c_sorted_rows_E2 : Ev → RE X := (dCB pTuple (dCons (dLc (diSeq (dVar 5)) (dgName 7) (fun env => .ok true env) c_sorted_rows_E1 [7]) dNil))
def c_sorted_rows_E3 : Ev → RE X := (dOp pIx (dVar 0) (dVar 6))
def c_sorted_rows_E4 : Ev → RE X := (dCB pTuple (dCons (dLc (diSeq (dVar 4)) (dgName 6) (fun env => .ok true env) c_sorted_rows_E3 [6]) dNil))
def c_sorted_rows_E5 : Ev → RE X := (dTup (dCons (dVar 5) (dCons (dOp pItD (dVar 1) (dVar 5)) dNil)))
def b_sorted_rows : Ev → RS := (dSeq (dAsg 2 (dFrz (dCB pSorted (dCons (dLc (diKs (dVar 1)) (dgName 5) c_sorted_rows_T2 c_sorted_rows_E2 [5]) dNil))))
 (dSeq (dAsg 3 (dFrz (dLc (diSeq (dVar 2)) (dgName 4) (fun env => .ok true env) c_sorted_rows_E4 [4])))
 (dRet (dCB pTuple (dCons (dLc (diSeq (dVar 3)) (dgName 5) (fun env => .ok true env) c_sorted_rows_E5 [5]) dNil)))))
def d_sorted_rows : Ev → RE X := fnM 8 2 b_sorted_rows
theorem n_sorted_rows : NoSl d_sorted_rows := noSl_fn
def b_Roll___init___L1 : Ev → RS := (dSeq (dDrop (dCall d_checked_ballot (dCons (dFldF fl_names "names" (dVar 0)) (dCons (dVar 5) dNil))))
 (dSeq (dIfS (dtOr (dTest (dOp (pCmp fun i j => decide (i < j)) (dVar 6) (dC (.int 0)))) (dtAnd (dTest (dOp pNotN (dVar 3) (dC .non))) (dTest (dOp (pCmp fun i j => decide (i > j)) (dVar 6) (dVar 3)))))
 dNever
 dNext)
 (dSetD 4 (dOp pAdd (dGetD (dVar 4) (dVar 5) (dC (.int 0))) (dVar 6)) (dVar 5))))
def b_Roll___init__ : Ev → RS := (dSeq (dSetF fl_names 0 "names" (dCall d_checked_names (dCons (dVar 1) dNil)))
 (dSeq (dAsg 4 dNewT)
 (dSeq (dFor (diSeq (dVar 2)) (dgTup 2 (dgCons (dgName 5) (dgCons (dgName 6) dgNil)))
 b_Roll___init___L1)
 (dFz [4] (dSetF fl__rows 0 "_rows" (dCall d_sorted_rows (dCons (dFldF fl_names "names" (dVar 0)) (dCons (dVar 4) dNil))))))))
def d_Roll___init__ : Ev → RE X := fnM 7 4 b_Roll___init__
theorem n_Roll___init__ : NoSl d_Roll___init__ := noSl_fn
def b__law_same_L1 (REC : Ev → RE X) : Ev → RS := (dIfS (dtNot (dTest (dCall REC (dCons (dOp pIx (dVar 0) (dVar 2)) (dCons (dOp pIx (dVar 1) (dVar 2)) dNil)))))
 (dRet (dC (.bl false)))
 dNext)
def b__law_same (REC : Ev → RE X) : Ev → RS := (dSeq (dIfS (dTest (dOp pIsN (dVar 1) (dC .non)))
 (dRet (dOp pIsN (dVar 0) (dC .non)))
 dNext)
 (dSeq (dIfS (dTest (dCB pIsi (dCons (dVar 1) (dCons (dC (.ty "bool")) dNil))))
 (dRet (dAndV (dCB pIsi (dCons (dVar 0) (dCons (dC (.ty "bool")) dNil))) (dOp pEq (dVar 0) (dVar 1))))
 dNext)
 (dSeq (dIfS (dTest (dCB pIsi (dCons (dVar 1) (dCons (dC (.ty "int")) dNil))))
 (dRet (dAndV (dCB pIsi (dCons (dVar 0) (dCons (dC (.ty "int")) dNil))) (dAndV (dNotV (dCB pIsi (dCons (dVar 0) (dCons (dC (.ty "bool")) dNil)))) (dOp pEq (dVar 0) (dVar 1)))))
 dNext)
 (dSeq (dIfS (dTest (dCB pIsi (dCons (dVar 1) (dCons (dC (.ty "str")) dNil))))
 (dRet (dAndV (dCB pIsi (dCons (dVar 0) (dCons (dC (.ty "str")) dNil))) (dOp pEq (dVar 0) (dVar 1))))
 dNext)
 (dSeq (dIfS (dtAnd (dTest (dCB pIsi (dCons (dVar 1) (dCons (dC (.ty "tuple")) dNil)))) (dtNot (dTest (dCB pIsi (dCons (dVar 0) (dCons (dC (.ty "tuple")) dNil))))))
 (dRet (dC (.bl false)))
 dNext)
 (dSeq (dIfS (dtAnd (dTest (dCB pIsi (dCons (dVar 1) (dCons (dC (.ty "list")) dNil)))) (dtNot (dTest (dCB pIsi (dCons (dVar 0) (dCons (dC (.ty "list")) dNil))))))
 (dRet (dC (.bl false)))
 dNext)
 (dSeq (dIfS (dTest (dOp pNe (dCB pLen (dCons (dVar 0) dNil)) (dCB pLen (dCons (dVar 1) dNil))))
 (dRet (dC (.bl false)))
 dNext)
 (dSeq (dFor (diR1 (dCons (dCB pLen (dCons (dVar 1) dNil)) dNil)) (dgName 2)
 (b__law_same_L1 REC))
 (dRet (dC (.bl true)))))))))))
def d__law_same : Nat → Ev → RE X
  | 0 => fun _ => .bad
  | n + 1 => fnM 3 2 (b__law_same (d__law_same n))
theorem n__law_same : ∀ n, NoSl (d__law_same n)
  | 0 => noSl_bad
  | n + 1 => noSl_fn
def b__law_yields : Ev → RS := (dSeq (dIfS (dtOr (dtNot (dTest (dCB (pIsiO (XTab.get oiT) (XTab2.get oiU)) (dCons (dVar 0) (dCons (dC (.cls "Roll")) dNil))))) (dtNot (dTest (dCall (d__law_same 5) (dCons (dFldF fl_names "names" (dVar 0)) (dCons (dVar 1) dNil))))))
 (dRet (dC (.bl false)))
 dNext)
 (dRet (dCall (d__law_same 5) (dCons (dFrz (dCB (pListO ["Roll"] "_rows") (dCons (dVar 0) dNil))) (dCons (dVar 2) dNil)))))
def d__law_yields : Ev → RE X := fnM 3 3 b__law_yields
theorem n__law_yields : NoSl d__law_yields := noSl_fn
def c_law_E1 : Ev → RE X := (dTup (dCons (dVar 9) (dCons (dOp pMul (dC (.int 2)) (dVar 10)) dNil)))
def b_law : Ev → RS := (dSeq (dAsg 1 (dFrz (dCall d__law_names (dCons (dCall d__law_pool (dCons (dVar 0) (dCons (dC (.int 0)) dNil))) (dCons (dC (.int 1)) (dCons (dC (.int 5)) dNil))))))
 (dSeq (dAsg 2 (dFrz (dCall d__law_many_rows (dCons (dCall d__law_pool (dCons (dVar 0) (dCons (dC (.int 1)) dNil))) (dCons (dVar 1) dNil)))))
 (dSeq (dAsg 3 (dFrz (dCall d__law_many_rows (dCons (dCall d__law_pool (dCons (dVar 0) (dCons (dC (.int 2)) dNil))) (dCons (dVar 1) dNil)))))
 (dSeq (dAsg 4 (dFrz (dCall d__law_ordered (dCons (dVar 1) (dCons (dVar 2) dNil)))))
 (dSeq (dAsg 5 (dFrz (dCall d__law_ordered (dCons (dVar 1) (dCons (dVar 3) dNil)))))
 (dSeq (dAsg 6 (dCB pList (dCons (dVar 2) dNil)))
 (dSeq (dAsg 7 (dFrz (dMakeF "Roll" d_Roll___init__ (dArr 2 0 [.a 0, .a 1, .d (.int 1000000000000)] (dCons (dVar 1) (dCons (dVar 6) dNil)) dNil))))
 (dSeq (dAsg 8 (dFrz (dMakeF "Roll" d_Roll___init__ (dArr 2 0 [.a 0, .a 1, .d (.int 1000000000000)] (dCons (dVar 1) (dCons (dCB pTuple (dCons (dVar 3) dNil)) dNil)) dNil))))
 (dSeq (dIfS (dtOr (dtNot (dTest (dCall (d__law_same 5) (dCons (dVar 6) (dCons (dVar 2) dNil))))) (dtNot (dTest (dCall d__law_yields (dCons (dFrz (dMakeF "Roll" d_Roll___init__ (dArr 1 0 [.a 0, .d (.tup []), .d (.int 1000000000000)] (dCons (dVar 1) dNil) dNil))) (dCons (dVar 1) (dCons (dFrz (dLst dNil)) dNil)))))))
 (dRet (dC (.bl false)))
 dNext)
 (dSeq (dIfS (dtOr (dtNot (dTest (dCall d__law_yields (dCons (dVar 7) (dCons (dVar 1) (dCons (dVar 4) dNil)))))) (dtNot (dTest (dCall d__law_yields (dCons (dVar 8) (dCons (dVar 1) (dCons (dVar 5) dNil)))))))
 (dRet (dC (.bl false)))
 dNext)
 (dSeq (dIfS (dtNot (dTest (dCall d__law_yields (dCons (dFrz (dMakeF "Roll" d_Roll___init__ (dArr 1 1 [.a 0, .a 1, .d (.int 1000000000000)] (dCons (dVar 1) dNil) (dCons (dFrz (dUn pRevL (dVar 2))) dNil)))) (dCons (dVar 1) (dCons (dVar 4) dNil))))))
 (dRet (dC (.bl false)))
 dNext)
 (dSeq (dIfS (dtNot (dTest (dCall d__law_yields (dCons (dFrz (dMakeF "Roll" d_Roll___init__ (dArr 2 0 [.a 0, .a 1, .d (.int 1000000000000)] (dCons (dVar 1) (dCons (dFrz (dOp pAdd (dVar 2) (dVar 2))) dNil)) dNil))) (dCons (dVar 1) (dCons (dFrz (dLc (diSeq (dVar 4)) (dgTup 2 (dgCons (dgName 9) (dgCons (dgName 10) dgNil))) (fun env => .ok true env) c_law_E1 [9, 10])) dNil))))))
 (dRet (dC (.bl false)))
 dNext)
 (dSeq (dDrop (dMut 6 OD.isL mApp (dCons (dTup (dCons (dVar 1) (dCons (dC (.int 5)) dNil))) dNil)))
 (dSeq (dSetI 6 (dTup (dCons (dTup dNil) (dCons (dC (.int 7)) dNil))) (dC (.int 0)))
 (dRet (dAndV (dCall d__law_yields (dCons (dVar 7) (dCons (dVar 1) (dCons (dVar 4) dNil)))) (dCall d__law_yields (dCons (dVar 8) (dCons (dVar 1) (dCons (dVar 5) dNil))))))))))))))))))))
def d_law : Ev → RE X := fnM 11 1 b_law
theorem n_law : NoSl d_law := noSl_fn
end Wk

namespace Wk
open PySem PySem.Spec PyProof.Rows L2 NdefX Dn
abbrev N__law_mix : List Str := ["_law_seed", "_law_step", "_law_one", "_law_two"]
theorem S__law_mix : FnScope N__law_mix ["_law_seed", "_law_step"] (defScope s__law_mix) := ⟨rfl, rfl, rfl, by decide +kernel, rfl, by decide +kernel, by decide +kernel⟩
abbrev N__law_draw : List Str := ["_law_pool_here", "_law_size", "_law_got"]
theorem S__law_draw : FnScope N__law_draw ["_law_pool_here", "_law_size"] (defScope s__law_draw) := ⟨rfl, rfl, rfl, by decide +kernel, rfl, by decide +kernel, by decide +kernel⟩
abbrev N__law_word : List Str := ["_law_pool_here", "_law_letters", "_law_shape", "_law_size", "_law_k"]
theorem S__law_word : FnScope N__law_word ["_law_pool_here"] (defScope s__law_word) := ⟨rfl, rfl, rfl, by decide +kernel, rfl, by decide +kernel, by decide +kernel⟩
abbrev N__law_names : List Str := ["_law_pool_here", "_law_least_of", "_law_most_of", "_law_names_here", "_law_k", "_law_word_here", "_law_spare"]
theorem S__law_names : FnScope N__law_names ["_law_pool_here", "_law_least_of", "_law_most_of"] (defScope s__law_names) := ⟨rfl, rfl, rfl, by decide +kernel, rfl, by decide +kernel, by decide +kernel⟩
abbrev N__law_cell : List Str := ["_law_script", "_law_k"]
theorem S__law_cell : FnScope N__law_cell ["_law_script", "_law_k"] (defScope s__law_cell) := ⟨rfl, rfl, rfl, by decide +kernel, rfl, by decide +kernel, by decide +kernel⟩
abbrev N__law_pool : List Str := ["_law_script", "_law_k", "_law_cell_here"]
theorem S__law_pool : FnScope N__law_pool ["_law_script", "_law_k"] (defScope s__law_pool) := ⟨rfl, rfl, rfl, by decide +kernel, rfl, by decide +kernel, by decide +kernel⟩
abbrev N__law_choice : List Str := ["_law_pool_here", "_law_names_here", "_law_size", "_law_left", "_law_chosen", "_law_k", "_law_at"]
theorem S__law_choice : FnScope N__law_choice ["_law_pool_here", "_law_names_here", "_law_size"] (defScope s__law_choice) := ⟨rfl, rfl, rfl, by decide +kernel, rfl, by decide +kernel, by decide +kernel⟩
abbrev N__law_ballot : List Str := ["_law_pool_here", "_law_names_here"]
theorem S__law_ballot : FnScope N__law_ballot ["_law_pool_here", "_law_names_here"] (defScope s__law_ballot) := ⟨rfl, rfl, rfl, by decide +kernel, rfl, by decide +kernel, by decide +kernel⟩
abbrev N__law_times : List Str := ["_law_pool_here", "_law_shape"]
theorem S__law_times : FnScope N__law_times ["_law_pool_here", "_law_shape"] (defScope s__law_times) := ⟨rfl, rfl, rfl, by decide +kernel, rfl, by decide +kernel, by decide +kernel⟩
abbrev N__law_many_rows : List Str := ["_law_pool_here", "_law_names_here", "_law_size", "_law_rows", "_law_k", "_law_ballot_here", "_law_times_here"]
theorem S__law_many_rows : FnScope N__law_many_rows ["_law_pool_here", "_law_names_here"] (defScope s__law_many_rows) := ⟨rfl, rfl, rfl, by decide +kernel, rfl, by decide +kernel, by decide +kernel⟩
abbrev N__law_sum_of : List Str := ["_law_rows", "_law_ballot_here", "_law_own", "_law_times_here"]
theorem S__law_sum_of : FnScope N__law_sum_of ["_law_rows", "_law_ballot_here"] (defScope s__law_sum_of) := ⟨rfl, rfl, rfl, by decide +kernel, rfl, by decide +kernel, by decide +kernel⟩
abbrev N__law_ahead : List Str := ["_law_names_here", "_law_one", "_law_two", "_law_k"]
theorem S__law_ahead : FnScope N__law_ahead ["_law_names_here", "_law_one", "_law_two"] (defScope s__law_ahead) := ⟨rfl, rfl, rfl, by decide +kernel, rfl, by decide +kernel, by decide +kernel⟩
abbrev N__law_ordered : List Str := ["_law_names_here", "_law_rows", "_law_ballots", "_law_ballot_here", "_law_times_here", "_law_at", "_law_own"]
theorem S__law_ordered : FnScope N__law_ordered ["_law_names_here", "_law_rows"] (defScope s__law_ordered) := ⟨rfl, rfl, rfl, by decide +kernel, rfl, by decide +kernel, by decide +kernel⟩
abbrev N_is_name : List Str := ["word", "letter"]
theorem S_is_name : FnScope N_is_name ["word"] (defScope s_is_name) := ⟨rfl, rfl, rfl, by decide +kernel, rfl, by decide +kernel, by decide +kernel⟩
abbrev N_checked_names : List Str := ["names", "at", "name"]
theorem S_checked_names : FnScope N_checked_names ["names"] (defScope s_checked_names) := ⟨rfl, rfl, rfl, by decide +kernel, rfl, by decide +kernel, by decide +kernel⟩
abbrev N_checked_ballot : List Str := ["names", "ballot", "at", "name"]
theorem S_checked_ballot : FnScope N_checked_ballot ["names", "ballot"] (defScope s_checked_ballot) := ⟨rfl, rfl, rfl, by decide +kernel, rfl, by decide +kernel, by decide +kernel⟩
abbrev N_sorted_rows : List Str := ["names", "counts", "keys", "ballots", "key", "ballot", "place", "name"]
theorem S_sorted_rows : FnScope N_sorted_rows ["names", "counts"] (defScope s_sorted_rows) := ⟨rfl, rfl, rfl, by decide +kernel, rfl, by decide +kernel, by decide +kernel⟩
abbrev N_Roll___init__ : List Str := ["self", "names", "rows", "largest", "counts", "ballot", "many"]
theorem S_Roll___init__ : FnScope N_Roll___init__ ["self", "names", "rows", "largest"] (defScope s_Roll___init__) := ⟨rfl, rfl, rfl, by decide +kernel, rfl, by decide +kernel, by decide +kernel⟩
abbrev N__law_same : List Str := ["_law_got", "_law_wanted", "_law_k"]
theorem S__law_same : FnScope N__law_same ["_law_got", "_law_wanted"] (defScope s__law_same) := ⟨rfl, rfl, rfl, by decide +kernel, rfl, by decide +kernel, by decide +kernel⟩
abbrev N__law_yields : List Str := ["_law_roll", "_law_names_here", "_law_wanted"]
theorem S__law_yields : FnScope N__law_yields ["_law_roll", "_law_names_here", "_law_wanted"] (defScope s__law_yields) := ⟨rfl, rfl, rfl, by decide +kernel, rfl, by decide +kernel, by decide +kernel⟩
abbrev N_law : List Str := ["_law_script", "_law_names_here", "_law_rows", "_law_others", "_law_wanted", "_law_second", "_law_handed", "_law_roll", "_law_other", "_law_ballot_here", "_law_times_here"]
theorem S_law : FnScope N_law ["_law_script"] (defScope s_law) := ⟨rfl, rfl, rfl, by decide +kernel, rfl, by decide +kernel, by decide +kernel⟩
section
variable {P : Program} {w : World} {K : Fg} [WD K] {mg : Str → Option Value} {base : Heap}
theorem S_Roll___iter__ : FnScope ["self"] ["self"] (defScope s_Roll___iter__) := ⟨rfl, rfl, rfl, by decide +kernel, rfl, by decide +kernel, by decide +kernel⟩
theorem S_Roll___len__ : FnScope ["self"] ["self"] (defScope s_Roll___len__) := ⟨rfl, rfl, rfl, by decide +kernel, rfl, by decide +kernel, by decide +kernel⟩
theorem oI_Roll (T : TX P w K mg) : ∀ c ∈ (["Roll"] : List Str), OwnI P w K mg base 2 c "_rows" := fun c hc => by
  have e : c = "Roll" := by simpa using hc
  subst e
  obtain ⟨fd, F⟩ := T.F_Roll___iter__
  exact ⟨⟨T.cl_Roll, _, _, s_Roll___iter__, fd, T.fi_Roll_iter, T.ff_Roll_iter, F, S_Roll___iter__, (fun _ _ _ _ _ _ us hl => match us, hl with | [_], _ => rfl), fun cdv A outer s H E hr => pss_one (ps_ret (pe_callB cr_iterT (by rfl) T.b_iter (by decide +kernel) (pa_cons (pe_fldF (K := K) ⟨rfl, rfl, rfl, rfl, rfl⟩ (pv 0)) pa_nil)))⟩, (T.fd__rows "Roll" (by simp)).2⟩
theorem oL_Roll (T : TX P w K mg) : ∀ c ∈ (["Roll"] : List Str), OwnL P w K mg base 2 c "_rows" := fun c hc => by
  have e : c = "Roll" := by simpa using hc
  subst e
  obtain ⟨fd, F⟩ := T.F_Roll___len__
  exact ⟨⟨T.cl_Roll, _, _, s_Roll___len__, fd, T.fi_Roll_len, T.ff_Roll_len, F, S_Roll___len__, (fun _ _ _ _ _ _ us hl => match us, hl with | [_], _ => rfl), fun cdv A outer s H E hr => pss_one (ps_ret (pe_callB call_lenU (by rfl) T.b_len boot_len (pa_cons (pe_fldF (K := K) ⟨rfl, rfl, rfl, rfl, rfl⟩ (pv 0)) pa_nil)))⟩, (T.fd__rows "Roll" (by simp)).2⟩
theorem ok__law_mix (T : TX P w K mg) : CallF CX0 P w K mg base 1 "_law_mix" ["_law_seed", "_law_step"] d__law_mix :=
  mk_callF (k := 0) (ds := b__law_mix) T.F__law_mix T.g__law_mix S__law_mix rfl rfl (fun _ _ _ _ _ _ us hl => match us, hl with | [_, _], _ => rfl) fun cdv A outer s H E hr => ⟨_,
 (pss_cons (ps_set (i := 2) S__law_mix.nd rfl (by first | exact Or.inl rfl | exact Or.inr rfl) (pe_op op_mod (pe_callTy call_int1 (by rfl) T.b_int boot_int (pa_cons (pe_op op_addU (pe_op op_addU (pe_op op_mulU (pv 0) pe_int) (pe_op op_mulU (pv 1) pe_int)) pe_int) pa_nil)) pe_int))
 (pss_cons (ps_set (i := 3) S__law_mix.nd rfl (by first | exact Or.inl rfl | exact Or.inr rfl) (pe_op op_mod (pe_callTy call_int1 (by rfl) T.b_int boot_int (pa_cons (pe_op op_addU (pe_op op_addU (pe_op op_mulU (pv 2) (pv 2)) (pe_op op_mulU (pv 1) pe_int)) pe_int) pa_nil)) pe_int))
 (pss_one (ps_ret (pe_op op_mod (pe_callTy call_int1 (by rfl) T.b_int boot_int (pa_cons (pe_op op_addU (pe_op op_addU (pe_op op_mulU (pv 3) (pv 3)) (pe_op op_mulU (pv 3) pe_int)) pe_int) pa_nil)) pe_int))))),
 (ds_seq (ds_asg (de_op ok_mod (de_cb ok_int (da_cons (de_op ok_add (de_op ok_add (de_op ok_mul (de_var 0) (de_int 48271)) (de_op ok_mul (de_var 1) (de_int 69621))) (de_int 11)) da_nil)) (de_int 2147483647)))
 (ds_seq (ds_asg (de_op ok_mod (de_cb ok_int (da_cons (de_op ok_add (de_op ok_add (de_op ok_mul (de_var 2) (de_var 2)) (de_op ok_mul (de_var 1) (de_int 16807))) (de_int 3)) da_nil)) (de_int 2147483629)))
 (ds_ret (de_op ok_mod (de_cb ok_int (da_cons (de_op ok_add (de_op ok_add (de_op ok_mul (de_var 3) (de_var 3)) (de_op ok_mul (de_var 3) (de_int 40692))) (de_int 7)) da_nil)) (de_int 2147483587)))))⟩
theorem ok__law_draw (T : TX P w K mg) : CallF CX0 P w K mg base 2 "_law_draw" ["_law_pool_here", "_law_size"] d__law_draw :=
  mk_callF (k := 1) (ds := b__law_draw) T.F__law_draw T.g__law_draw S__law_draw rfl rfl (fun _ _ _ _ _ _ us hl => match us, hl with | [_, _], _ => rfl) fun cdv A outer s H E hr => ⟨_,
 (pss_cons (ps_if (pt_cmpR op_gt (pe_ix ix_seq (pv 0) pe_int (fun _ _ => rfl)) pe_int (nomark _))
 (pss_cons (ps_set (i := 2) S__law_draw.nd rfl (by first | exact Or.inl rfl | exact Or.inr rfl) (pe_op op_mod (pe_callTy call_int1 (by rfl) T.b_int boot_int (pa_cons (pe_ix ix_seq (pv 0) pe_int (fun _ _ => rfl)) pa_nil)) (pv 1)))
 (pss_cons (ps_asg (pe_op op_divG (pe_ix ix_seq (pv 0) pe_int (fun _ _ => rfl)) (pv 1)) (pg_sub (pv 0) pe_int set_list))
 (pss_one (ps_ret (pv 2)))))
 pss_nil)
 (pss_cons (ps_asg (pe_op op_addU (pe_ix ix_seq (pv 0) pe_int (fun _ _ => rfl)) pe_int) (pg_sub (pv 0) pe_int set_list))
 (pss_one (ps_ret (pe_op op_mod (pe_callTy call_int1 (by rfl) T.b_int boot_int (pa_cons (pe_callF (k := 1) (E := E) (ok__law_mix (K := K) T) (hr.mono (by decide)) passN (by rfl) (pa_cons (pe_ix ix_seq (pv 0) pe_int (fun _ _ => rfl)) (pa_cons (pe_ix ix_seq (pv 0) pe_int (fun _ _ => rfl)) pa_nil))) pa_nil)) (pv 1)))))),
 (ds_seq (ds_if (dt_test (de_op (ok_cmp fun i j => decide (i > j)) (de_op ok_ix (de_var 0) (de_int 0)) (de_int 0)))
 (ds_seq (ds_asg (de_op ok_mod (de_cb ok_int (da_cons (de_op ok_ix (de_var 0) (de_int 0)) da_nil)) (de_var 1)))
 (ds_seq (ds_setI (de_op ok_div (de_op ok_ix (de_var 0) (de_int 0)) (de_var 1)) (de_int 0))
 (ds_ret (de_var 2))))
 ds_next)
 (ds_seq (ds_setI (de_op ok_add (de_op ok_ix (de_var 0) (de_int 2)) (de_int 1)) (de_int 2))
 (ds_ret (de_op ok_mod (de_cb ok_int (da_cons (de_call (E := E) n__law_mix (da_cons (de_op ok_ix (de_var 0) (de_int 1)) (da_cons (de_op ok_ix (de_var 0) (de_int 2)) da_nil))) da_nil)) (de_var 1)))))⟩
theorem ok__law_word (T : TX P w K mg) : CallF CX0 P w K mg base 3 "_law_word" ["_law_pool_here"] d__law_word :=
  mk_callF (k := 2) (ds := b__law_word) T.F__law_word T.g__law_word S__law_word rfl rfl (fun _ _ _ _ _ _ us hl => match us, hl with | [_], _ => rfl) fun cdv A outer s H E hr => ⟨_,
 (pss_cons (ps_set (i := 1) S__law_word.nd rfl (by first | exact Or.inl rfl | exact Or.inr rfl) pe_str)
 (pss_cons (ps_set (i := 2) S__law_word.nd rfl (by first | exact Or.inl rfl | exact Or.inr rfl) (pe_callF (k := 2) (E := E) (ok__law_draw (K := K) T) (hr.mono (by decide)) passN (by rfl) (pa_cons (pv 0) (pa_cons pe_int pa_nil))))
 (pss_cons (ps_if (pt_cmpR (op_eqU (room64 hr)) (pv 2) pe_int (nomark _))
 (pss_one (ps_ret (pe_ix ix_seq (pv 1) (pe_callF (k := 2) (E := E) (ok__law_draw (K := K) T) (hr.mono (by decide)) passN (by rfl) (pa_cons (pv 0) (pa_cons pe_int pa_nil))) (fun _ _ => rfl))))
 pss_nil)
 (pss_cons (ps_set (i := 3) S__law_word.nd rfl (by first | exact Or.inl rfl | exact Or.inr rfl) (pe_op op_addU pe_int (pe_callF (k := 2) (E := E) (ok__law_draw (K := K) T) (hr.mono (by decide)) passN (by rfl) (pa_cons (pv 0) (pa_cons pe_int pa_nil)))))
 (pss_cons (ps_if (pt_cmpR (op_eqU (room64 hr)) (pv 2) pe_int (nomark _))
 (pss_one (ps_ret (pe_op op_addU (pe_op op_mulU pe_str (pe_op op_sub (pv 3) pe_int)) (pe_ix ix_seq (pv 1) (pe_callF (k := 2) (E := E) (ok__law_draw (K := K) T) (hr.mono (by decide)) passN (by rfl) (pa_cons (pv 0) (pa_cons pe_int pa_nil))) (fun _ _ => rfl)))))
 pss_nil)
 (pss_cons (ps_if (pt_cmpR (op_eqU (room64 hr)) (pv 2) pe_int (nomark _))
 (pss_one (ps_ret (pe_op op_addU (pe_ix ix_seq (pv 1) (pe_callF (k := 2) (E := E) (ok__law_draw (K := K) T) (hr.mono (by decide)) passN (by rfl) (pa_cons (pv 0) (pa_cons pe_int pa_nil))) (fun _ _ => rfl)) (pe_op op_mulU pe_str (pe_op op_sub (pv 3) pe_int)))))
 pss_nil)
 (pss_one (ps_ret (pe_join pe_str (pe_lc (own := [("_law_k", 4)]) (g := _) (tt := tYes) (by rfl) S__law_word.nd (pi_range1 (by rfl) T.b_range (pa_cons (pv 3) pa_nil)) (blkOk_by (N := N__law_word) (sc := defScope s__law_word) (by decide +kernel)) (fun _ _ _ _ _ => (pg_name (i := 4) S__law_word.nd rfl (by first | exact Or.inl rfl | exact Or.inr rfl))) (fun _ _ _ _ _ => pts_nil) (fun _ _ _ _ _ => (pe_ix ix_seq (pv 1) (pe_callF (k := 2) (E := E0) (ok__law_draw (K := K) T) (hr.mono (by decide)) passN (by rfl) (pa_cons (pv 0) (pa_cons pe_int pa_nil))) (fun _ _ => rfl))))))))))))),
 (ds_seq (ds_asg (de_str "abcdefghijklmnopqrstuvwxyz"))
 (ds_seq (ds_asg (de_frz (de_call (E := E) n__law_draw (da_cons (de_var 0) (da_cons (de_int 4) da_nil)))))
 (ds_seq (ds_if (dt_test (de_op ok_eq (de_var 2) (de_int 0)))
 (ds_ret (de_op ok_ix (de_var 1) (de_call (E := E) n__law_draw (da_cons (de_var 0) (da_cons (de_int 26) da_nil)))))
 ds_next)
 (ds_seq (ds_asg (de_frz (de_op ok_add (de_int 1) (de_call (E := E) n__law_draw (da_cons (de_var 0) (da_cons (de_int 12) da_nil))))))
 (ds_seq (ds_if (dt_test (de_op ok_eq (de_var 2) (de_int 1)))
 (ds_ret (de_op ok_add (de_op ok_mul (de_str "a") (de_op ok_sub (de_var 3) (de_int 1))) (de_op ok_ix (de_var 1) (de_call (E := E) n__law_draw (da_cons (de_var 0) (da_cons (de_int 26) da_nil))))))
 ds_next)
 (ds_seq (ds_if (dt_test (de_op ok_eq (de_var 2) (de_int 2)))
 (ds_ret (de_op ok_add (de_op ok_ix (de_var 1) (de_call (E := E) n__law_draw (da_cons (de_var 0) (da_cons (de_int 26) da_nil)))) (de_op ok_mul (de_str "z") (de_op ok_sub (de_var 3) (de_int 1)))))
 ds_next)
 (ds_ret (de_m1 ok_join (de_str "") (de_lc (di_r1 (da_cons (de_var 3) da_nil)) (dgv_name (i := 4) (by simp)) dt_yes (de_op ok_ix (de_var 1) (de_call (E := E0) n__law_draw (da_cons (de_var 0) (da_cons (de_int 26) da_nil)))))))))))))⟩
theorem ok__law_names (T : TX P w K mg) : CallF CX0 P w K mg base 4 "_law_names" ["_law_pool_here", "_law_least_of", "_law_most_of"] d__law_names :=
  mk_callF (k := 3) (ds := b__law_names) T.F__law_names T.g__law_names S__law_names rfl rfl (fun _ _ _ _ _ _ us hl => match us, hl with | [_, _, _], _ => rfl) fun cdv A outer s H E hr => ⟨_,
 (pss_cons (ps_set (i := 3) S__law_names.nd rfl (by first | exact Or.inl rfl | exact Or.inr rfl) (pe_lst pa_nil))
 (pss_cons (ps_for PassesOwn.never rfl (pi_range1 (by rfl) T.b_range (pa_cons (pe_op op_addU (pv 1) (pe_callF (k := 2) (E := E) (ok__law_draw (K := K) T) (hr.mono (by decide)) passN (by rfl) (pa_cons (pv 0) (pa_cons (pe_op op_addU (pe_op op_sub (pv 2) (pv 1)) pe_int) pa_nil)))) pa_nil)) (pg_name (i := 4) S__law_names.nd rfl (by first | exact Or.inl rfl | exact Or.inr rfl))
 (pss_cons (ps_set (i := 5) S__law_names.nd rfl (by first | exact Or.inl rfl | exact Or.inr rfl) (pe_callF (k := 3) (E := E) (ok__law_word (K := K) T) (hr.mono (by decide)) passN (by rfl) (pa_cons (pv 0) pa_nil)))
 (pss_cons (ps_if (pt_cmpR (op_inU (room65 hr)) (pv 5) (pv 3) rfl)
 (pss_one (ps_set (i := 5) S__law_names.nd rfl (by first | exact Or.inl rfl | exact Or.inr rfl) (pe_ix ix_seq (pe_lc (own := [("_law_spare", 6)]) (g := _) (tt := _) (by rfl) S__law_names.nd (pi_seq (pe_lst (pa_cons pe_str (pa_cons pe_str (pa_cons pe_str (pa_cons pe_str (pa_cons pe_str pa_nil))))))) (blkOk_by (N := N__law_names) (sc := defScope s__law_names) (by decide +kernel)) (fun _ _ _ _ _ => (pg_name (i := 6) S__law_names.nd rfl (by first | exact Or.inl rfl | exact Or.inr rfl))) (fun _ _ _ _ _ => (pts_one (pt_cmpR (op_notInU (room65 hr)) (pv 6) (pv 3) rfl))) (fun _ _ _ _ _ => (pv 6))) pe_int (fun _ _ => rfl))))
 pss_nil)
 (pss_one (ps_expr (pe_bm PySem.F.plainAttrs_list PySem.F.slot_list_append PySem.F.type_list_append mt_append (pv 3) (pa_cons (pv 5) pa_nil)))))))
 (pss_one (ps_ret (pe_callTy call_tupleU (by rfl) T.b_tuple boot_tuple (pa_cons (pv 3) pa_nil)))))),
 (ds_seq (ds_asg (de_lst da_nil))
 (ds_seq (ds_for (di_r1 (da_cons (de_op ok_add (de_var 1) (de_call (E := E) n__law_draw (da_cons (de_var 0) (da_cons (de_frz (de_op ok_add (de_op ok_sub (de_var 2) (de_var 1)) (de_int 1))) da_nil)))) da_nil)) (dg_name 4)
 (ds_seq (ds_asg (de_frz (de_call (E := E) n__law_word (da_cons (de_var 0) da_nil))))
 (ds_seq (ds_if (dt_test (de_op ok_in (de_var 5) (de_var 3)))
 (ds_asg (de_op ok_ix (de_lc (di_seq (de_lst (da_cons (de_str "a") (da_cons (de_str "b") (da_cons (de_str "c") (da_cons (de_str "d") (da_cons (de_str "e") da_nil))))))) (dgv_name (i := 6) (by simp)) (dt_test (de_op ok_notIn (de_var 6) (de_var 3))) (de_var 6)) (de_int 0)))
 ds_next)
 (ds_drop (de_mut tyOk_lst ok_app (da_cons (de_var 5) da_nil))))))
 (ds_ret (de_cb ok_tuple (da_cons (de_var 3) da_nil)))))⟩
theorem ok__law_cell (T : TX P w K mg) : CallF CX0 P w K mg base 1 "_law_cell" ["_law_script", "_law_k"] d__law_cell :=
  mk_callF (k := 0) (ds := b__law_cell) T.F__law_cell T.g__law_cell S__law_cell rfl rfl (fun _ _ _ _ _ _ us hl => match us, hl with | [_, _], _ => rfl) fun cdv A outer s H E hr => ⟨_,
 (pss_cons (ps_if (pt_cmpR op_lt (pv 1) (pe_callB call_lenU (by rfl) T.b_len boot_len (pa_cons (pv 0) pa_nil)) (nomark _))
 (pss_one (ps_ret (pe_ix ix_seq (pv 0) (pv 1) (fun _ _ => rfl))))
 pss_nil)
 (pss_one (ps_ret pe_int))),
 (ds_seq (ds_if (dt_test (de_op (ok_cmp fun i j => decide (i < j)) (de_var 1) (de_cb ok_len (da_cons (de_var 0) da_nil))))
 (ds_ret (de_op ok_ix (de_var 0) (de_var 1)))
 ds_next)
 (ds_ret (de_int 0)))⟩
theorem ok__law_pool (T : TX P w K mg) : CallF CX0 P w K mg base 2 "_law_pool" ["_law_script", "_law_k"] d__law_pool :=
  mk_callF (k := 1) (ds := b__law_pool) T.F__law_pool T.g__law_pool S__law_pool rfl rfl (fun _ _ _ _ _ _ us hl => match us, hl with | [_, _], _ => rfl) fun cdv A outer s H E hr => ⟨_,
 (pss_cons (ps_set (i := 2) S__law_pool.nd rfl (by first | exact Or.inl rfl | exact Or.inr rfl) (pe_callF (k := 1) (E := E) (ok__law_cell (K := K) T) (hr.mono (by decide)) passN (by rfl) (pa_cons (pv 0) (pa_cons (pv 1) pa_nil))))
 (pss_cons (ps_if (pt_cmpR op_ge (pv 2) (pe_op op_pow pe_int pe_int) (nomark _))
 (pss_one (ps_ret (pe_lst (pa_cons (pe_op op_sub (pv 2) (pe_op op_pow pe_int pe_int)) (pa_cons (pe_op op_addU (pe_op op_mulU (pv 2) pe_int) (pv 1)) (pa_cons pe_int pa_nil))))))
 pss_nil)
 (pss_one (ps_ret (pe_lst (pa_cons pe_int (pa_cons (pe_op op_addU (pe_op op_mulU (pv 2) pe_int) (pv 1)) (pa_cons pe_int pa_nil)))))))),
 (ds_seq (ds_asg (de_frz (de_call (E := E) n__law_cell (da_cons (de_var 0) (da_cons (de_var 1) da_nil)))))
 (ds_seq (ds_if (dt_test (de_op (ok_cmp fun i j => decide (i ≥ j)) (de_var 2) (de_op ok_pow (de_int 10) (de_int 18))))
 (ds_ret (de_lst (da_cons (de_op ok_sub (de_var 2) (de_op ok_pow (de_int 10) (de_int 18))) (da_cons (de_op ok_add (de_op ok_mul (de_var 2) (de_int 64)) (de_var 1)) (da_cons (de_int 0) da_nil)))))
 ds_next)
 (ds_ret (de_lst (da_cons (de_int 0) (da_cons (de_op ok_add (de_op ok_mul (de_var 2) (de_int 64)) (de_var 1)) (da_cons (de_int 0) da_nil)))))))⟩
theorem ok__law_choice (T : TX P w K mg) : CallF CX0 P w K mg base 3 "_law_choice" ["_law_pool_here", "_law_names_here", "_law_size"] d__law_choice :=
  mk_callF (k := 2) (ds := b__law_choice) T.F__law_choice T.g__law_choice S__law_choice rfl rfl (fun _ _ _ _ _ _ us hl => match us, hl with | [_, _, _], _ => rfl) fun cdv A outer s H E hr => ⟨_,
 (pss_cons (ps_set (i := 3) S__law_choice.nd rfl (by first | exact Or.inl rfl | exact Or.inr rfl) (pe_callTy (call_listU rfl) (by rfl) T.b_list boot_list (pa_cons (pv 1) pa_nil)))
 (pss_cons (ps_set (i := 4) S__law_choice.nd rfl (by first | exact Or.inl rfl | exact Or.inr rfl) (pe_lst pa_nil))
 (pss_cons (ps_for PassesOwn.never rfl (pi_range1 (by rfl) T.b_range (pa_cons (pv 2) pa_nil)) (pg_name (i := 5) S__law_choice.nd rfl (by first | exact Or.inl rfl | exact Or.inr rfl))
 (pss_cons (ps_set (i := 6) S__law_choice.nd rfl (by first | exact Or.inl rfl | exact Or.inr rfl) (pe_callF (k := 2) (E := E) (ok__law_draw (K := K) T) (hr.mono (by decide)) passN (by rfl) (pa_cons (pv 0) (pa_cons (pe_callB call_lenU (by rfl) T.b_len boot_len (pa_cons (pv 3) pa_nil)) pa_nil))))
 (pss_one (ps_expr (pe_bm PySem.F.plainAttrs_list PySem.F.slot_list_append PySem.F.type_list_append mt_append (pv 4) (pa_cons (pe_bm PySem.F.plainAttrs_list PySem.F.slot_list_pop PySem.F.type_list_pop mt_popAt (pv 3) (pa_cons (pv 6) pa_nil)) pa_nil))))))
 (pss_one (ps_ret (pe_callTy call_tupleU (by rfl) T.b_tuple boot_tuple (pa_cons (pv 4) pa_nil))))))),
 (ds_seq (ds_asg (de_cb ok_list (da_cons (de_var 1) da_nil)))
 (ds_seq (ds_asg (de_lst da_nil))
 (ds_seq (ds_for (di_r1 (da_cons (de_var 2) da_nil)) (dg_name 5)
 (ds_seq (ds_asg (de_frz (de_call (E := E) n__law_draw (da_cons (de_var 0) (da_cons (de_cb ok_len (da_cons (de_var 3) da_nil)) da_nil)))))
 (ds_drop (de_mut tyOk_lst ok_app (da_cons (de_mut tyOk_lst ok_popAt (da_cons (de_var 6) da_nil)) da_nil)))))
 (ds_ret (de_cb ok_tuple (da_cons (de_var 4) da_nil))))))⟩
theorem ok__law_ballot (T : TX P w K mg) : CallF CX0 P w K mg base 4 "_law_ballot" ["_law_pool_here", "_law_names_here"] d__law_ballot :=
  mk_callF (k := 3) (ds := b__law_ballot) T.F__law_ballot T.g__law_ballot S__law_ballot rfl rfl (fun _ _ _ _ _ _ us hl => match us, hl with | [_, _], _ => rfl) fun cdv A outer s H E hr => ⟨_,
 (pss_one (ps_ret (pe_callF (k := 3) (E := E) (ok__law_choice (K := K) T) (hr.mono (by decide)) passN (by rfl) (pa_cons (pv 0) (pa_cons (pv 1) (pa_cons (pe_callF (k := 2) (E := E) (ok__law_draw (K := K) T) (hr.mono (by decide)) passN (by rfl) (pa_cons (pv 0) (pa_cons (pe_op op_addU (pe_callB call_lenU (by rfl) T.b_len boot_len (pa_cons (pv 1) pa_nil)) pe_int) pa_nil))) pa_nil)))))),
 (ds_ret (de_call (E := E) n__law_choice (da_cons (de_var 0) (da_cons (de_var 1) (da_cons (de_frz (de_call (E := E) n__law_draw (da_cons (de_var 0) (da_cons (de_frz (de_op ok_add (de_cb ok_len (da_cons (de_var 1) da_nil)) (de_int 1))) da_nil)))) da_nil)))))⟩
theorem ok__law_times (T : TX P w K mg) : CallF CX0 P w K mg base 3 "_law_times" ["_law_pool_here", "_law_shape"] d__law_times :=
  mk_callF (k := 2) (ds := b__law_times) T.F__law_times T.g__law_times S__law_times rfl rfl (fun _ _ _ _ _ _ us hl => match us, hl with | [_, _], _ => rfl) fun cdv A outer s H E hr => ⟨_,
 (pss_cons (ps_if (pt_cmpR (op_eqU (room64 hr)) (pv 1) pe_int (nomark _))
 (pss_one (ps_ret (pe_callF (k := 2) (E := E) (ok__law_draw (K := K) T) (hr.mono (by decide)) passN (by rfl) (pa_cons (pv 0) (pa_cons pe_int pa_nil)))))
 pss_nil)
 (pss_cons (ps_if (pt_cmpR (op_eqU (room64 hr)) (pv 1) pe_int (nomark _))
 (pss_one (ps_ret (pe_callF (k := 2) (E := E) (ok__law_draw (K := K) T) (hr.mono (by decide)) passN (by rfl) (pa_cons (pv 0) (pa_cons pe_int pa_nil)))))
 pss_nil)
 (pss_one (ps_ret (pe_callF (k := 2) (E := E) (ok__law_draw (K := K) T) (hr.mono (by decide)) passN (by rfl) (pa_cons (pv 0) (pa_cons (pe_op op_addU (pe_op op_pow pe_int pe_int) pe_int) pa_nil))))))),
 (ds_seq (ds_if (dt_test (de_op ok_eq (de_var 1) (de_int 0)))
 (ds_ret (de_call (E := E) n__law_draw (da_cons (de_var 0) (da_cons (de_int 4) da_nil))))
 ds_next)
 (ds_seq (ds_if (dt_test (de_op ok_eq (de_var 1) (de_int 1)))
 (ds_ret (de_call (E := E) n__law_draw (da_cons (de_var 0) (da_cons (de_int 30) da_nil))))
 ds_next)
 (ds_ret (de_call (E := E) n__law_draw (da_cons (de_var 0) (da_cons (de_frz (de_op ok_add (de_op ok_pow (de_int 10) (de_int 12)) (de_int 1))) da_nil))))))⟩
theorem ok__law_many_rows (T : TX P w K mg) : CallF CX0 P w K mg base 5 "_law_many_rows" ["_law_pool_here", "_law_names_here"] d__law_many_rows :=
  mk_callF (k := 4) (ds := b__law_many_rows) T.F__law_many_rows T.g__law_many_rows S__law_many_rows rfl rfl (fun _ _ _ _ _ _ us hl => match us, hl with | [_, _], _ => rfl) fun cdv A outer s H E hr => ⟨_,
 (pss_cons (ps_set (i := 2) S__law_many_rows.nd rfl (by first | exact Or.inl rfl | exact Or.inr rfl) pe_int)
 (pss_cons (ps_if (pt_cmpR (op_eqU (room64 hr)) (pe_callF (k := 2) (E := E) (ok__law_draw (K := K) T) (hr.mono (by decide)) passN (by rfl) (pa_cons (pv 0) (pa_cons pe_int pa_nil))) pe_int (nomark _))
 (pss_one (ps_set (i := 2) S__law_many_rows.nd rfl (by first | exact Or.inl rfl | exact Or.inr rfl) pe_int))
 pss_nil)
 (pss_cons (ps_set (i := 3) S__law_many_rows.nd rfl (by first | exact Or.inl rfl | exact Or.inr rfl) (pe_lst pa_nil))
 (pss_cons (ps_for PassesOwn.never rfl (pi_range1 (by rfl) T.b_range (pa_cons (pe_callF (k := 2) (E := E) (ok__law_draw (K := K) T) (hr.mono (by decide)) passN (by rfl) (pa_cons (pv 0) (pa_cons (pv 2) pa_nil))) pa_nil)) (pg_name (i := 4) S__law_many_rows.nd rfl (by first | exact Or.inl rfl | exact Or.inr rfl))
 (pss_cons (ps_set (i := 5) S__law_many_rows.nd rfl (by first | exact Or.inl rfl | exact Or.inr rfl) (pe_callF (k := 4) (E := E) (ok__law_ballot (K := K) T) (hr.mono (by decide)) passN (by rfl) (pa_cons (pv 0) (pa_cons (pv 1) pa_nil))))
 (pss_cons (ps_if (PW.pt (pw_and (pt_cmpR op_gt (pe_callB call_lenU (by rfl) T.b_len boot_len (pa_cons (pv 3) pa_nil)) pe_int (nomark _)) (pw_and1 (pt_cmpR (op_eqU (room64 hr)) (pe_callF (k := 2) (E := E) (ok__law_draw (K := K) T) (hr.mono (by decide)) passN (by rfl) (pa_cons (pv 0) (pa_cons pe_int pa_nil))) pe_int (nomark _)))))
 (pss_one (ps_set (i := 5) S__law_many_rows.nd rfl (by first | exact Or.inl rfl | exact Or.inr rfl) (pe_ix ix_seq (pe_ix ix_seq (pv 3) (pe_callF (k := 2) (E := E) (ok__law_draw (K := K) T) (hr.mono (by decide)) passN (by rfl) (pa_cons (pv 0) (pa_cons (pe_callB call_lenU (by rfl) T.b_len boot_len (pa_cons (pv 3) pa_nil)) pa_nil))) (fun _ _ => rfl)) pe_int (fun _ _ => rfl))))
 pss_nil)
 (pss_cons (ps_set (i := 6) S__law_many_rows.nd rfl (by first | exact Or.inl rfl | exact Or.inr rfl) (pe_callF (k := 3) (E := E) (ok__law_times (K := K) T) (hr.mono (by decide)) passN (by rfl) (pa_cons (pv 0) (pa_cons (pe_callF (k := 2) (E := E) (ok__law_draw (K := K) T) (hr.mono (by decide)) passN (by rfl) (pa_cons (pv 0) (pa_cons pe_int pa_nil))) pa_nil))))
 (pss_one (ps_expr (pe_bm PySem.F.plainAttrs_list PySem.F.slot_list_append PySem.F.type_list_append mt_append (pv 3) (pa_cons (pe_tupN (pa_cons (pv 5) (pa_cons (pv 6) pa_nil))) pa_nil))))))))
 (pss_one (ps_ret (pv 3))))))),
 (ds_seq (ds_asg (de_int 7))
 (ds_seq (ds_if (dt_test (de_op ok_eq (de_call (E := E) n__law_draw (da_cons (de_var 0) (da_cons (de_int 4) da_nil))) (de_int 0)))
 (ds_asg (de_int 31))
 ds_next)
 (ds_seq (ds_asg (de_lst da_nil))
 (ds_seq (ds_for (di_r1 (da_cons (de_call (E := E) n__law_draw (da_cons (de_var 0) (da_cons (de_var 2) da_nil))) da_nil)) (dg_name 4)
 (ds_seq (ds_asg (de_frz (de_call (E := E) n__law_ballot (da_cons (de_var 0) (da_cons (de_var 1) da_nil)))))
 (ds_seq (ds_if (dt_and (dt_test (de_op (ok_cmp fun i j => decide (i > j)) (de_cb ok_len (da_cons (de_var 3) da_nil)) (de_int 0))) (dt_test (de_op ok_eq (de_call (E := E) n__law_draw (da_cons (de_var 0) (da_cons (de_int 3) da_nil))) (de_int 0))))
 (ds_asg (de_op ok_ix (de_op ok_ix (de_var 3) (de_call (E := E) n__law_draw (da_cons (de_var 0) (da_cons (de_cb ok_len (da_cons (de_var 3) da_nil)) da_nil)))) (de_int 0)))
 ds_next)
 (ds_seq (ds_asg (de_frz (de_call (E := E) n__law_times (da_cons (de_var 0) (da_cons (de_frz (de_call (E := E) n__law_draw (da_cons (de_var 0) (da_cons (de_int 3) da_nil)))) da_nil)))))
 (ds_drop (de_mut tyOk_lst ok_app (da_cons (de_tup (da_cons (de_var 5) (da_cons (de_var 6) da_nil))) da_nil)))))))
 (ds_ret (de_var 3))))))⟩
theorem ok__law_sum_of (T : TX P w K mg) : CallF CX0 P w K mg base 1 "_law_sum_of" ["_law_rows", "_law_ballot_here"] d__law_sum_of :=
  mk_callF (k := 0) (ds := b__law_sum_of) T.F__law_sum_of T.g__law_sum_of S__law_sum_of rfl rfl (fun _ _ _ _ _ _ us hl => match us, hl with | [_, _], _ => rfl) fun cdv A outer s H E hr => ⟨_,
 (pss_one (ps_ret (pe_callB (cr_sum rfl) (by rfl) T.b_sum boot_sum (pa_cons (pe_lc (own := [("_law_own", 2), ("_law_times_here", 3)]) (g := _) (tt := _) (by rfl) S__law_sum_of.nd (pi_seq (pv 0)) (blkOk_by (N := N__law_sum_of) (sc := defScope s__law_sum_of) (by decide +kernel)) (fun _ _ _ _ _ => (pg_tup (n := 2) rfl (pgs_cons (pg_name (i := 2) S__law_sum_of.nd rfl (by first | exact Or.inl rfl | exact Or.inr rfl)) (pgs_cons (pg_name (i := 3) S__law_sum_of.nd rfl (by first | exact Or.inl rfl | exact Or.inr rfl)) pgs_nil)))) (fun _ _ _ _ _ => (pts_one (pt_cmpR (op_eqU (room64 hr)) (pv 2) (pv 1) (nomark _)))) (fun _ _ _ _ _ => (pv 3))) pa_nil)))),
 (ds_ret (de_cb ok_sum (da_cons (de_lc (di_seq (de_var 0)) (dgv_tup (n := 2) (dgv_cons (dgv_name (i := 2) (by simp)) (dgv_cons (dgv_name (i := 3) (by simp)) dgv_nil))) (dt_test (de_op ok_eq (de_var 2) (de_var 1))) (de_var 3)) da_nil)))⟩
theorem ok__law_ahead (T : TX P w K mg) : CallF CX0 P w K mg base 1 "_law_ahead" ["_law_names_here", "_law_one", "_law_two"] d__law_ahead :=
  mk_callF (k := 0) (ds := b__law_ahead) T.F__law_ahead T.g__law_ahead S__law_ahead rfl rfl (fun _ _ _ _ _ _ us hl => match us, hl with | [_, _, _], _ => rfl) fun cdv A outer s H E hr => ⟨_,
 (pss_cons (ps_for PassesOwn.never rfl (pi_range1 (by rfl) T.b_range (pa_cons (pe_callB (call_minU rfl) (by rfl) T.b_min boot_min (pa_cons (pe_callB call_lenU (by rfl) T.b_len boot_len (pa_cons (pv 1) pa_nil)) (pa_cons (pe_callB call_lenU (by rfl) T.b_len boot_len (pa_cons (pv 2) pa_nil)) pa_nil))) pa_nil)) (pg_name (i := 3) S__law_ahead.nd rfl (by first | exact Or.inl rfl | exact Or.inr rfl))
 (pss_one (ps_if (pt_cmpR (op_neU (room64 hr)) (pe_ix ix_seq (pv 1) (pv 3) (fun _ _ => rfl)) (pe_ix ix_seq (pv 2) (pv 3) (fun _ _ => rfl)) (nomark _))
 (pss_one (ps_ret (pe_cmpR op_lt (pe_tm PySem.F.slot_tuple_index PySem.F.type_tuple_index mt_tup_index (pv 0) (pa_cons (pe_ix ix_seq (pv 1) (pv 3) (fun _ _ => rfl)) pa_nil)) (pe_tm PySem.F.slot_tuple_index PySem.F.type_tuple_index mt_tup_index (pv 0) (pa_cons (pe_ix ix_seq (pv 2) (pv 3) (fun _ _ => rfl)) pa_nil)) (nomark _))))
 pss_nil)))
 (pss_one (ps_ret (pe_cmpR op_lt (pe_callB call_lenU (by rfl) T.b_len boot_len (pa_cons (pv 1) pa_nil)) (pe_callB call_lenU (by rfl) T.b_len boot_len (pa_cons (pv 2) pa_nil)) (nomark _))))),
 (ds_seq (ds_for (di_r1 (da_cons (de_cb ok_min (da_cons (de_cb ok_len (da_cons (de_var 1) da_nil)) (da_cons (de_cb ok_len (da_cons (de_var 2) da_nil)) da_nil))) da_nil)) (dg_name 3)
 (ds_if (dt_test (de_op ok_ne (de_op ok_ix (de_var 1) (de_var 3)) (de_op ok_ix (de_var 2) (de_var 3))))
 (ds_ret (de_op (ok_cmp fun i j => decide (i < j)) (de_tix (de_var 0) (de_op ok_ix (de_var 1) (de_var 3))) (de_tix (de_var 0) (de_op ok_ix (de_var 2) (de_var 3)))))
 ds_next))
 (ds_ret (de_op (ok_cmp fun i j => decide (i < j)) (de_cb ok_len (da_cons (de_var 1) da_nil)) (de_cb ok_len (da_cons (de_var 2) da_nil)))))⟩
theorem ok__law_ordered (T : TX P w K mg) : CallF CX0 P w K mg base 2 "_law_ordered" ["_law_names_here", "_law_rows"] d__law_ordered :=
  mk_callF (k := 1) (ds := b__law_ordered) T.F__law_ordered T.g__law_ordered S__law_ordered rfl rfl (fun _ _ _ _ _ _ us hl => match us, hl with | [_, _], _ => rfl) fun cdv A outer s H E hr => ⟨_,
 (pss_cons (ps_set (i := 2) S__law_ordered.nd rfl (by first | exact Or.inl rfl | exact Or.inr rfl) (pe_lst pa_nil))
 (pss_cons (ps_for PassesOwn.never rfl (pi_seq (pv 1)) (pg_tup (n := 2) rfl (pgs_cons (pg_name (i := 3) S__law_ordered.nd rfl (by first | exact Or.inl rfl | exact Or.inr rfl)) (pgs_cons (pg_name (i := 4) S__law_ordered.nd rfl (by first | exact Or.inl rfl | exact Or.inr rfl)) pgs_nil)))
 (pss_one (ps_if (PW.pt (pw_and (pt_cmpR (op_notInU (room65 hr)) (pv 3) (pv 2) rfl) (pw_and1 (pt_cmpR op_gt (pe_callF (k := 1) (E := E) (ok__law_sum_of (K := K) T) (hr.mono (by decide)) passN (by rfl) (pa_cons (pv 1) (pa_cons (pv 3) pa_nil))) pe_int (nomark _)))))
 (pss_cons (ps_set (i := 5) S__law_ordered.nd rfl (by first | exact Or.inl rfl | exact Or.inr rfl) (pe_callB call_lenU (by rfl) T.b_len boot_len (pa_cons (pe_lc (own := [("_law_own", 6)]) (g := _) (tt := _) (by rfl) S__law_ordered.nd (pi_seq (pv 2)) (blkOk_by (N := N__law_ordered) (sc := defScope s__law_ordered) (by decide +kernel)) (fun _ _ _ _ _ => (pg_name (i := 6) S__law_ordered.nd rfl (by first | exact Or.inl rfl | exact Or.inr rfl))) (fun _ _ _ _ _ => (pts_one (pt_val (pe_callF (k := 1) (E := E0) (ok__law_ahead (K := K) T) (hr.mono (by decide)) passN (by rfl) (pa_cons (pv 0) (pa_cons (pv 6) (pa_cons (pv 3) pa_nil))))))) (fun _ _ _ _ _ => (pv 6))) pa_nil)))
 (pss_one (ps_expr (pe_bm PySem.F.plainAttrs_list PySem.F.slot_list_insert PySem.F.type_list_insert mt_insert (pv 2) (pa_cons (pv 5) (pa_cons (pv 3) pa_nil))))))
 pss_nil)))
 (pss_one (ps_ret (pe_lc (own := [("_law_ballot_here", 3)]) (g := _) (tt := tYes) (by rfl) S__law_ordered.nd (pi_seq (pv 2)) (blkOk_by (N := N__law_ordered) (sc := defScope s__law_ordered) (by decide +kernel)) (fun _ _ _ _ _ => (pg_name (i := 3) S__law_ordered.nd rfl (by first | exact Or.inl rfl | exact Or.inr rfl))) (fun _ _ _ _ _ => pts_nil) (fun _ _ _ _ _ => (pe_tupN (pa_cons (pv 3) (pa_cons (pe_callF (k := 1) (E := E0) (ok__law_sum_of (K := K) T) (hr.mono (by decide)) passN (by rfl) (pa_cons (pv 1) (pa_cons (pv 3) pa_nil))) pa_nil))))))))),
 (ds_seq (ds_asg (de_lst da_nil))
 (ds_seq (ds_for (di_seq (de_var 1)) (dg_tup (n := 2) (dg_cons (dg_name 3) (dg_cons (dg_name 4) dg_nil)))
 (ds_if (dt_and (dt_test (de_op ok_notIn (de_var 3) (de_var 2))) (dt_test (de_op (ok_cmp fun i j => decide (i > j)) (de_call (E := E) n__law_sum_of (da_cons (de_var 1) (da_cons (de_var 3) da_nil))) (de_int 0))))
 (ds_seq (ds_asg (de_cb ok_len (da_cons (de_lc (di_seq (de_var 2)) (dgv_name (i := 6) (by simp)) (dt_test (de_call (E := E0) n__law_ahead (da_cons (de_var 0) (da_cons (de_var 6) (da_cons (de_var 3) da_nil))))) (de_var 6)) da_nil)))
 (ds_drop (de_mut tyOk_lst ok_ins (da_cons (de_var 5) (da_cons (de_var 3) da_nil)))))
 ds_next))
 (ds_ret (de_lc (di_seq (de_var 2)) (dgv_name (i := 3) (by simp)) dt_yes (de_tup (da_cons (de_var 3) (da_cons (de_call (E := E0) n__law_sum_of (da_cons (de_var 1) (da_cons (de_var 3) da_nil))) da_nil)))))))⟩
theorem ok_is_name (T : TX P w K mg) : CallF CX0 P w K mg base 1 "is_name" ["word"] d_is_name :=
  mk_callF (k := 0) (ds := b_is_name) T.F_is_name T.g_is_name S_is_name rfl rfl (fun _ _ _ _ _ _ us hl => match us, hl with | [_], _ => rfl) fun cdv A outer s H E hr => ⟨_,
 (pss_cons (ps_if (pt_not (pt_chain op_le op_le pe_int (pe_callB call_lenU (by rfl) T.b_len boot_len (pa_cons (pv 0) pa_nil)) (pe_globE (by rfl) T.k_LONGEST_NAME)))
 (pss_one (ps_ret pe_bl))
 pss_nil)
 (pss_one (ps_ret (pe_callB (cr_all rfl) (by rfl) T.b_all boot_all (pa_cons (pe_lc (own := [("letter", 1)]) (g := _) (tt := tYes) (by rfl) S_is_name.nd (pi_seq (pv 0)) (blkOk_by (N := N_is_name) (sc := defScope s_is_name) (by decide +kernel)) (fun _ _ _ _ _ => (pg_name (i := 1) S_is_name.nd rfl (by first | exact Or.inl rfl | exact Or.inr rfl))) (fun _ _ _ _ _ => pts_nil) (fun _ _ _ _ _ => (pe_cmpR (op_inU (room65 hr)) (pv 1) (pe_globE (by rfl) T.k_LETTERS) rfl))) pa_nil))))),
 (ds_seq (ds_if (dt_not (dt_test (de_chain (p := (fun i j => decide (i ≤ j))) (q := (fun i j => decide (i ≤ j))) (de_int 1) (de_cb ok_len (da_cons (de_var 0) da_nil)) (de_int 12))))
 (ds_ret (de_bl false))
 ds_next)
 (ds_ret (de_cb ok_all (da_cons (de_lc (di_seq (de_var 0)) (dgv_name (i := 1) (by simp)) dt_yes (de_op ok_in (de_var 1) (de_str "abcdefghijklmnopqrstuvwxyz"))) da_nil))))⟩
theorem ok_checked_names (T : TX P w K mg) : CallF CX0 P w K mg base 2 "checked_names" ["names"] d_checked_names :=
  mk_callF (k := 1) (ds := b_checked_names) T.F_checked_names T.g_checked_names S_checked_names rfl rfl (fun _ _ _ _ _ _ us hl => match us, hl with | [_], _ => rfl) fun cdv A outer s H E hr => ⟨_,
 (pss_cons (ps_if (pt_not (pt_chain op_le op_le pe_int (pe_callB call_lenU (by rfl) T.b_len boot_len (pa_cons (pv 0) pa_nil)) (pe_globE (by rfl) T.k_MOST_NAMES)))
 (pss_one ps_never)
 pss_nil)
 (pss_cons (ps_for PassesOwn.never rfl (pi_enumU (by rfl) T.b_enumerate (pa_cons (pv 0) pa_nil)) (pg_tup (n := 2) rfl (pgs_cons (pg_name (i := 1) S_checked_names.nd rfl (by first | exact Or.inl rfl | exact Or.inr rfl)) (pgs_cons (pg_name (i := 2) S_checked_names.nd rfl (by first | exact Or.inl rfl | exact Or.inr rfl)) pgs_nil)))
 (pss_cons (ps_if (pt_not (pt_val (pe_callF (k := 1) (E := E) (ok_is_name (K := K) T) (hr.mono (by decide)) passN (by rfl) (pa_cons (pv 2) pa_nil))))
 (pss_one ps_never)
 pss_nil)
 (pss_one (ps_if (pt_cmpR (op_inU (room65 hr)) (pv 2) (pe_slice sl_U (pv 0) po_none (po_some (pv 1))) rfl)
 (pss_one ps_never)
 pss_nil))))
 (pss_one (ps_ret (pv 0))))),
 (ds_seq (ds_if (dt_not (dt_test (de_chain (p := (fun i j => decide (i ≤ j))) (q := (fun i j => decide (i ≤ j))) (de_int 1) (de_cb ok_len (da_cons (de_var 0) da_nil)) (de_int 5))))
 ds_never
 ds_next)
 (ds_seq (ds_for (di_enum (de_var 0)) (dg_tup (n := 2) (dg_cons (dg_name 1) (dg_cons (dg_name 2) dg_nil)))
 (ds_seq (ds_if (dt_not (dt_test (de_call (E := E) n_is_name (da_cons (de_var 2) da_nil))))
 ds_never
 ds_next)
 (ds_if (dt_test (de_op ok_in (de_var 2) (de_sl (de_var 0) do_none (do_some (de_var 1)))))
 ds_never
 ds_next)))
 (ds_ret (de_var 0))))⟩
theorem ok_checked_ballot (T : TX P w K mg) : CallF CX0 P w K mg base 1 "checked_ballot" ["names", "ballot"] d_checked_ballot :=
  mk_callF (k := 0) (ds := b_checked_ballot) T.F_checked_ballot T.g_checked_ballot S_checked_ballot rfl rfl (fun _ _ _ _ _ _ us hl => match us, hl with | [_, _], _ => rfl) fun cdv A outer s H E hr => ⟨_,
 (pss_cons (ps_for PassesOwn.never rfl (pi_enumU (by rfl) T.b_enumerate (pa_cons (pv 1) pa_nil)) (pg_tup (n := 2) rfl (pgs_cons (pg_name (i := 2) S_checked_ballot.nd rfl (by first | exact Or.inl rfl | exact Or.inr rfl)) (pgs_cons (pg_name (i := 3) S_checked_ballot.nd rfl (by first | exact Or.inl rfl | exact Or.inr rfl)) pgs_nil)))
 (pss_cons (ps_if (pt_cmpR (op_notInU (room65 hr)) (pv 3) (pv 0) rfl)
 (pss_one ps_never)
 pss_nil)
 (pss_one (ps_if (pt_cmpR (op_inU (room65 hr)) (pv 3) (pe_slice sl_U (pv 1) po_none (po_some (pv 2))) rfl)
 (pss_one ps_never)
 pss_nil))))
 (pss_one (ps_ret (pv 1)))),
 (ds_seq (ds_for (di_enum (de_var 1)) (dg_tup (n := 2) (dg_cons (dg_name 2) (dg_cons (dg_name 3) dg_nil)))
 (ds_seq (ds_if (dt_test (de_op ok_notIn (de_var 3) (de_var 0)))
 ds_never
 ds_next)
 (ds_if (dt_test (de_op ok_in (de_var 3) (de_sl (de_var 1) do_none (do_some (de_var 2)))))
 ds_never
 ds_next)))
 (ds_ret (de_var 1)))⟩
theorem ok_sorted_rows (T : TX P w K mg) : CallF CX0 P w K mg base 1 "sorted_rows" ["names", "counts"] d_sorted_rows :=
  mk_callF (k := 0) (ds := b_sorted_rows) T.F_sorted_rows T.g_sorted_rows S_sorted_rows rfl rfl (fun _ _ _ _ _ _ us hl => match us, hl with | [_, _], _ => rfl) fun cdv A outer s H E hr => ⟨_,
 (pss_cons (ps_set (i := 2) S_sorted_rows.nd rfl (by first | exact Or.inl rfl | exact Or.inr rfl) (pe_callB (cr_sorted (room64 hr)) (by rfl) T.b_sorted (by decide +kernel) (pa_cons (pe_lc (own := [("ballot", 5)]) (g := _) (tt := _) (by rfl) S_sorted_rows.nd (pi_ksD (pv 1)) (blkOk_by (N := N_sorted_rows) (sc := defScope s_sorted_rows) (by decide +kernel)) (fun _ _ _ _ _ => (pg_name (i := 5) S_sorted_rows.nd rfl (by first | exact Or.inl rfl | exact Or.inr rfl))) (fun _ _ _ _ _ => (pts_one (pt_cmpR op_gt (pe_itemD (K := K) ⟨rfl, T.wd.1, T.wd.2⟩ (room1 hr) (pv 1) (pv 5) (fun _ _ => rfl)) pe_int (nomark _)))) (fun _ _ _ _ _ => (pe_callTy call_tupleU (by rfl) T.b_tuple boot_tuple (pa_cons (pe_lc (own := [("name", 7)]) (g := _) (tt := tYes) (by rfl) S_sorted_rows.nd (pi_seq (pv 5)) (blkOk_by (by kernel_rfl)) (fun _ _ _ _ _ => (pg_name (i := 7) S_sorted_rows.nd rfl (by first | exact Or.inl rfl | exact Or.inr rfl))) (fun _ _ _ _ _ => pts_nil) (fun _ _ _ _ _ => (pe_tm PySem.F.slot_tuple_index PySem.F.type_tuple_index mt_tup_index (pv 0) (pa_cons (pv 7) pa_nil)))) pa_nil)))) pa_nil)))
 (pss_cons (ps_setLc (i := 3) (own := [("key", 4)]) (g := _) (tt := tYes) (by rfl) S_sorted_rows.nd rfl rfl (sw_true rfl rfl rfl (by decide +kernel)) (pi_seq (pv 2)) (blkOk_by (N := N_sorted_rows) (sc := defScope s_sorted_rows) (by decide +kernel)) (fun _ _ _ _ _ => (pg_name (i := 4) S_sorted_rows.nd rfl (by first | exact Or.inl rfl | exact Or.inr rfl))) (fun _ _ _ _ _ => pts_nil) (fun _ _ _ _ _ => (pe_callTy call_tupleU (by rfl) T.b_tuple boot_tuple (pa_cons (pe_lc (own := [("place", 6)]) (g := _) (tt := tYes) (by rfl) S_sorted_rows.nd (pi_seq (pv 4)) (blkOk_by (by kernel_rfl)) (fun _ _ _ _ _ => (pg_name (i := 6) S_sorted_rows.nd rfl (by first | exact Or.inl rfl | exact Or.inr rfl))) (fun _ _ _ _ _ => pts_nil) (fun _ _ _ _ _ => (pe_ix ix_seq (pv 0) (pv 6) (fun _ _ => rfl)))) pa_nil))))
 (pss_one (ps_ret (pe_callTy call_tupleU (by rfl) T.b_tuple boot_tuple (pa_cons (pe_lc (own := [("ballot", 5)]) (g := _) (tt := tYes) (by rfl) S_sorted_rows.nd (pi_seq (pv 3)) (blkOk_by (N := N_sorted_rows) (sc := defScope s_sorted_rows) (by decide +kernel)) (fun _ _ _ _ _ => (pg_name (i := 5) S_sorted_rows.nd rfl (by first | exact Or.inl rfl | exact Or.inr rfl))) (fun _ _ _ _ _ => pts_nil) (fun _ _ _ _ _ => (pe_tupN (pa_cons (pv 5) (pa_cons (pe_itemD (K := K) ⟨rfl, T.wd.1, T.wd.2⟩ (room1 hr) (pv 1) (pv 5) (fun _ _ => rfl)) pa_nil))))) pa_nil)))))),
 (ds_seq (ds_asg (de_frz (de_cb ok_sorted (da_cons (de_lc (di_ks (de_var 1)) (dgv_name (i := 5) (by simp)) (dt_test (de_op (ok_cmp fun i j => decide (i > j)) (de_op ok_itD (de_var 1) (de_var 5)) (de_int 0))) (de_cb ok_tuple (da_cons (de_lc (di_seq (de_var 5)) (dgv_name (i := 7) (by simp)) dt_yes (de_tix (de_var 0) (de_var 7))) da_nil))) da_nil))))
 (ds_seq (ds_asg (de_frz (de_lc (di_seq (de_var 2)) (dgv_name (i := 4) (by simp)) dt_yes (de_cb ok_tuple (da_cons (de_lc (di_seq (de_var 4)) (dgv_name (i := 6) (by simp)) dt_yes (de_op ok_ix (de_var 0) (de_var 6))) da_nil)))))
 (ds_ret (de_cb ok_tuple (da_cons (de_lc (di_seq (de_var 3)) (dgv_name (i := 5) (by simp)) dt_yes (de_tup (da_cons (de_var 5) (da_cons (de_op ok_itD (de_var 1) (de_var 5)) da_nil)))) da_nil)))))⟩
theorem ok_Roll___init__ (T : TX P w K mg) {f : Addr} (F : ∃ fd, FunD K "__init__" "Roll.__init__" (defArgs s_Roll___init__) (defBody s_Roll___init__) (defScope s_Roll___init__) [(.ref (He.dflAt ("Roll", some "__init__") 0 K))] [("largest", (.int 1000000000000))] f fd) : FnG CX0 P w K mg base 3 "__init__" "Roll.__init__" s_Roll___init__ [(.ref (He.dflAt ("Roll", some "__init__") 0 K))] [("largest", (.int 1000000000000))] f ["self", "names", "rows", "largest"] d_Roll___init__ :=
  mk_fnG (k := 2) (ds := b_Roll___init__) F S_Roll___init__ rfl rfl fun cdv A outer s H E hr => ⟨_,
 (pss_cons (ps_fldF (K := K) ⟨rfl, rfl, rfl, rfl, rfl⟩ (pv 0) (pe_callF (k := 2) (E := E) (ok_checked_names (K := K) T) (hr.mono (by decide)) passN (by rfl) (pa_cons (pv 1) pa_nil)))
 (pss_cons (ps_set (i := 4) S_Roll___init__.nd rfl (by first | exact Or.inl rfl | exact Or.inr rfl) pe_newD)
 (pss_cons (ps_for PassesOwn.never rfl (pi_seq (pv 2)) (pg_tup (n := 2) rfl (pgs_cons (pg_name (i := 5) S_Roll___init__.nd rfl (by first | exact Or.inl rfl | exact Or.inr rfl)) (pgs_cons (pg_name (i := 6) S_Roll___init__.nd rfl (by first | exact Or.inl rfl | exact Or.inr rfl)) pgs_nil)))
 (pss_cons (ps_expr (pe_callF (k := 1) (E := E) (ok_checked_ballot (K := K) T) (hr.mono (by decide)) passN (by rfl) (pa_cons (pe_fldF (K := K) ⟨rfl, rfl, rfl, rfl, rfl⟩ (pv 0)) (pa_cons (pv 5) pa_nil))))
 (pss_cons (ps_if (PW.pt (pw_or (pt_cmpR op_lt (pv 6) pe_int (nomark _)) (pw_or1 (PW.pt (pw_and (pt_cmpR op_notN (pv 3) pe_non (nomark _)) (pw_and1 (pt_cmpR op_gt (pv 6) (pv 3) (nomark _))))))))
 (pss_one ps_never)
 pss_nil)
 (pss_one (ps_asg (pe_op op_addU (pe_getD (K := K) ⟨rfl, T.wd.1, T.wd.2⟩ (room1 hr) (pv 4) (pv 5) pe_int ⟨by rfl, by rfl, by rfl, by rfl⟩) (pv 6)) (pg_sub (pv 4) (pv 5) (set_dict (K := K) ⟨rfl, T.wd.1, T.wd.2⟩ (room1 hr))))))))
 (pss_one (ps_fldF (K := K) ⟨rfl, rfl, rfl, rfl, rfl⟩ (pv 0) (pe_callF (k := 1) (E := E) (ok_sorted_rows (K := K) T) (hr.mono (by decide)) passN (by rfl) (pa_cons (pe_fldF (K := K) ⟨rfl, rfl, rfl, rfl, rfl⟩ (pv 0)) (pa_cons (pv 4) pa_nil)))))))),
 (ds_seq (ds_setF T.fd_names (de_call (E := E) n_checked_names (da_cons (de_var 1) da_nil)))
 (ds_seq (ds_asg de_newT)
 (ds_seq (ds_for (di_seq (de_var 2)) (dg_tup (n := 2) (dg_cons (dg_name 5) (dg_cons (dg_name 6) dg_nil)))
 (ds_seq (ds_drop (de_call (E := E) n_checked_ballot (da_cons (de_fldF T.fd_names (de_var 0)) (da_cons (de_var 5) da_nil))))
 (ds_seq (ds_if (dt_or (dt_test (de_op (ok_cmp fun i j => decide (i < j)) (de_var 6) (de_int 0))) (dt_and (dt_test (de_op ok_notN (de_var 3) de_non)) (dt_test (de_op (ok_cmp fun i j => decide (i > j)) (de_var 6) (de_var 3)))))
 ds_never
 ds_next)
 (ds_setD (de_op ok_add (de_getD (de_var 4) (de_var 5) (de_int 0)) (de_var 6)) (de_var 5)))))
 (ds_fz (is := [4]) (ds_setF T.fd__rows (de_call (E := E) n_sorted_rows (da_cons (de_fldF T.fd_names (de_var 0)) (da_cons (de_var 4) da_nil))))))))⟩
theorem kf_Roll___init___1_ (K : Fg) : KFormM K "__init__" "Roll.__init__" s_Roll___init__ [(.ref (He.dflAt ("Roll", some "__init__") 0 K))] [("largest", (.int 1000000000000))] ["self", "names", "rows", "largest"] 2 [] (fun us ws => (fun (us its mv ws : List V) => us ++ ((its.drop 0).take 1 ++ (mv.drop 0).take 1)) us [(.ref (He.dflAt ("Roll", some "__init__") 0 K))] ([(.int 1000000000000)]) ws) := fun f fd F => ⟨_, (F.kbinds 2 [] [("largest", (.int 1000000000000))] (fun us its mv ws => us ++ ((its.drop 0).take 1 ++ (mv.drop 0).take 1)) (by simp) (by simp) (by simp) (fun hu hi hm hz => hu.append ((Vals.take 1 (Vals.drop 0 hi)).append (Vals.take 1 (Vals.drop 0 hm)))) (fun T D doc pm an cdv ct us its mv ws h1 h2 h3 h4 => match us, its, mv, ws, h1, h2, h3, h4 with
  | [_, _], [_], [_], [], _, _, _, _ => ⟨_, rfl, ⟨_, _, _, _, _, _, rfl, rfl, (show _ = pure _ by with_unfolding_all rfl)⟩⟩)).choose_spec.choose_spec⟩
theorem kf_Roll___init___1_rows (K : Fg) : KFormM K "__init__" "Roll.__init__" s_Roll___init__ [(.ref (He.dflAt ("Roll", some "__init__") 0 K))] [("largest", (.int 1000000000000))] ["self", "names", "rows", "largest"] 2 ["rows"] (fun us ws => (fun (us its mv ws : List V) => us ++ ((ws.drop 0).take 1 ++ (mv.drop 0).take 1)) us [(.ref (He.dflAt ("Roll", some "__init__") 0 K))] ([(.int 1000000000000)]) ws) := fun f fd F => ⟨_, (F.kbinds 2 ["rows"] [("largest", (.int 1000000000000))] (fun us its mv ws => us ++ ((ws.drop 0).take 1 ++ (mv.drop 0).take 1)) (by simp) (by simp) (by simp) (fun hu hi hm hz => hu.append ((Vals.take 1 (Vals.drop 0 hz)).append (Vals.take 1 (Vals.drop 0 hm)))) (fun T D doc pm an cdv ct us its mv ws h1 h2 h3 h4 => match us, its, mv, ws, h1, h2, h3, h4 with
  | [_, _], [_], [_], [_], _, _, _, _ => ⟨_, rfl, ⟨_, _, _, _, _, _, rfl, rfl, (show _ = pure _ by with_unfolding_all rfl)⟩⟩)).choose_spec.choose_spec⟩
theorem kf_Roll___init___2_ (K : Fg) : KFormM K "__init__" "Roll.__init__" s_Roll___init__ [(.ref (He.dflAt ("Roll", some "__init__") 0 K))] [("largest", (.int 1000000000000))] ["self", "names", "rows", "largest"] 3 [] (fun us ws => (fun (us its mv ws : List V) => us ++ ((mv.drop 0).take 1)) us [(.ref (He.dflAt ("Roll", some "__init__") 0 K))] ([(.int 1000000000000)]) ws) := fun f fd F => ⟨_, (F.kbinds 3 [] [("largest", (.int 1000000000000))] (fun us its mv ws => us ++ ((mv.drop 0).take 1)) (by simp) (by simp) (by simp) (fun hu hi hm hz => hu.append (Vals.take 1 (Vals.drop 0 hm))) (fun T D doc pm an cdv ct us its mv ws h1 h2 h3 h4 => match us, its, mv, ws, h1, h2, h3, h4 with
  | [_, _, _], [_], [_], [], _, _, _, _ => ⟨_, rfl, ⟨_, _, _, _, _, _, rfl, rfl, (show _ = pure _ by with_unfolding_all rfl)⟩⟩)).choose_spec.choose_spec⟩
theorem ok__law_same (T : TX P w K mg) : ∀ n, CallF CX0 P w K mg base (1 + n) "_law_same" ["_law_got", "_law_wanted"] (d__law_same n)
  | 0 => mk_none (k := 0) T.F__law_same T.g__law_same S__law_same (fun _ _ _ _ _ _ us hl => match us, hl with | [_, _], _ => rfl)
  | n + 1 => by
    have IH := ok__law_same T n
    exact mk_callF (k := 1 + n) (ds := b__law_same (d__law_same n)) T.F__law_same T.g__law_same S__law_same rfl rfl (fun _ _ _ _ _ _ us hl => match us, hl with | [_, _], _ => rfl) fun cdv A outer s H E hr => ⟨_,
 (pss_cons (ps_if (pt_cmpR op_isN (pv 1) pe_non (nomark _))
 (pss_one (ps_ret (pe_cmpR op_isN (pv 0) pe_non (nomark _))))
 pss_nil)
 (pss_cons (ps_if (pt_val (pe_callB call_isi (by rfl) T.b_isinstance boot_isinstance (pa_cons (pv 1) (pa_cons (pe_bltn (v := .ty "bool") (by rfl) T.b_bool boot_bool rfl) pa_nil))))
 (pss_one (ps_ret (pe_and (pe_callB call_isi (by rfl) T.b_isinstance boot_isinstance (pa_cons (pv 0) (pa_cons (pe_bltn (v := .ty "bool") (by rfl) T.b_bool boot_bool rfl) pa_nil))) (pe_one (pe_cmpR (op_eqU (room64 hr)) (pv 0) (pv 1) (nomark _))))))
 pss_nil)
 (pss_cons (ps_if (pt_val (pe_callB call_isi (by rfl) T.b_isinstance boot_isinstance (pa_cons (pv 1) (pa_cons (pe_bltn (v := .ty "int") (by rfl) T.b_int boot_int rfl) pa_nil))))
 (pss_one (ps_ret (pe_and (pe_callB call_isi (by rfl) T.b_isinstance boot_isinstance (pa_cons (pv 0) (pa_cons (pe_bltn (v := .ty "int") (by rfl) T.b_int boot_int rfl) pa_nil))) (pe_and (pe_not (pe_callB call_isi (by rfl) T.b_isinstance boot_isinstance (pa_cons (pv 0) (pa_cons (pe_bltn (v := .ty "bool") (by rfl) T.b_bool boot_bool rfl) pa_nil)))) (pe_one (pe_cmpR (op_eqU (room64 hr)) (pv 0) (pv 1) (nomark _)))))))
 pss_nil)
 (pss_cons (ps_if (pt_val (pe_callB call_isi (by rfl) T.b_isinstance boot_isinstance (pa_cons (pv 1) (pa_cons (pe_bltn (v := .ty "str") (by rfl) T.b_str boot_str rfl) pa_nil))))
 (pss_one (ps_ret (pe_and (pe_callB call_isi (by rfl) T.b_isinstance boot_isinstance (pa_cons (pv 0) (pa_cons (pe_bltn (v := .ty "str") (by rfl) T.b_str boot_str rfl) pa_nil))) (pe_one (pe_cmpR (op_eqU (room64 hr)) (pv 0) (pv 1) (nomark _))))))
 pss_nil)
 (pss_cons (ps_if (PW.pt (pw_and (pt_val (pe_callB call_isi (by rfl) T.b_isinstance boot_isinstance (pa_cons (pv 1) (pa_cons (pe_bltn (v := .ty "tuple") (by rfl) T.b_tuple boot_tuple rfl) pa_nil)))) (pw_and1 (pt_not (pt_val (pe_callB call_isi (by rfl) T.b_isinstance boot_isinstance (pa_cons (pv 0) (pa_cons (pe_bltn (v := .ty "tuple") (by rfl) T.b_tuple boot_tuple rfl) pa_nil))))))))
 (pss_one (ps_ret pe_bl))
 pss_nil)
 (pss_cons (ps_if (PW.pt (pw_and (pt_val (pe_callB call_isi (by rfl) T.b_isinstance boot_isinstance (pa_cons (pv 1) (pa_cons (pe_bltn (v := .ty "list") (by rfl) T.b_list boot_list rfl) pa_nil)))) (pw_and1 (pt_not (pt_val (pe_callB call_isi (by rfl) T.b_isinstance boot_isinstance (pa_cons (pv 0) (pa_cons (pe_bltn (v := .ty "list") (by rfl) T.b_list boot_list rfl) pa_nil))))))))
 (pss_one (ps_ret pe_bl))
 pss_nil)
 (pss_cons (ps_if (pt_cmpR (op_neU (room64 hr)) (pe_callB call_lenU (by rfl) T.b_len boot_len (pa_cons (pv 0) pa_nil)) (pe_callB call_lenU (by rfl) T.b_len boot_len (pa_cons (pv 1) pa_nil)) (nomark _))
 (pss_one (ps_ret pe_bl))
 pss_nil)
 (pss_cons (ps_for PassesOwn.never rfl (pi_range1 (by rfl) T.b_range (pa_cons (pe_callB call_lenU (by rfl) T.b_len boot_len (pa_cons (pv 1) pa_nil)) pa_nil)) (pg_name (i := 2) S__law_same.nd rfl (by first | exact Or.inl rfl | exact Or.inr rfl))
 (pss_one (ps_if (pt_not (pt_val (pe_callF (k := (1 + n)) (E := E) IH (hr.mono (by omega)) passN (by rfl) (pa_cons (pe_ix ix_seq (pv 0) (pv 2) (fun _ _ => rfl)) (pa_cons (pe_ix ix_seq (pv 1) (pv 2) (fun _ _ => rfl)) pa_nil)))))
 (pss_one (ps_ret pe_bl))
 pss_nil)))
 (pss_one (ps_ret pe_bl)))))))))),
 (ds_seq (ds_if (dt_test (de_op ok_isN (de_var 1) de_non))
 (ds_ret (de_op ok_isN (de_var 0) de_non))
 ds_next)
 (ds_seq (ds_if (dt_test (de_cb ok_isi (da_cons (de_var 1) (da_cons de_ty da_nil))))
 (ds_ret (de_andV (de_cb ok_isi (da_cons (de_var 0) (da_cons de_ty da_nil))) (de_op ok_eq (de_var 0) (de_var 1))))
 ds_next)
 (ds_seq (ds_if (dt_test (de_cb ok_isi (da_cons (de_var 1) (da_cons de_ty da_nil))))
 (ds_ret (de_andV (de_cb ok_isi (da_cons (de_var 0) (da_cons de_ty da_nil))) (de_andV (de_notV (de_cb ok_isi (da_cons (de_var 0) (da_cons de_ty da_nil)))) (de_op ok_eq (de_var 0) (de_var 1)))))
 ds_next)
 (ds_seq (ds_if (dt_test (de_cb ok_isi (da_cons (de_var 1) (da_cons de_ty da_nil))))
 (ds_ret (de_andV (de_cb ok_isi (da_cons (de_var 0) (da_cons de_ty da_nil))) (de_op ok_eq (de_var 0) (de_var 1))))
 ds_next)
 (ds_seq (ds_if (dt_and (dt_test (de_cb ok_isi (da_cons (de_var 1) (da_cons de_ty da_nil)))) (dt_not (dt_test (de_cb ok_isi (da_cons (de_var 0) (da_cons de_ty da_nil))))))
 (ds_ret (de_bl false))
 ds_next)
 (ds_seq (ds_if (dt_and (dt_test (de_cb ok_isi (da_cons (de_var 1) (da_cons de_ty da_nil)))) (dt_not (dt_test (de_cb ok_isi (da_cons (de_var 0) (da_cons de_ty da_nil))))))
 (ds_ret (de_bl false))
 ds_next)
 (ds_seq (ds_if (dt_test (de_op ok_ne (de_cb ok_len (da_cons (de_var 0) da_nil)) (de_cb ok_len (da_cons (de_var 1) da_nil))))
 (ds_ret (de_bl false))
 ds_next)
 (ds_seq (ds_for (di_r1 (da_cons (de_cb ok_len (da_cons (de_var 1) da_nil)) da_nil)) (dg_name 2)
 (ds_if (dt_not (dt_test (de_call (E := E) (n__law_same n) (da_cons (de_op ok_ix (de_var 0) (de_var 2)) (da_cons (de_op ok_ix (de_var 1) (de_var 2)) da_nil)))))
 (ds_ret (de_bl false))
 ds_next))
 (ds_ret (de_bl true))))))))))⟩
theorem ok__law_yields (T : TX P w K mg) : CallF CX0 P w K mg base 9 "_law_yields" ["_law_roll", "_law_names_here", "_law_wanted"] d__law_yields :=
  mk_callF (k := 8) (ds := b__law_yields) T.F__law_yields T.g__law_yields S__law_yields rfl rfl (fun _ _ _ _ _ _ us hl => match us, hl with | [_, _, _], _ => rfl) fun cdv A outer s H E hr => ⟨_,
 (pss_cons (ps_if (PW.pt (pw_or (pt_not (pt_val (pe_callB (call_isiO (K := K)) (by rfl) T.b_isinstance boot_isinstance (pa_cons (pv 0) (pa_cons (pe_globE (v := .ref (He.ga K "Roll")) (by rfl) ⟨_, T.g_Roll, rfl⟩) pa_nil))))) (pw_or1 (pt_not (pt_val (pe_callF (k := 6) (E := E) (ok__law_same (K := K) T 5) (hr.mono (by decide)) passN (by rfl) (pa_cons (pe_fldF (K := K) ⟨rfl, rfl, rfl, rfl, rfl⟩ (pv 0)) (pa_cons (pv 1) pa_nil))))))))
 (pss_one (ps_ret pe_bl))
 pss_nil)
 (pss_one (ps_ret (pe_callF (k := 6) (E := E) (ok__law_same (K := K) T 5) (hr.mono (by decide)) passN (by rfl) (pa_cons (pe_callTy (cr_listO (k := 2) (cs := ["Roll"]) (F := "_rows") (K := K) ⟨rfl, rfl, rfl, rfl, rfl⟩ rfl (oI_Roll T) (oL_Roll T) (hr.mono (by decide))) (by rfl) T.b_list boot_list (pa_cons (pv 0) pa_nil)) (pa_cons (pv 2) pa_nil)))))),
 (ds_seq (ds_if (dt_or (dt_not (dt_test (de_cb (ok_isiO T.ois.1 T.ois.2) (da_cons (de_var 0) (da_cons de_cls da_nil))))) (dt_not (dt_test (de_call (E := E) (n__law_same 5) (da_cons (de_fldF T.fd_names (de_var 0)) (da_cons (de_var 1) da_nil))))))
 (ds_ret (de_bl false))
 ds_next)
 (ds_ret (de_call (E := E) (n__law_same 5) (da_cons (de_frz (de_cb ok_listO (da_cons (de_var 0) da_nil))) (da_cons (de_var 2) da_nil)))))⟩
theorem ok_law (T : TX P w K mg) {fd : FuncData} (F : FunD K "law" "law" (defArgs s_law) (defBody s_law) (defScope s_law) [] [] (He.ga K "law") fd) : FnOk P w K mg base CX0 10 (He.ga K "law") fd ["_law_script"] (spD K d_law) :=
  mk_fnOk (k := 9) (ds := b_law) F S_law rfl rfl fun cdv A outer s H E hr => ⟨_,
 (pss_cons (ps_set (i := 1) S_law.nd rfl (by first | exact Or.inl rfl | exact Or.inr rfl) (pe_callF (k := 4) (E := E) (ok__law_names (K := K) T) (hr.mono (by decide)) passN (by rfl) (pa_cons (pe_callF (k := 2) (E := E) (ok__law_pool (K := K) T) (hr.mono (by decide)) passN (by rfl) (pa_cons (pv 0) (pa_cons pe_int pa_nil))) (pa_cons pe_int (pa_cons pe_int pa_nil)))))
 (pss_cons (ps_set (i := 2) S_law.nd rfl (by first | exact Or.inl rfl | exact Or.inr rfl) (pe_callF (k := 5) (E := E) (ok__law_many_rows (K := K) T) (hr.mono (by decide)) passN (by rfl) (pa_cons (pe_callF (k := 2) (E := E) (ok__law_pool (K := K) T) (hr.mono (by decide)) passN (by rfl) (pa_cons (pv 0) (pa_cons pe_int pa_nil))) (pa_cons (pv 1) pa_nil))))
 (pss_cons (ps_set (i := 3) S_law.nd rfl (by first | exact Or.inl rfl | exact Or.inr rfl) (pe_callF (k := 5) (E := E) (ok__law_many_rows (K := K) T) (hr.mono (by decide)) passN (by rfl) (pa_cons (pe_callF (k := 2) (E := E) (ok__law_pool (K := K) T) (hr.mono (by decide)) passN (by rfl) (pa_cons (pv 0) (pa_cons pe_int pa_nil))) (pa_cons (pv 1) pa_nil))))
 (pss_cons (ps_set (i := 4) S_law.nd rfl (by first | exact Or.inl rfl | exact Or.inr rfl) (pe_callF (k := 2) (E := E) (ok__law_ordered (K := K) T) (hr.mono (by decide)) passN (by rfl) (pa_cons (pv 1) (pa_cons (pv 2) pa_nil))))
 (pss_cons (ps_set (i := 5) S_law.nd rfl (by first | exact Or.inl rfl | exact Or.inr rfl) (pe_callF (k := 2) (E := E) (ok__law_ordered (K := K) T) (hr.mono (by decide)) passN (by rfl) (pa_cons (pv 1) (pa_cons (pv 3) pa_nil))))
 (pss_cons (ps_set (i := 6) S_law.nd rfl (by first | exact Or.inl rfl | exact Or.inr rfl) (pe_callTy (call_listU rfl) (by rfl) T.b_list boot_list (pa_cons (pv 2) pa_nil)))
 (pss_cons (ps_set (i := 7) S_law.nd rfl (by first | exact Or.inl rfl | exact Or.inr rfl) (pe_makeG (E := (fun _ => E)) (K := K) ⟨rfl, rfl, rfl, rfl, rfl⟩ (mkG_of (den := d_Roll___init__) T.mk_Roll T.g_Roll (ok_Roll___init__ (K := K) T T.F_Roll___init__)) (kf_Roll___init___2_ K) (hr.mono (by decide)) (by rfl) passN0 (pa_cons (pv 1) (pa_cons (pv 6) pa_nil)) pk_nil))
 (pss_cons (ps_set (i := 8) S_law.nd rfl (by first | exact Or.inl rfl | exact Or.inr rfl) (pe_makeG (E := (fun _ => E)) (K := K) ⟨rfl, rfl, rfl, rfl, rfl⟩ (mkG_of (den := d_Roll___init__) T.mk_Roll T.g_Roll (ok_Roll___init__ (K := K) T T.F_Roll___init__)) (kf_Roll___init___2_ K) (hr.mono (by decide)) (by rfl) passN0 (pa_cons (pv 1) (pa_cons (pe_callTy call_tupleU (by rfl) T.b_tuple boot_tuple (pa_cons (pv 3) pa_nil)) pa_nil)) pk_nil))
 (pss_cons (ps_if (PW.pt (pw_or (pt_not (pt_val (pe_callF (k := 6) (E := E) (ok__law_same (K := K) T 5) (hr.mono (by decide)) passN (by rfl) (pa_cons (pv 6) (pa_cons (pv 2) pa_nil))))) (pw_or1 (pt_not (pt_val (pe_callF (k := 9) (E := E) (ok__law_yields (K := K) T) (hr.mono (by decide)) passN (by rfl) (pa_cons (pe_makeG (E := (fun _ => E)) (K := K) ⟨rfl, rfl, rfl, rfl, rfl⟩ (mkG_of (den := d_Roll___init__) T.mk_Roll T.g_Roll (ok_Roll___init__ (K := K) T T.F_Roll___init__)) (kf_Roll___init___1_ K) (hr.mono (by decide)) (by rfl) passN0 (pa_cons (pv 1) pa_nil) pk_nil) (pa_cons (pv 1) (pa_cons (pe_lst pa_nil) pa_nil)))))))))
 (pss_one (ps_ret pe_bl))
 pss_nil)
 (pss_cons (ps_if (PW.pt (pw_or (pt_not (pt_val (pe_callF (k := 9) (E := E) (ok__law_yields (K := K) T) (hr.mono (by decide)) passN (by rfl) (pa_cons (pv 7) (pa_cons (pv 1) (pa_cons (pv 4) pa_nil)))))) (pw_or1 (pt_not (pt_val (pe_callF (k := 9) (E := E) (ok__law_yields (K := K) T) (hr.mono (by decide)) passN (by rfl) (pa_cons (pv 8) (pa_cons (pv 1) (pa_cons (pv 5) pa_nil)))))))))
 (pss_one (ps_ret pe_bl))
 pss_nil)
 (pss_cons (ps_if (pt_not (pt_val (pe_callF (k := 9) (E := E) (ok__law_yields (K := K) T) (hr.mono (by decide)) passN (by rfl) (pa_cons (pe_makeG (E := (fun _ => E)) (K := K) ⟨rfl, rfl, rfl, rfl, rfl⟩ (mkG_of (den := d_Roll___init__) T.mk_Roll T.g_Roll (ok_Roll___init__ (K := K) T T.F_Roll___init__)) (kf_Roll___init___1_rows K) (hr.mono (by decide)) (by rfl) passN0 (pa_cons (pv 1) pa_nil) (pk_cons (pe_revL (pv 2)) pk_nil)) (pa_cons (pv 1) (pa_cons (pv 4) pa_nil))))))
 (pss_one (ps_ret pe_bl))
 pss_nil)
 (pss_cons (ps_if (pt_not (pt_val (pe_callF (k := 9) (E := E) (ok__law_yields (K := K) T) (hr.mono (by decide)) passN (by rfl) (pa_cons (pe_makeG (E := (fun _ => E)) (K := K) ⟨rfl, rfl, rfl, rfl, rfl⟩ (mkG_of (den := d_Roll___init__) T.mk_Roll T.g_Roll (ok_Roll___init__ (K := K) T T.F_Roll___init__)) (kf_Roll___init___2_ K) (hr.mono (by decide)) (by rfl) passN0 (pa_cons (pv 1) (pa_cons (pe_op op_addU (pv 2) (pv 2)) pa_nil)) pk_nil) (pa_cons (pv 1) (pa_cons (pe_lc (own := [("_law_ballot_here", 9), ("_law_times_here", 10)]) (g := _) (tt := tYes) (by rfl) S_law.nd (pi_seq (pv 4)) (blkOk_by (N := N_law) (sc := defScope s_law) (by decide +kernel)) (fun _ _ _ _ _ => (pg_tup (n := 2) rfl (pgs_cons (pg_name (i := 9) S_law.nd rfl (by first | exact Or.inl rfl | exact Or.inr rfl)) (pgs_cons (pg_name (i := 10) S_law.nd rfl (by first | exact Or.inl rfl | exact Or.inr rfl)) pgs_nil)))) (fun _ _ _ _ _ => pts_nil) (fun _ _ _ _ _ => (pe_tupN (pa_cons (pv 9) (pa_cons (pe_op op_mulU pe_int (pv 10)) pa_nil))))) pa_nil))))))
 (pss_one (ps_ret pe_bl))
 pss_nil)
 (pss_cons (ps_expr (pe_bm PySem.F.plainAttrs_list PySem.F.slot_list_append PySem.F.type_list_append mt_append (pv 6) (pa_cons (pe_tupN (pa_cons (pv 1) (pa_cons pe_int pa_nil))) pa_nil)))
 (pss_cons (ps_asg (pe_tupN (pa_cons (pe_tupN pa_nil) (pa_cons pe_int pa_nil))) (pg_sub (pv 6) pe_int set_list))
 (pss_one (ps_ret (pe_and (pe_callF (k := 9) (E := E) (ok__law_yields (K := K) T) (hr.mono (by decide)) passN (by rfl) (pa_cons (pv 7) (pa_cons (pv 1) (pa_cons (pv 4) pa_nil)))) (pe_one (pe_callF (k := 9) (E := E) (ok__law_yields (K := K) T) (hr.mono (by decide)) passN (by rfl) (pa_cons (pv 8) (pa_cons (pv 1) (pa_cons (pv 5) pa_nil)))))))))))))))))))))),
 (ds_seq (ds_asg (de_frz (de_call (E := E) n__law_names (da_cons (de_call (E := E) n__law_pool (da_cons (de_var 0) (da_cons (de_int 0) da_nil))) (da_cons (de_int 1) (da_cons (de_int 5) da_nil))))))
 (ds_seq (ds_asg (de_frz (de_call (E := E) n__law_many_rows (da_cons (de_call (E := E) n__law_pool (da_cons (de_var 0) (da_cons (de_int 1) da_nil))) (da_cons (de_var 1) da_nil)))))
 (ds_seq (ds_asg (de_frz (de_call (E := E) n__law_many_rows (da_cons (de_call (E := E) n__law_pool (da_cons (de_var 0) (da_cons (de_int 2) da_nil))) (da_cons (de_var 1) da_nil)))))
 (ds_seq (ds_asg (de_frz (de_call (E := E) n__law_ordered (da_cons (de_var 1) (da_cons (de_var 2) da_nil)))))
 (ds_seq (ds_asg (de_frz (de_call (E := E) n__law_ordered (da_cons (de_var 1) (da_cons (de_var 3) da_nil)))))
 (ds_seq (ds_asg (de_cb ok_list (da_cons (de_var 2) da_nil)))
 (ds_seq (ds_asg (de_frz (de_makeG (srv := [.a 0, .a 1, .d (.int 1000000000000)]) n_Roll___init__ (fun _ _ _ => rfl) (.cons (.a 0) (.cons (.a 1) (.cons (.d (dv_int 1000000000000)) .nil))) (fun us ws h1 h2 => match us, ws, h1, h2 with
  | [_, _], [], _, _ => rfl) (da_cons (de_var 1) (da_cons (de_var 6) da_nil)) da_nil)))
 (ds_seq (ds_asg (de_frz (de_makeG (srv := [.a 0, .a 1, .d (.int 1000000000000)]) n_Roll___init__ (fun _ _ _ => rfl) (.cons (.a 0) (.cons (.a 1) (.cons (.d (dv_int 1000000000000)) .nil))) (fun us ws h1 h2 => match us, ws, h1, h2 with
  | [_, _], [], _, _ => rfl) (da_cons (de_var 1) (da_cons (de_cb ok_tuple (da_cons (de_var 3) da_nil)) da_nil)) da_nil)))
 (ds_seq (ds_if (dt_or (dt_not (dt_test (de_call (E := E) (n__law_same 5) (da_cons (de_var 6) (da_cons (de_var 2) da_nil))))) (dt_not (dt_test (de_call (E := E) n__law_yields (da_cons (de_frz (de_makeG (srv := [.a 0, .d (.ref (He.dflAt ("Roll", some "__init__") 0 K)), .d (.int 1000000000000)]) n_Roll___init__ (fun _ _ _ => rfl) (.cons (.a 0) (.cons (.d T.dv_Roll___init___rows) (.cons (.d (dv_int 1000000000000)) .nil))) (fun us ws h1 h2 => match us, ws, h1, h2 with
  | [_], [], _, _ => rfl) (da_cons (de_var 1) da_nil) da_nil)) (da_cons (de_var 1) (da_cons (de_frz (de_lst da_nil)) da_nil)))))))
 (ds_ret (de_bl false))
 ds_next)
 (ds_seq (ds_if (dt_or (dt_not (dt_test (de_call (E := E) n__law_yields (da_cons (de_var 7) (da_cons (de_var 1) (da_cons (de_var 4) da_nil)))))) (dt_not (dt_test (de_call (E := E) n__law_yields (da_cons (de_var 8) (da_cons (de_var 1) (da_cons (de_var 5) da_nil)))))))
 (ds_ret (de_bl false))
 ds_next)
 (ds_seq (ds_if (dt_not (dt_test (de_call (E := E) n__law_yields (da_cons (de_frz (de_makeG (srv := [.a 0, .a 1, .d (.int 1000000000000)]) n_Roll___init__ (fun _ _ _ => rfl) (.cons (.a 0) (.cons (.a 1) (.cons (.d (dv_int 1000000000000)) .nil))) (fun us ws h1 h2 => match us, ws, h1, h2 with
  | [_], [_], _, _ => rfl) (da_cons (de_var 1) da_nil) (da_cons (de_frz (de_revL (de_var 2))) da_nil))) (da_cons (de_var 1) (da_cons (de_var 4) da_nil))))))
 (ds_ret (de_bl false))
 ds_next)
 (ds_seq (ds_if (dt_not (dt_test (de_call (E := E) n__law_yields (da_cons (de_frz (de_makeG (srv := [.a 0, .a 1, .d (.int 1000000000000)]) n_Roll___init__ (fun _ _ _ => rfl) (.cons (.a 0) (.cons (.a 1) (.cons (.d (dv_int 1000000000000)) .nil))) (fun us ws h1 h2 => match us, ws, h1, h2 with
  | [_, _], [], _, _ => rfl) (da_cons (de_var 1) (da_cons (de_frz (de_op ok_add (de_var 2) (de_var 2))) da_nil)) da_nil)) (da_cons (de_var 1) (da_cons (de_frz (de_lc (di_seq (de_var 4)) (dgv_tup (n := 2) (dgv_cons (dgv_name (i := 9) (by simp)) (dgv_cons (dgv_name (i := 10) (by simp)) dgv_nil))) dt_yes (de_tup (da_cons (de_var 9) (da_cons (de_op ok_mul (de_int 2) (de_var 10)) da_nil))))) da_nil))))))
 (ds_ret (de_bl false))
 ds_next)
 (ds_seq (ds_drop (de_mut tyOk_lst ok_app (da_cons (de_tup (da_cons (de_var 1) (da_cons (de_int 5) da_nil))) da_nil)))
 (ds_seq (ds_setI (de_tup (da_cons (de_tup da_nil) (da_cons (de_int 7) da_nil))) (de_int 0))
 (ds_ret (de_andV (de_call (E := E) n__law_yields (da_cons (de_var 7) (da_cons (de_var 1) (da_cons (de_var 4) da_nil)))) (de_call (E := E) n__law_yields (da_cons (de_var 8) (da_cons (de_var 1) (da_cons (de_var 5) da_nil))))))))))))))))))))⟩
end
end Wk

namespace Wk
open PySem PySem.Spec PyProof.Rows L2 TL Dn
theorem lc_inv {dg : D → Ev → Option Ev} {dt : Ev → RE Bool} {de : Ev → RE X} {vs : List Nat} (I : List D → List D → Ev → Prop) (hs : ∀ x xs acc env, I (x :: xs) acc env → (∃ e1 e2 e3 y d, dg x env = some e1 ∧ dt e1 = .ok true e2 ∧ de e2 = .ok y e3 ∧ frz y = some d ∧ fit (acc.length + 1) = true ∧ I xs (acc ++ [d]) (wipeE e3 vs)) ∨ ∃ e1 e2, dg x env = some e1 ∧ dt e1 = .ok false e2 ∧ I xs acc (wipeE e2 vs)) : ∀ xs acc env, I xs acc env → ∃ acc' e', lcGo dg dt de vs xs env acc = .ok acc' e' ∧ I [] acc' e'
  | [], acc, env, h => ⟨acc, env, rfl, h⟩
  | x :: xs, acc, env, h => by
    rcases hs x xs acc env h with ⟨e1, e2, e3, y, d, h1, h2, h3, h4, h5, h6⟩ | ⟨e1, e2, h1, h2, h3⟩
    · obtain ⟨acc', e', j1, j2⟩ := lc_inv I hs xs _ _ h6
      exact ⟨acc', e', by simp [lcGo, h1, h2, h3, h4, h5, j1], j2⟩
    · obtain ⟨acc', e', j1, j2⟩ := lc_inv I hs xs _ _ h3
      exact ⟨acc', e', by simp [lcGo, h1, h2, j1], j2⟩
theorem mix_spec (a c : Int) (ha : a.natAbs < 2 ^ 2000000) (hc : c.natAbs < 2 ^ 2000000) : ∃ r, d__law_mix [.im (.int a), .im (.int c)] = .ok (.im (.int r)) [.im (.int a), .im (.int c)] := by
  have h1 : mulFit a 48271 = true := mulFit_by ha (by decide : (48271 : Int).natAbs < 2 ^ 20) (by decide)
  have h2 : mulFit c 69621 = true := mulFit_by hc (by decide : (69621 : Int).natAbs < 2 ^ 20) (by decide)
  have h3 : mulFit c 16807 = true := mulFit_by hc (by decide : (16807 : Int).natAbs < 2 ^ 20) (by decide)
  have h4 : ∀ x y : Int, mulFit (x % 2147483647) (y % 2147483647) = true := fun x y => mulFit_by (a := 31) (b := 31) (by omega) (by omega) (by decide)
  have h5 : ∀ x y : Int, mulFit (x % 2147483629) (y % 2147483629) = true := fun x y => mulFit_by (a := 31) (b := 31) (by omega) (by omega) (by decide)
  have h6 : ∀ x : Int, mulFit (x % 2147483629) 40692 = true := fun x => mulFit_by (a := 31) (b := 20) (by omega) (by decide) (by decide)
  simp [d__law_mix, b__law_mix, dSeq, dAsg, dAsgG, dDrop, dRet, dIfS, dFor, dBreak, dCont, dNever, dNext, dC, dVar, dOp, dUn, dNil, dCons, dCB, dFrz, dTup, dLst, dNone, dSome, dSl, dTest, dtAnd, dtOr, dtNot, dAndV, dOrV, dNotV, dIf, dChain, dLc, dMut, dMutR, dFz, fzAll, fzE, dSetI, dAug, dM1, dCall, diSeq, diR1, diR2, diEnum, noStr, ofX, enumD, dgName, dgNil, dgCons, dgTup, RE.bind, RE.stm, RS.seq, rd, rds, opt, optS, optE, OD.toD, frz, frzs, setSl, X.slot, setI, slotOf, passX, passXs, slots, temps, wb, wr, hideE, unhide, unhid, RS.map, fnM, finR, backP, retX, Sl.par, pAdd, pSub, pMul, pDiv, pMod, pPow, pNeg, pCmp, pIx, pSl, pRev, pLen, pInt, pTuple, pList, pIsi, pAll, pAny, pSum, pMax, pMin, pAugAdd, mApp, mExt, mIns, mPopAt, mPop, OD.isL, OD.isD, isS, D.isNon, pIsN, pNotN, D.tyN, lcEnd, ixN, dMakeF, makeD, dMakeStar, makeStarD, starA, imsX, dMake0, dFldF, rcvA, recvX, dSetF, putFD, pRevL, dMakeF0, RE.calm, List.lookup, dMethF, callD, dOpS, gInO, RE.bl, gBinO, dUnO, dConF, dCvF, pIsiO, dSupM, dCallI, gOp, freeSl, wipeE, restE, lcGo, forGo, pEq, pNe, pEqB, D.scal, L2.scal, h1, h2, h3, h4, h5, h6]
/-- a pool that drew n times at most -/
def PO (n : Nat) (o : OD) : Prop := ∃ a b c : Int, o = .lst [.int a, .int b, .int c] ∧ b.natAbs < 2 ^ 2000000 ∧ 0 ≤ c ∧ c ≤ n
theorem PO.mono {n m : Nat} {o : OD} (h : PO n o) (k : n ≤ m) : PO m o := by
  obtain ⟨a, b, c, h1, h2, h3, h4⟩ := h
  exact ⟨a, b, c, h1, h2, h3, by omega⟩
theorem small_c {c : Int} {n : Nat} (h : 0 ≤ c) (h' : c ≤ n) (hn : n < 2 ^ 40) : (c + 1).natAbs < 2 ^ 2000000 := by
  have h1 : (c + 1).natAbs < 2 ^ 41 := by omega
  exact Nat.lt_of_lt_of_le h1 (Nat.pow_le_pow_right (by decide) (by decide))
theorem draw_spec {n : Nat} {o : OD} {m : Int} (h : PO n o) (hn : n < 2 ^ 40) (hm : 0 < m) (hm2 : m < 2 ^ 62) : ∃ r o', d__law_draw [.ow true o, .im (.int m)] = .ok (.im (.int r)) [.ow true o', .im (.int m)] ∧ PO (n + 1) o' ∧ 0 ≤ r ∧ r < m := by
  obtain ⟨a, b, c, rfl, h2, h3, h4⟩ := h
  have hl : m.natAbs.log2 < 9000 := by
    have := log2_small (k := 62) (show m.natAbs < 2 ^ 62 by omega)
    omega
  by_cases ha : 0 < a
  · refine ⟨a % m, .lst [.int (a / m), .int b, .int c], ?_, ⟨_, _, _, rfl, h2, h3, by omega⟩, Int.emod_nonneg _ (by omega), Int.emod_lt_of_pos _ hm⟩
    simp [d__law_draw, b__law_draw, dSeq, dAsg, dAsgG, dDrop, dRet, dIfS, dFor, dBreak, dCont, dNever, dNext, dC, dVar, dOp, dUn, dNil, dCons, dCB, dFrz, dTup, dLst, dNone, dSome, dSl, dTest, dtAnd, dtOr, dtNot, dAndV, dOrV, dNotV, dIf, dChain, dLc, dMut, dMutR, dFz, fzAll, fzE, dSetI, dAug, dM1, dCall, diSeq, diR1, diR2, diEnum, noStr, ofX, enumD, dgName, dgNil, dgCons, dgTup, RE.bind, RE.stm, RS.seq, rd, rds, opt, optS, optE, OD.toD, frz, frzs, setSl, X.slot, setI, slotOf, passX, passXs, slots, temps, wb, wr, hideE, unhide, unhid, RS.map, fnM, finR, backP, retX, Sl.par, pAdd, pSub, pMul, pDiv, pMod, pPow, pNeg, pCmp, pIx, pSl, pRev, pLen, pInt, pTuple, pList, pIsi, pAll, pAny, pSum, pMax, pMin, pAugAdd, mApp, mExt, mIns, mPopAt, mPop, OD.isL, OD.isD, isS, D.isNon, pIsN, pNotN, D.tyN, lcEnd, ixN, dMakeF, makeD, dMakeStar, makeStarD, starA, imsX, dMake0, dFldF, rcvA, recvX, dSetF, putFD, pRevL, dMakeF0, RE.calm, List.lookup, dMethF, callD, dOpS, gInO, RE.bl, gBinO, dUnO, dConF, dCvF, pIsiO, dSupM, dCallI, gOp, freeSl, wipeE, restE, lcGo, forGo, pEq, pNe, pEqB, D.scal, L2.scal, atI_i, ha, hm, hl]
  · obtain ⟨r, hr⟩ := mix_spec b (c + 1) h2 (small_c h3 h4 hn)
    refine ⟨r % m, .lst [.int a, .int b, .int (c + 1)], ?_, ⟨_, _, _, rfl, h2, by omega, by omega⟩, Int.emod_nonneg _ (by omega), Int.emod_lt_of_pos _ hm⟩
    simp [d__law_draw, b__law_draw, dSeq, dAsg, dAsgG, dDrop, dRet, dIfS, dFor, dBreak, dCont, dNever, dNext, dC, dVar, dOp, dUn, dNil, dCons, dCB, dFrz, dTup, dLst, dNone, dSome, dSl, dTest, dtAnd, dtOr, dtNot, dAndV, dOrV, dNotV, dIf, dChain, dLc, dMut, dMutR, dFz, fzAll, fzE, dSetI, dAug, dM1, dCall, diSeq, diR1, diR2, diEnum, noStr, ofX, enumD, dgName, dgNil, dgCons, dgTup, RE.bind, RE.stm, RS.seq, rd, rds, opt, optS, optE, OD.toD, frz, frzs, setSl, X.slot, setI, slotOf, passX, passXs, slots, temps, wb, wr, hideE, unhide, unhid, RS.map, fnM, finR, backP, retX, Sl.par, pAdd, pSub, pMul, pDiv, pMod, pPow, pNeg, pCmp, pIx, pSl, pRev, pLen, pInt, pTuple, pList, pIsi, pAll, pAny, pSum, pMax, pMin, pAugAdd, mApp, mExt, mIns, mPopAt, mPop, OD.isL, OD.isD, isS, D.isNon, pIsN, pNotN, D.tyN, lcEnd, ixN, dMakeF, makeD, dMakeStar, makeStarD, starA, imsX, dMake0, dFldF, rcvA, recvX, dSetF, putFD, pRevL, dMakeF0, RE.calm, List.lookup, dMethF, callD, dOpS, gInO, RE.bl, gBinO, dUnO, dConF, dCvF, pIsiO, dSupM, dCallI, gOp, freeSl, wipeE, restE, lcGo, forGo, pEq, pNe, pEqB, D.scal, L2.scal, atI_i, ha, hm, hl, hr]
theorem cell_spec {ns : List Int} (k : Nat) (hk : k < 1000) : d__law_cell [.im (.scr ns), .im (.int k)] = .ok (.im (.int (ns.getD k 0))) [.im (.scr ns), .im (.int k)] := by
  by_cases h : k < ns.length
  · simp [d__law_cell, b__law_cell, dSeq, dAsg, dAsgG, dDrop, dRet, dIfS, dFor, dBreak, dCont, dNever, dNext, dC, dVar, dOp, dUn, dNil, dCons, dCB, dFrz, dTup, dLst, dNone, dSome, dSl, dTest, dtAnd, dtOr, dtNot, dAndV, dOrV, dNotV, dIf, dChain, dLc, dMut, dMutR, dFz, fzAll, fzE, dSetI, dAug, dM1, dCall, diSeq, diR1, diR2, diEnum, noStr, ofX, enumD, dgName, dgNil, dgCons, dgTup, RE.bind, RE.stm, RS.seq, rd, rds, opt, optS, optE, OD.toD, frz, frzs, setSl, X.slot, setI, slotOf, passX, passXs, slots, temps, wb, wr, hideE, unhide, unhid, RS.map, fnM, finR, backP, retX, Sl.par, pAdd, pSub, pMul, pDiv, pMod, pPow, pNeg, pCmp, pIx, pSl, pRev, pLen, pInt, pTuple, pList, pIsi, pAll, pAny, pSum, pMax, pMin, pAugAdd, mApp, mExt, mIns, mPopAt, mPop, OD.isL, OD.isD, isS, D.isNon, pIsN, pNotN, D.tyN, lcEnd, ixN, dMakeF, makeD, dMakeStar, makeStarD, starA, imsX, dMake0, dFldF, rcvA, recvX, dSetF, putFD, pRevL, dMakeF0, RE.calm, List.lookup, dMethF, callD, dOpS, gInO, RE.bl, gBinO, dUnO, dConF, dCvF, pIsiO, dSupM, dCallI, gOp, freeSl, wipeE, restE, lcGo, forGo, pEq, pNe, pEqB, D.scal, L2.scal, atI_i, h]
  · simp [d__law_cell, b__law_cell, dSeq, dAsg, dAsgG, dDrop, dRet, dIfS, dFor, dBreak, dCont, dNever, dNext, dC, dVar, dOp, dUn, dNil, dCons, dCB, dFrz, dTup, dLst, dNone, dSome, dSl, dTest, dtAnd, dtOr, dtNot, dAndV, dOrV, dNotV, dIf, dChain, dLc, dMut, dMutR, dFz, fzAll, fzE, dSetI, dAug, dM1, dCall, diSeq, diR1, diR2, diEnum, noStr, ofX, enumD, dgName, dgNil, dgCons, dgTup, RE.bind, RE.stm, RS.seq, rd, rds, opt, optS, optE, OD.toD, frz, frzs, setSl, X.slot, setI, slotOf, passX, passXs, slots, temps, wb, wr, hideE, unhide, unhid, RS.map, fnM, finR, backP, retX, Sl.par, pAdd, pSub, pMul, pDiv, pMod, pPow, pNeg, pCmp, pIx, pSl, pRev, pLen, pInt, pTuple, pList, pIsi, pAll, pAny, pSum, pMax, pMin, pAugAdd, mApp, mExt, mIns, mPopAt, mPop, OD.isL, OD.isD, isS, D.isNon, pIsN, pNotN, D.tyN, lcEnd, ixN, dMakeF, makeD, dMakeStar, makeStarD, starA, imsX, dMake0, dFldF, rcvA, recvX, dSetF, putFD, pRevL, dMakeF0, RE.calm, List.lookup, dMethF, callD, dOpS, gInO, RE.bl, gBinO, dUnO, dConF, dCvF, pIsiO, dSupM, dCallI, gOp, freeSl, wipeE, restE, lcGo, forGo, pEq, pNe, pEqB, D.scal, L2.scal, atI_i, h]
theorem cell_bits {ns : List Int} (hb : ∀ z ∈ ns, Builtin.Int.intBits z ≤ 1048576) (k : Nat) : (ns.getD k 0).natAbs < 2 ^ 1048576 := by
  rw [List.getD_eq_getElem?_getD]
  cases h : ns[k]? with
  | none => exact Nat.two_pow_pos _
  | some z => exact intBits_le_iff.mp (hb z (List.mem_of_getElem? h))
theorem mul64 {z : Int} {k : Nat} (h : z.natAbs < 2 ^ 1048576) (hk : k < 1000) : (z * 64 + k).natAbs < 2 ^ 2000000 := by
  have e1 : (z * 64 + k).natAbs ≤ z.natAbs * 64 + 1000 := by omega
  have e2 : z.natAbs * 64 + 1000 < 2 ^ 1048600 := by
    have : (2 : Nat) ^ 1048600 = 2 ^ 1048576 * 2 ^ 24 := by rw [← Nat.pow_add]
    rw [this]
    have q : (2 : Nat) ^ 24 = 16777216 := by decide
    rw [q]
    have : 0 < (2 : Nat) ^ 1048576 := Nat.two_pow_pos _
    generalize (2 : Nat) ^ 1048576 = y at *
    omega
  exact Nat.lt_of_le_of_lt e1 (Nat.lt_of_lt_of_le e2 (Nat.pow_le_pow_right (by decide) (by decide)))
theorem pool_spec {ns : List Int} (hb : ∀ z ∈ ns, Builtin.Int.intBits z ≤ 1048576) (k : Nat) (hk : k < 1000) : ∃ o, d__law_pool [.im (.scr ns), .im (.int k)] = .ok (.ow o) [.im (.scr ns), .im (.int k)] ∧ PO 0 o := by
  have h1 := cell_bits hb k
  have h2 : mulFit (ns.getD k 0) 64 = true := mulFit_by h1 (by decide : (64 : Int).natAbs < 2 ^ 20) (by decide)
  have h3 := cell_spec (ns := ns) k hk
  have h4 := mul64 h1 hk
  generalize ns.getD k 0 = z at *
  by_cases hz : 1000000000000000000 ≤ z
  · refine ⟨.lst [.int (z - 1000000000000000000), .int (z * 64 + k), .int 0], ?_, ⟨_, _, _, rfl, h4, by omega, by omega⟩⟩
    simp [d__law_pool, b__law_pool, dSeq, dAsg, dAsgG, dDrop, dRet, dIfS, dFor, dBreak, dCont, dNever, dNext, dC, dVar, dOp, dUn, dNil, dCons, dCB, dFrz, dTup, dLst, dNone, dSome, dSl, dTest, dtAnd, dtOr, dtNot, dAndV, dOrV, dNotV, dIf, dChain, dLc, dMut, dMutR, dFz, fzAll, fzE, dSetI, dAug, dM1, dCall, diSeq, diR1, diR2, diEnum, noStr, ofX, enumD, dgName, dgNil, dgCons, dgTup, RE.bind, RE.stm, RS.seq, rd, rds, opt, optS, optE, OD.toD, frz, frzs, setSl, X.slot, setI, slotOf, passX, passXs, slots, temps, wb, wr, hideE, unhide, unhid, RS.map, fnM, finR, backP, retX, Sl.par, pAdd, pSub, pMul, pDiv, pMod, pPow, pNeg, pCmp, pIx, pSl, pRev, pLen, pInt, pTuple, pList, pIsi, pAll, pAny, pSum, pMax, pMin, pAugAdd, mApp, mExt, mIns, mPopAt, mPop, OD.isL, OD.isD, isS, D.isNon, pIsN, pNotN, D.tyN, lcEnd, ixN, dMakeF, makeD, dMakeStar, makeStarD, starA, imsX, dMake0, dFldF, rcvA, recvX, dSetF, putFD, pRevL, dMakeF0, RE.calm, List.lookup, dMethF, callD, dOpS, gInO, RE.bl, gBinO, dUnO, dConF, dCvF, pIsiO, dSupM, dCallI, gOp, freeSl, wipeE, restE, lcGo, forGo, pEq, pNe, pEqB, D.scal, L2.scal, h2, h3, hz, fit_s]
  · refine ⟨.lst [.int 0, .int (z * 64 + k), .int 0], ?_, ⟨_, _, _, rfl, h4, by omega, by omega⟩⟩
    simp [d__law_pool, b__law_pool, dSeq, dAsg, dAsgG, dDrop, dRet, dIfS, dFor, dBreak, dCont, dNever, dNext, dC, dVar, dOp, dUn, dNil, dCons, dCB, dFrz, dTup, dLst, dNone, dSome, dSl, dTest, dtAnd, dtOr, dtNot, dAndV, dOrV, dNotV, dIf, dChain, dLc, dMut, dMutR, dFz, fzAll, fzE, dSetI, dAug, dM1, dCall, diSeq, diR1, diR2, diEnum, noStr, ofX, enumD, dgName, dgNil, dgCons, dgTup, RE.bind, RE.stm, RS.seq, rd, rds, opt, optS, optE, OD.toD, frz, frzs, setSl, X.slot, setI, slotOf, passX, passXs, slots, temps, wb, wr, hideE, unhide, unhid, RS.map, fnM, finR, backP, retX, Sl.par, pAdd, pSub, pMul, pDiv, pMod, pPow, pNeg, pCmp, pIx, pSl, pRev, pLen, pInt, pTuple, pList, pIsi, pAll, pAny, pSum, pMax, pMin, pAugAdd, mApp, mExt, mIns, mPopAt, mPop, OD.isL, OD.isD, isS, D.isNon, pIsN, pNotN, D.tyN, lcEnd, ixN, dMakeF, makeD, dMakeStar, makeStarD, starA, imsX, dMake0, dFldF, rcvA, recvX, dSetF, putFD, pRevL, dMakeF0, RE.calm, List.lookup, dMethF, callD, dOpS, gInO, RE.bl, gBinO, dUnO, dConF, dCvF, pIsiO, dSupM, dCallI, gOp, freeSl, wipeE, restE, lcGo, forGo, pEq, pNe, pEqB, D.scal, L2.scal, h2, h3, hz, fit_s]
theorem pool_int {ns : List Int} (hb : ∀ z ∈ ns, Builtin.Int.intBits z ≤ 1048576) {k : Int} (hk : 0 ≤ k) (hk2 : k < 1000) : ∃ o, d__law_pool [.im (.scr ns), .im (.int k)] = .ok (.ow o) [.im (.scr ns), .im (.int k)] ∧ PO 0 o := by
  obtain ⟨o, h1, h2⟩ := pool_spec hb k.toNat (by omega)
  have e : ((k.toNat : Nat) : Int) = k := by omega
  rw [e] at h1
  exact ⟨o, h1, h2⟩
theorem letter_spec {n : Nat} {o : OD} (h : PO n o) (hn : n < 2 ^ 40) : ∃ r o' c, d__law_draw [.ow true o, .im (.int 26)] = .ok (.im (.int r)) [.ow true o', .im (.int 26)] ∧ PO (n + 1) o' ∧ pIx (.str "abcdefghijklmnopqrstuvwxyz") (.int r) = some (.im (.str ⟨#[c]⟩)) ∧ 97 ≤ c ∧ c ≤ 122 := by
  obtain ⟨r, o', h1, h2, h3, h4⟩ := draw_spec h hn (m := 26) (by decide) (by decide)
  obtain ⟨c, h5, h6, h7⟩ := al_at h3 h4
  exact ⟨r, o', c, h1, h2, h5, h6, h7⟩
theorem letters_go (sh sz : Int) : ∀ (xs : List D) (n : Nat) (o : OD) (s4 : Sl) (acc : List D), PO n o → n + xs.length < 2 ^ 40 → acc.length + xs.length ≤ 100000 → (s4 = .no ∨ ∃ d, s4 = .im d) →
    ∃ (o' : OD) (ws : List Str) (s4' : Sl), lcGo (dgName 4) (fun env => .ok true env) c__law_word_E1 [4] xs [.ow true o, .im (.str "abcdefghijklmnopqrstuvwxyz"), .im (.int sh), .im (.int sz), s4] acc = .ok (acc ++ ws.map D.str) [.ow true o', .im (.str "abcdefghijklmnopqrstuvwxyz"), .im (.int sh), .im (.int sz), s4'] ∧ PO (n + xs.length) o' ∧ ws.length = xs.length ∧ ∀ w ∈ ws, w.length = 1 ∧ LowS w := by
  intro xs
  induction xs with
  | nil =>
    intro n o s4 acc h hn hl hs
    exact ⟨o, [], s4, by simp [lcGo], h, rfl, by simp⟩
  | cons x xs ih =>
    intro n o s4 acc h hn hl hs
    have hn' : n + xs.length + 1 < 2 ^ 40 := by simpa [Nat.add_assoc] using hn
    have hl' : acc.length + xs.length + 1 ≤ 100000 := by simpa [Nat.add_assoc] using hl
    have hf : fit (acc.length + 1) = true := fit_s (by omega)
    obtain ⟨r, o1, c, h1, h2, h3, h4, h5⟩ := letter_spec h (by omega)
    obtain ⟨o', ws, s4', e1, e2, e3, e4⟩ := ih (n + 1) o1 (.no) (acc ++ [.str ⟨#[c]⟩]) h2 (by omega) (by simp; omega) (.inl rfl)
    refine ⟨o', ⟨#[c]⟩ :: ws, s4', ?_, e2.mono (by simp; omega), by simp [e3], ?_⟩
    · have hE : ∀ d, c__law_word_E1 [.ow true o, .im (.str "abcdefghijklmnopqrstuvwxyz"), .im (.int sh), .im (.int sz), .im d] = .ok (.im (.str ⟨#[c]⟩)) [.ow true o1, .im (.str "abcdefghijklmnopqrstuvwxyz"), .im (.int sh), .im (.int sz), .im d] := fun d => by
        simp [c__law_word_E1, dSeq, dAsg, dAsgG, dDrop, dRet, dIfS, dFor, dBreak, dCont, dNever, dNext, dC, dVar, dOp, dUn, dNil, dCons, dCB, dFrz, dTup, dLst, dNone, dSome, dSl, dTest, dtAnd, dtOr, dtNot, dAndV, dOrV, dNotV, dIf, dChain, dLc, dMut, dMutR, dFz, fzAll, fzE, dSetI, dAug, dM1, dCall, diSeq, diR1, diR2, diEnum, noStr, ofX, enumD, dgName, dgNil, dgCons, dgTup, RE.bind, RE.stm, RS.seq, rd, rds, opt, optS, optE, OD.toD, frz, frzs, setSl, X.slot, setI, slotOf, passX, passXs, slots, temps, wb, wr, hideE, unhide, unhid, RS.map, fnM, finR, backP, retX, Sl.par, pAdd, pSub, pMul, pDiv, pMod, pPow, pNeg, pCmp, pSl, pRev, pLen, pInt, pTuple, pList, pIsi, pAll, pAny, pSum, pMax, pMin, pAugAdd, mApp, mExt, mIns, mPopAt, mPop, OD.isL, OD.isD, isS, D.isNon, pIsN, pNotN, D.tyN, lcEnd, ixN, dMakeF, makeD, dMakeStar, makeStarD, starA, imsX, dMake0, dFldF, rcvA, recvX, dSetF, putFD, pRevL, dMakeF0, RE.calm, List.lookup, dMethF, callD, dOpS, gInO, RE.bl, gBinO, dUnO, dConF, dCvF, pIsiO, dSupM, dCallI, gOp, freeSl, wipeE, restE, lcGo, forGo, pEq, pNe, pEqB, D.scal, L2.scal, h1, h3]
      rcases hs with rfl | ⟨d, rfl⟩ <;> simp [lcGo, dgName, setSl, X.slot, hE, frz, hf, wipeE, e1]
    · intro w hw
      rcases List.mem_cons.mp hw with rfl | hw
      · exact ⟨rfl, one_low h4 h5⟩
      · exact e4 w hw
theorem WordS.one {c : Nat} (h : 97 ≤ c) (h' : c ≤ 122) : WordS ⟨#[c]⟩ := ⟨Nat.le_refl 1, by show 1 ≤ 12; omega, one_low h h'⟩
theorem word_spec {n : Nat} {o : OD} (h : PO n o) (hn : n + 20 < 2 ^ 40) : ∃ w o', d__law_word [.ow true o] = .ok (.im (.str w)) [.ow true o'] ∧ PO (n + 15) o' ∧ WordS w := by
  obtain ⟨sh, o1, a1, a2, a3, a4⟩ := draw_spec h (by omega) (m := 4) (by decide) (by decide)
  obtain ⟨r1, o2, c1, b1, b2, b3, b4, b5⟩ := letter_spec a2 (by omega)
  by_cases s0 : sh = 0
  · subst s0
    exact ⟨⟨#[c1]⟩, o2, by simp [d__law_word, b__law_word, dSeq, dAsg, dAsgG, dDrop, dRet, dIfS, dFor, dBreak, dCont, dNever, dNext, dC, dVar, dOp, dUn, dNil, dCons, dCB, dFrz, dTup, dLst, dNone, dSome, dSl, dTest, dtAnd, dtOr, dtNot, dAndV, dOrV, dNotV, dIf, dChain, dLc, dMut, dMutR, dFz, fzAll, fzE, dSetI, dAug, dM1, dCall, diSeq, diR1, diR2, diEnum, noStr, ofX, enumD, dgName, dgNil, dgCons, dgTup, RE.bind, RE.stm, RS.seq, rd, rds, opt, optS, optE, OD.toD, frz, frzs, setSl, X.slot, setI, slotOf, passX, passXs, slots, temps, wb, wr, hideE, unhide, unhid, RS.map, fnM, finR, backP, retX, Sl.par, pAdd, pSub, pMul, pDiv, pMod, pPow, pNeg, pCmp, pSl, pRev, pLen, pInt, pTuple, pList, pIsi, pAll, pAny, pSum, pMax, pMin, pAugAdd, mApp, mExt, mIns, mPopAt, mPop, OD.isL, OD.isD, isS, D.isNon, pIsN, pNotN, D.tyN, lcEnd, ixN, dMakeF, makeD, dMakeStar, makeStarD, starA, imsX, dMake0, dFldF, rcvA, recvX, dSetF, putFD, pRevL, dMakeF0, RE.calm, List.lookup, dMethF, callD, dOpS, gInO, RE.bl, gBinO, dUnO, dConF, dCvF, pIsiO, dSupM, dCallI, gOp, freeSl, wipeE, restE, lcGo, forGo, pEq, pNe, pEqB, D.scal, L2.scal, a1, b1, b3], b2.mono (by omega), WordS.one b4 b5⟩
  obtain ⟨sz, o3, d1, d2, d3, d4⟩ := draw_spec a2 (by omega) (m := 12) (by decide) (by decide)
  obtain ⟨r2, o4, c2, e1, e2, e3, e4, e5⟩ := letter_spec d2 (by omega)
  have hr : ∀ z : Str, z.length = 1 → (repS z sz.toNat).length = sz.toNat := fun z hz => by rw [repS_len, hz]; omega
  have l1 : (⟨#[c2]⟩ : Str).length = 1 := rfl
  have la : ("a" : Str).length = 1 := rfl
  have lz : ("z" : Str).length = 1 := rfl
  have wa : LowS "a" := fun c hc => by
    have : ("a" : Str).cps.toList = [97] := rfl
    rw [this] at hc
    simp at hc
    omega
  have wz : LowS "z" := fun c hc => by
    have : ("z" : Str).cps.toList = [122] := rfl
    rw [this] at hc
    simp at hc
    omega
  have hsz : 1 + sz - 1 = sz := by omega
  by_cases s1 : sh = 1
  · subst s1
    have q : sz ≤ 1000 := by omega
    have f1 : fit ((repS "a" sz.toNat).length + (⟨#[c2]⟩ : Str).length) = true := by rw [hr _ la, l1]; exact fit_s (by omega)
    refine ⟨repS "a" sz.toNat ++ ⟨#[c2]⟩, o4, ?_, e2.mono (by omega), ?_, ?_, (wa.rep _).app (one_low e4 e5)⟩
    · simp [d__law_word, b__law_word, dSeq, dAsg, dAsgG, dDrop, dRet, dIfS, dFor, dBreak, dCont, dNever, dNext, dC, dVar, dOp, dUn, dNil, dCons, dCB, dFrz, dTup, dLst, dNone, dSome, dSl, dTest, dtAnd, dtOr, dtNot, dAndV, dOrV, dNotV, dIf, dChain, dLc, dMut, dMutR, dFz, fzAll, fzE, dSetI, dAug, dM1, dCall, diSeq, diR1, diR2, diEnum, noStr, ofX, enumD, dgName, dgNil, dgCons, dgTup, RE.bind, RE.stm, RS.seq, rd, rds, opt, optS, optE, OD.toD, frz, frzs, setSl, X.slot, setI, slotOf, passX, passXs, slots, temps, wb, wr, hideE, unhide, unhid, RS.map, fnM, finR, backP, retX, Sl.par, pAdd, pSub, pMul, pDiv, pMod, pPow, pNeg, pCmp, pSl, pRev, pLen, pInt, pTuple, pList, pIsi, pAll, pAny, pSum, pMax, pMin, pAugAdd, mApp, mExt, mIns, mPopAt, mPop, OD.isL, OD.isD, isS, D.isNon, pIsN, pNotN, D.tyN, lcEnd, ixN, dMakeF, makeD, dMakeStar, makeStarD, starA, imsX, dMake0, dFldF, rcvA, recvX, dSetF, putFD, pRevL, dMakeF0, RE.calm, List.lookup, dMethF, callD, dOpS, gInO, RE.bl, gBinO, dUnO, dConF, dCvF, pIsiO, dSupM, dCallI, gOp, freeSl, wipeE, restE, lcGo, forGo, pEq, pNe, pEqB, D.scal, L2.scal, a1, d1, e1, e3, d3, q, f1, la, hsz]
    · rw [app_len, hr _ la, l1]; omega
    · rw [app_len, hr _ la, l1]; omega
  by_cases s2 : sh = 2
  · subst s2
    have q : sz ≤ 1000 := by omega
    have f1 : fit ((⟨#[c2]⟩ : Str).length + (repS "z" sz.toNat).length) = true := by rw [hr _ lz, l1]; exact fit_s (by omega)
    refine ⟨⟨#[c2]⟩ ++ repS "z" sz.toNat, o4, ?_, e2.mono (by omega), ?_, ?_, (one_low e4 e5).app (wz.rep _)⟩
    · simp [d__law_word, b__law_word, dSeq, dAsg, dAsgG, dDrop, dRet, dIfS, dFor, dBreak, dCont, dNever, dNext, dC, dVar, dOp, dUn, dNil, dCons, dCB, dFrz, dTup, dLst, dNone, dSome, dSl, dTest, dtAnd, dtOr, dtNot, dAndV, dOrV, dNotV, dIf, dChain, dLc, dMut, dMutR, dFz, fzAll, fzE, dSetI, dAug, dM1, dCall, diSeq, diR1, diR2, diEnum, noStr, ofX, enumD, dgName, dgNil, dgCons, dgTup, RE.bind, RE.stm, RS.seq, rd, rds, opt, optS, optE, OD.toD, frz, frzs, setSl, X.slot, setI, slotOf, passX, passXs, slots, temps, wb, wr, hideE, unhide, unhid, RS.map, fnM, finR, backP, retX, Sl.par, pAdd, pSub, pMul, pDiv, pMod, pPow, pNeg, pCmp, pSl, pRev, pLen, pInt, pTuple, pList, pIsi, pAll, pAny, pSum, pMax, pMin, pAugAdd, mApp, mExt, mIns, mPopAt, mPop, OD.isL, OD.isD, isS, D.isNon, pIsN, pNotN, D.tyN, lcEnd, ixN, dMakeF, makeD, dMakeStar, makeStarD, starA, imsX, dMake0, dFldF, rcvA, recvX, dSetF, putFD, pRevL, dMakeF0, RE.calm, List.lookup, dMethF, callD, dOpS, gInO, RE.bl, gBinO, dUnO, dConF, dCvF, pIsiO, dSupM, dCallI, gOp, freeSl, wipeE, restE, lcGo, forGo, pEq, pNe, pEqB, D.scal, L2.scal, a1, d1, e1, e3, d3, q, f1, lz, hsz]
    · rw [app_len, hr _ lz, l1]; omega
    · rw [app_len, hr _ lz, l1]; omega
  have hlen : (rgD 0 (1 + sz).toNat).length = (1 + sz).toNat := by unfold rgD; simp
  obtain ⟨o5, ws, s4, g1, g2, g3, g4⟩ := letters_go sh (1 + sz) (rgD 0 (1 + sz).toNat) (n + 2) o3 .no [] (d2.mono (by omega)) (by rw [hlen]; omega) (by rw [hlen]; simp; omega) (.inl rfl)
  have w1 : ∀ w ∈ ws, w.length = 1 := fun w hw => (g4 w hw).1
  have hl2 : ws.length = (1 + sz).toNat := g3.trans hlen
  have hj : fit ws.length = true := fit_s (by omega)
  have q1 : rgOk (1 + sz) = true := rgOk_s (by omega) (by omega)
  refine ⟨Txt.join "" ws, o5, ?_, g2.mono (by rw [hlen]; omega), ?_, ?_, joinE_low ws fun w hw => (g4 w hw).2⟩
  · have e0 : ("" : Str).length = 0 := rfl
    simp only [List.nil_append] at g1
    simp [d__law_word, b__law_word, dSeq, dAsg, dAsgG, dDrop, dRet, dIfS, dFor, dBreak, dCont, dNever, dNext, dC, dVar, dOp, dUn, dNil, dCons, dCB, dFrz, dTup, dLst, dNone, dSome, dSl, dTest, dtAnd, dtOr, dtNot, dAndV, dOrV, dNotV, dIf, dChain, dLc, dMut, dMutR, dFz, fzAll, fzE, dSetI, dAug, dM1, dCall, diSeq, diR1, diR2, diEnum, noStr, ofX, enumD, dgName, dgNil, dgCons, dgTup, RE.bind, RE.stm, RS.seq, rd, rds, opt, optS, optE, OD.toD, frz, frzs, setSl, X.slot, setI, slotOf, passX, passXs, slots, temps, wb, wr, hideE, unhide, unhid, RS.map, fnM, finR, backP, retX, Sl.par, pAdd, pSub, pMul, pDiv, pMod, pPow, pNeg, pCmp, pSl, pRev, pLen, pInt, pTuple, pList, pIsi, pAll, pAny, pSum, pMax, pMin, pAugAdd, mApp, mExt, mIns, mPopAt, mPop, OD.isL, OD.isD, isS, D.isNon, pIsN, pNotN, D.tyN, lcEnd, ixN, dMakeF, makeD, dMakeStar, makeStarD, starA, imsX, dMake0, dFldF, rcvA, recvX, dSetF, putFD, pRevL, dMakeF0, RE.calm, List.lookup, dMethF, callD, dOpS, gInO, RE.bl, gBinO, dUnO, dConF, dCvF, pIsiO, dSupM, dCallI, gOp, freeSl, wipeE, restE, forGo, pEq, pNe, pEqB, D.scal, L2.scal, a1, d1, s0, s1, s2, q1, g1, textsD_map, pJoin, e0, ones_sum ws w1, hj]
  · rw [joinE_len ws w1]; omega
  · rw [joinE_len ws w1]; omega
end Wk

namespace Wk
open PySem PySem.Spec PyProof.Rows L2 TL Dn
def Fr (s : Sl) : Prop := s = .no ∨ ∃ d, s = .im d
abbrev SP : List Str := ["a", "b", "c", "d", "e"]
theorem sp_word : ∀ w ∈ SP, WordS w := by
  have key : ∀ (w : Str) (c : Nat), w.cps = #[c] → 97 ≤ c → c ≤ 122 → WordS w := fun w c e h h' => by
    have : w = ⟨#[c]⟩ := by cases w; simp at e; rw [e]
    rw [this]
    exact WordS.one h h'
  intro w hw
  simp at hw
  rcases hw with rfl | rfl | rfl | rfl | rfl
  · exact key _ 97 rfl (by decide) (by decide)
  · exact key _ 98 rfl (by decide) (by decide)
  · exact key _ 99 rfl (by decide) (by decide)
  · exact key _ 100 rfl (by decide) (by decide)
  · exact key _ 101 rfl (by decide) (by decide)
theorem sp_nodup : SP.Nodup := by decide +kernel
theorem spare_spec (ns : List Str) (h : ns.length ≤ 4) : ∃ w r, SP.filter (fun s => !decide (s ∈ ns)) = w :: r ∧ w ∉ ns ∧ WordS w := by
  cases e : SP.filter (fun s => !decide (s ∈ ns)) with
  | nil =>
    have hp := pigeon SP ns sp_nodup fun x hx => by
      have := List.filter_eq_nil_iff.mp e x hx
      simpa using this
    have : SP.length = 5 := rfl
    omega
  | cons w r =>
    have hw : w ∈ SP.filter (fun s => !decide (s ∈ ns)) := by rw [e]; simp
    have := List.mem_filter.mp hw
    exact ⟨w, r, rfl, by simpa using this.2, sp_word w this.1⟩
def NamesI (n T : Nat) (lo hi : Int) (xs : List D) (env : Ev) : Prop := ∃ (o : OD) (ns : List Str) (s4 s5 : Sl), env = [.ow true o, .im (.int lo), .im (.int hi), .ow false (.lst (ns.map D.str)), s4, s5, .no] ∧ PO (n + 15 * (T - xs.length)) o ∧ xs.length + ns.length = T ∧ Fr s4 ∧ Fr s5 ∧ (∀ w ∈ ns, WordS w) ∧ ns.Nodup
theorem names_L1 {n T : Nat} (hn : n + 15 * T + 40 < 2 ^ 40) (hT : T ≤ 5) (lo hi : Int) : ∀ xs env, NamesI n T lo hi xs env → ∃ e', forGo (dgName 4) b__law_names_L1 xs env = .nx e' ∧ NamesI n T lo hi [] e' := by
  refine for_nx (NamesI n T lo hi) ?_
  rintro x xs env ⟨o, ns, s4, s5, rfl, hP, hl, h4, h5, hw, hd⟩
  simp at hl
  obtain ⟨w, o1, a1, a2, a3⟩ := word_spec hP (by omega)
  have hg : dgName 4 x [.ow true o, .im (.int lo), .im (.int hi), .ow false (.lst (ns.map D.str)), s4, s5, .no] = some [.ow true o, .im (.int lo), .im (.int hi), .ow false (.lst (ns.map D.str)), .im x, s5, .no] := by
    rcases h4 with rfl | ⟨d, rfl⟩ <;> simp [dSeq, dAsg, dAsgG, dDrop, dRet, dIfS, dFor, dBreak, dCont, dNever, dNext, dC, dVar, dOp, dUn, dNil, dCons, dCB, dFrz, dTup, dLst, dNone, dSome, dSl, dTest, dtAnd, dtOr, dtNot, dAndV, dOrV, dNotV, dIf, dChain, dLc, dMut, dMutR, dFz, fzAll, fzE, dSetI, dAug, dM1, dCall, diSeq, diR1, diR2, diEnum, noStr, ofX, enumD, dgName, dgNil, dgCons, dgTup, RE.bind, RE.stm, RS.seq, rd, rds, opt, optS, optE, OD.toD, frz, frzs, setSl, X.slot, setI, slotOf, passX, passXs, slots, temps, wb, wr, hideE, unhide, unhid, RS.map, fnM, finR, backP, retX, Sl.par, pAdd, pSub, pMul, pDiv, pMod, pPow, pNeg, pCmp, pIx, pSl, pRev, pLen, pInt, pTuple, pList, pIsi, pAll, pAny, pSum, pMax, pMin, pAugAdd, mApp, mExt, mIns, mPopAt, mPop, OD.isL, OD.isD, isS, D.isNon, pIsN, pNotN, D.tyN, lcEnd, ixN, dMakeF, makeD, dMakeStar, makeStarD, starA, imsX, dMake0, dFldF, rcvA, recvX, dSetF, putFD, pRevL, dMakeF0, RE.calm, List.lookup, dMethF, callD, dOpS, gInO, RE.bl, gBinO, dUnO, dConF, dCvF, pIsiO, dSupM, dCallI, gOp, freeSl, wipeE, restE, lcGo, forGo, pEq, pNe, pEqB, D.scal, L2.scal]
  have hf : fit (ns.length + 1) = true := fit_s (by omega)
  have hm : PO (n + 15 * (T - xs.length)) o1 := a2.mono (by simp; omega)
  by_cases hin : w ∈ ns
  · obtain ⟨w2, r, q1, q2, q3⟩ := spare_spec ns (by omega)
    have hc : lcGo (dgName 6) c__law_names_T1 c__law_names_E1 [6] (SP.map D.str) [.ow true o1, .im (.int lo), .im (.int hi), .ow false (.lst (ns.map D.str)), .im x, .im (.str w), .no] [] = .ok ((w2 :: r).map D.str) [.ow true o1, .im (.int lo), .im (.int hi), .ow false (.lst (ns.map D.str)), .im x, .im (.str w), .no] := by
      rw [lc_pure (fun d => match d with | .str s => !decide (s ∈ ns) | _ => false) id (SP.map D.str) [] ?_ (by simp)]
      · rw [← q1]
        simp only [List.nil_append, List.map_id, List.filter_map]
        rfl
      · intro d hd
        obtain ⟨s, hs, rfl⟩ := List.mem_map.mp hd
        exact ⟨_, by simp [dSeq, dAsg, dAsgG, dDrop, dRet, dIfS, dFor, dBreak, dCont, dNever, dNext, dC, dVar, dOp, dUn, dNil, dCons, dCB, dFrz, dTup, dLst, dNone, dSome, dSl, dTest, dtAnd, dtOr, dtNot, dAndV, dOrV, dNotV, dIf, dChain, dLc, dMut, dMutR, dFz, fzAll, fzE, dSetI, dAug, dM1, dCall, diSeq, diR1, diR2, diEnum, noStr, ofX, enumD, dgName, dgNil, dgCons, dgTup, RE.bind, RE.stm, RS.seq, rd, rds, opt, optS, optE, OD.toD, frz, frzs, setSl, X.slot, setI, slotOf, passX, passXs, slots, temps, wb, wr, hideE, unhide, unhid, RS.map, fnM, finR, backP, retX, Sl.par, pAdd, pSub, pMul, pDiv, pMod, pPow, pNeg, pCmp, pIx, pSl, pRev, pLen, pInt, pTuple, pList, pIsi, pAll, pAny, pSum, pMax, pMin, pAugAdd, mApp, mExt, mIns, mPopAt, mPop, OD.isL, OD.isD, isS, D.isNon, pIsN, pNotN, D.tyN, lcEnd, ixN, dMakeF, makeD, dMakeStar, makeStarD, starA, imsX, dMake0, dFldF, rcvA, recvX, dSetF, putFD, pRevL, dMakeF0, RE.calm, List.lookup, dMethF, callD, dOpS, gInO, RE.bl, gBinO, dUnO, dConF, dCvF, pIsiO, dSupM, dCallI, gOp, freeSl, wipeE, restE, lcGo, forGo, pEq, pNe, pEqB, D.scal, L2.scal]; rfl, by simp [c__law_names_T1, dSeq, dAsg, dAsgG, dDrop, dRet, dIfS, dFor, dBreak, dCont, dNever, dNext, dC, dVar, dOp, dUn, dNil, dCons, dCB, dFrz, dTup, dLst, dNone, dSome, dSl, dTest, dtAnd, dtOr, dtNot, dAndV, dOrV, dNotV, dIf, dChain, dLc, dMut, dMutR, dFz, fzAll, fzE, dSetI, dAug, dM1, dCall, diSeq, diR1, diR2, diEnum, noStr, ofX, enumD, dgName, dgNil, dgCons, dgTup, RE.bind, RE.stm, RS.seq, rd, rds, opt, optS, optE, OD.toD, frz, frzs, setSl, X.slot, setI, slotOf, passX, passXs, slots, temps, wb, wr, hideE, unhide, unhid, RS.map, fnM, finR, backP, retX, Sl.par, pAdd, pSub, pMul, pDiv, pMod, pPow, pNeg, pCmp, pIx, pSl, pRev, pLen, pInt, pTuple, pList, pIsi, pAll, pAny, pSum, pMax, pMin, pAugAdd, mApp, mExt, mIns, mPopAt, mPop, OD.isL, OD.isD, isS, D.isNon, pIsN, pNotN, D.tyN, lcEnd, ixN, dMakeF, makeD, dMakeStar, makeStarD, starA, imsX, dMake0, dFldF, rcvA, recvX, dSetF, putFD, pRevL, dMakeF0, RE.calm, List.lookup, dMethF, callD, dOpS, gInO, RE.bl, gBinO, dUnO, dConF, dCvF, pIsiO, dSupM, dCallI, gOp, freeSl, wipeE, restE, lcGo, forGo, pEq, pNe, pEqB, D.scal, L2.scal, notIn_lst], fun _ => by simp [c__law_names_E1, dSeq, dAsg, dAsgG, dDrop, dRet, dIfS, dFor, dBreak, dCont, dNever, dNext, dC, dVar, dOp, dUn, dNil, dCons, dCB, dFrz, dTup, dLst, dNone, dSome, dSl, dTest, dtAnd, dtOr, dtNot, dAndV, dOrV, dNotV, dIf, dChain, dLc, dMut, dMutR, dFz, fzAll, fzE, dSetI, dAug, dM1, dCall, diSeq, diR1, diR2, diEnum, noStr, ofX, enumD, dgName, dgNil, dgCons, dgTup, RE.bind, RE.stm, RS.seq, rd, rds, opt, optS, optE, OD.toD, frz, frzs, setSl, X.slot, setI, slotOf, passX, passXs, slots, temps, wb, wr, hideE, unhide, unhid, RS.map, fnM, finR, backP, retX, Sl.par, pAdd, pSub, pMul, pDiv, pMod, pPow, pNeg, pCmp, pIx, pSl, pRev, pLen, pInt, pTuple, pList, pIsi, pAll, pAny, pSum, pMax, pMin, pAugAdd, mApp, mExt, mIns, mPopAt, mPop, OD.isL, OD.isD, isS, D.isNon, pIsN, pNotN, D.tyN, lcEnd, ixN, dMakeF, makeD, dMakeStar, makeStarD, starA, imsX, dMake0, dFldF, rcvA, recvX, dSetF, putFD, pRevL, dMakeF0, RE.calm, List.lookup, dMethF, callD, dOpS, gInO, RE.bl, gBinO, dUnO, dConF, dCvF, pIsiO, dSupM, dCallI, gOp, freeSl, wipeE, restE, lcGo, forGo, pEq, pNe, pEqB, D.scal, L2.scal], by simp [wipeE]⟩
    simp only [SP, List.map_cons, List.map_nil] at hc
    refine ⟨_, _, hg, .inl ?_, o1, ns ++ [w2], .im x, .im (.str w2), rfl, hm, by simp; omega, .inr ⟨_, rfl⟩, .inr ⟨_, rfl⟩, ?_, ?_⟩
    · rcases h5 with rfl | ⟨d, rfl⟩ <;> simp [b__law_names_L1, dSeq, dAsg, dAsgG, dDrop, dRet, dIfS, dFor, dBreak, dCont, dNever, dNext, dC, dVar, dOp, dUn, dNil, dCons, dCB, dFrz, dTup, dLst, dNone, dSome, dSl, dTest, dtAnd, dtOr, dtNot, dAndV, dOrV, dNotV, dIf, dChain, dLc, dMut, dMutR, dFz, fzAll, fzE, dSetI, dAug, dM1, dCall, diSeq, diR1, diR2, diEnum, noStr, ofX, enumD, dgName, dgNil, dgCons, dgTup, RE.bind, RE.stm, RS.seq, rd, rds, opt, optS, optE, OD.toD, frz, frzs, setSl, X.slot, setI, slotOf, passX, passXs, slots, temps, wb, wr, hideE, unhide, unhid, RS.map, fnM, finR, backP, retX, Sl.par, pAdd, pSub, pMul, pDiv, pMod, pPow, pNeg, pCmp, pIx, pSl, pRev, pLen, pInt, pTuple, pList, pIsi, pAll, pAny, pSum, pMax, pMin, pAugAdd, mApp, mExt, mIns, mPopAt, mPop, OD.isL, OD.isD, isS, D.isNon, pIsN, pNotN, D.tyN, lcEnd, ixN, dMakeF, makeD, dMakeStar, makeStarD, starA, imsX, dMake0, dFldF, rcvA, recvX, dSetF, putFD, pRevL, dMakeF0, RE.calm, List.lookup, dMethF, callD, dOpS, gInO, RE.bl, gBinO, dUnO, dConF, dCvF, pIsiO, dSupM, dCallI, gOp, freeSl, wipeE, restE, forGo, pEq, pNe, pEqB, D.scal, L2.scal, a1, in_lst, hin, hc, hf, fit_s, atI_i]
    · intro v hv
      rcases List.mem_append.mp hv with hv | hv
      · exact hw v hv
      · simp at hv; subst hv; exact q3
    · rw [List.nodup_append]
      exact ⟨hd, by simp, fun a ha b hb => by simp at hb; subst hb; intro z; subst z; exact q2 ha⟩
  · refine ⟨_, _, hg, .inl ?_, o1, ns ++ [w], .im x, .im (.str w), rfl, hm, by simp; omega, .inr ⟨_, rfl⟩, .inr ⟨_, rfl⟩, ?_, ?_⟩
    · rcases h5 with rfl | ⟨d, rfl⟩ <;> simp [b__law_names_L1, dSeq, dAsg, dAsgG, dDrop, dRet, dIfS, dFor, dBreak, dCont, dNever, dNext, dC, dVar, dOp, dUn, dNil, dCons, dCB, dFrz, dTup, dLst, dNone, dSome, dSl, dTest, dtAnd, dtOr, dtNot, dAndV, dOrV, dNotV, dIf, dChain, dLc, dMut, dMutR, dFz, fzAll, fzE, dSetI, dAug, dM1, dCall, diSeq, diR1, diR2, diEnum, noStr, ofX, enumD, dgName, dgNil, dgCons, dgTup, RE.bind, RE.stm, RS.seq, rd, rds, opt, optS, optE, OD.toD, frz, frzs, setSl, X.slot, setI, slotOf, passX, passXs, slots, temps, wb, wr, hideE, unhide, unhid, RS.map, fnM, finR, backP, retX, Sl.par, pAdd, pSub, pMul, pDiv, pMod, pPow, pNeg, pCmp, pIx, pSl, pRev, pLen, pInt, pTuple, pList, pIsi, pAll, pAny, pSum, pMax, pMin, pAugAdd, mApp, mExt, mIns, mPopAt, mPop, OD.isL, OD.isD, isS, D.isNon, pIsN, pNotN, D.tyN, lcEnd, ixN, dMakeF, makeD, dMakeStar, makeStarD, starA, imsX, dMake0, dFldF, rcvA, recvX, dSetF, putFD, pRevL, dMakeF0, RE.calm, List.lookup, dMethF, callD, dOpS, gInO, RE.bl, gBinO, dUnO, dConF, dCvF, pIsiO, dSupM, dCallI, gOp, freeSl, wipeE, restE, forGo, pEq, pNe, pEqB, D.scal, L2.scal, a1, in_lst, hin, hf]
    · intro v hv
      rcases List.mem_append.mp hv with hv | hv
      · exact hw v hv
      · simp at hv; subst hv; exact a3
    · rw [List.nodup_append]
      exact ⟨hd, by simp, fun a ha b hb => by simp at hb; subst hb; intro z; subst z; exact hin ha⟩
theorem rg_len (lo : Int) (k : Nat) : (rgD lo k).length = k := by unfold rgD; simp
theorem names_spec {n : Nat} {o : OD} (h : PO n o) (hn : n + 200 < 2 ^ 40) {lo hi : Int} (h1 : 0 ≤ lo) (h2 : lo ≤ hi) (h3 : hi ≤ 5) : ∃ (ns : List Str) (o' : OD), d__law_names [.ow true o, .im (.int lo), .im (.int hi)] = .ok (.im (.tup (ns.map D.str))) [.ow true o', .im (.int lo), .im (.int hi)] ∧ PO (n + 80) o' ∧ (∀ w ∈ ns, WordS w) ∧ ns.Nodup ∧ lo ≤ ns.length ∧ ns.length ≤ hi := by
  obtain ⟨r, o1, a1, a2, a3, a4⟩ := draw_spec h (by omega) (m := hi - lo + 1) (by omega) (by omega)
  have hl := rg_len 0 (lo + r).toNat
  obtain ⟨e', b1, o2, ns, s4, s5, rfl, b2, b3, b4, b5, b6, b7⟩ := names_L1 (n := n + 1) (T := (lo + r).toNat) (by omega) (by omega) lo hi (rgD 0 (lo + r).toNat) [.ow true o1, .im (.int lo), .im (.int hi), .ow false (.lst []), .no, .no, .no] ⟨o1, [], .no, .no, rfl, by rw [hl]; exact a2.mono (by omega), by rw [hl]; rfl, .inl rfl, .inl rfl, by simp, by simp⟩
  have q1 : rgOk (lo + r) = true := rgOk_s (by omega) (by omega)
  simp at b3
  refine ⟨ns, o2, ?_, b2.mono (by simp; omega), b6, b7, by omega, by omega⟩
  simp [d__law_names, b__law_names, dSeq, dAsg, dAsgG, dDrop, dRet, dIfS, dFor, dBreak, dCont, dNever, dNext, dC, dVar, dOp, dUn, dNil, dCons, dCB, dFrz, dTup, dLst, dNone, dSome, dSl, dTest, dtAnd, dtOr, dtNot, dAndV, dOrV, dNotV, dIf, dChain, dLc, dMut, dMutR, dFz, fzAll, fzE, dSetI, dAug, dM1, dCall, diSeq, diR1, diR2, diEnum, noStr, ofX, enumD, dgName, dgNil, dgCons, dgTup, RE.bind, RE.stm, RS.seq, rd, rds, opt, optS, optE, OD.toD, frz, frzs, setSl, X.slot, setI, slotOf, passX, passXs, slots, temps, wb, wr, hideE, unhide, unhid, RS.map, fnM, finR, backP, retX, Sl.par, pAdd, pSub, pMul, pDiv, pMod, pPow, pNeg, pCmp, pIx, pSl, pRev, pLen, pInt, pTuple, pList, pIsi, pAll, pAny, pSum, pMax, pMin, pAugAdd, mApp, mExt, mIns, mPopAt, mPop, OD.isL, OD.isD, isS, D.isNon, pIsN, pNotN, D.tyN, lcEnd, ixN, dMakeF, makeD, dMakeStar, makeStarD, starA, imsX, dMake0, dFldF, rcvA, recvX, dSetF, putFD, pRevL, dMakeF0, RE.calm, List.lookup, dMethF, callD, dOpS, gInO, RE.bl, gBinO, dUnO, dConF, dCvF, pIsiO, dSupM, dCallI, gOp, freeSl, wipeE, restE, lcGo, pEq, pNe, pEqB, D.scal, L2.scal, a1, q1, b1, fit_s]
def ChoiceI (n T : Nat) (d1 d2 : D) (all : List Str) (xs : List D) (env : Ev) : Prop := ∃ (o : OD) (ls cs : List Str) (s5 s6 : Sl), env = [.ow true o, .im d1, .im d2, .ow false (.lst (ls.map D.str)), .ow false (.lst (cs.map D.str)), s5, s6] ∧ PO (n + (T - xs.length)) o ∧ xs.length + cs.length = T ∧ xs.length ≤ ls.length ∧ Fr s5 ∧ Fr s6 ∧ (ls ++ cs).Perm all
theorem choice_L1 {n T : Nat} (hn : n + T + 40 < 2 ^ 40) (hT : T ≤ 1000) (d1 d2 : D) (all : List Str) (hal : all.length ≤ 1000) : ∀ xs env, ChoiceI n T d1 d2 all xs env → ∃ e', forGo (dgName 5) b__law_choice_L1 xs env = .nx e' ∧ ChoiceI n T d1 d2 all [] e' := by
  refine for_nx (ChoiceI n T d1 d2 all) ?_
  rintro x xs env ⟨o, ls, cs, s5, s6, rfl, hP, hl, hk, h5, h6, hp⟩
  simp at hl hk
  have hpl := hp.length_eq
  simp at hpl
  obtain ⟨r, o1, a1, a2, a3, a4⟩ := draw_spec hP (by simp; omega) (m := ls.length) (by omega) (by omega)
  have hg : dgName 5 x [.ow true o, .im d1, .im d2, .ow false (.lst (ls.map D.str)), .ow false (.lst (cs.map D.str)), s5, s6] = some [.ow true o, .im d1, .im d2, .ow false (.lst (ls.map D.str)), .ow false (.lst (cs.map D.str)), .im x, s6] := by
    rcases h5 with rfl | ⟨d, rfl⟩ <;> simp [dSeq, dAsg, dAsgG, dDrop, dRet, dIfS, dFor, dBreak, dCont, dNever, dNext, dC, dVar, dOp, dUn, dNil, dCons, dCB, dFrz, dTup, dLst, dNone, dSome, dSl, dTest, dtAnd, dtOr, dtNot, dAndV, dOrV, dNotV, dIf, dChain, dLc, dMut, dMutR, dFz, fzAll, fzE, dSetI, dAug, dM1, dCall, diSeq, diR1, diR2, diEnum, noStr, ofX, enumD, dgName, dgNil, dgCons, dgTup, RE.bind, RE.stm, RS.seq, rd, rds, opt, optS, optE, OD.toD, frz, frzs, setSl, X.slot, setI, slotOf, passX, passXs, slots, temps, wb, wr, hideE, unhide, unhid, RS.map, fnM, finR, backP, retX, Sl.par, pAdd, pSub, pMul, pDiv, pMod, pPow, pNeg, pCmp, pIx, pSl, pRev, pLen, pInt, pTuple, pList, pIsi, pAll, pAny, pSum, pMax, pMin, pAugAdd, mApp, mExt, mIns, mPopAt, mPop, OD.isL, OD.isD, isS, D.isNon, pIsN, pNotN, D.tyN, lcEnd, ixN, dMakeF, makeD, dMakeStar, makeStarD, starA, imsX, dMake0, dFldF, rcvA, recvX, dSetF, putFD, pRevL, dMakeF0, RE.calm, List.lookup, dMethF, callD, dOpS, gInO, RE.bl, gBinO, dUnO, dConF, dCvF, pIsiO, dSupM, dCallI, gOp, freeSl, wipeE, restE, lcGo, forGo, pEq, pNe, pEqB, D.scal, L2.scal]
  have hr : r.toNat < ls.length := by omega
  have hf : fit (cs.length + 1) = true := fit_s (by omega)
  have q1 : rgOk r = true := rgOk_s (by omega) (by omega)
  refine ⟨_, _, hg, .inl ?_, o1, ls.eraseIdx r.toNat, cs ++ [ls[r.toNat]], .im x, .im (.int r), rfl, a2.mono (by simp; omega), by simp; omega, by rw [List.length_eraseIdx_of_lt hr]; omega, .inr ⟨_, rfl⟩, .inr ⟨_, rfl⟩, ?_⟩
  · have e1 : (ls.map D.str)[r.toNat]? = some (.str ls[r.toNat]) := by rw [List.getElem?_map, List.getElem?_eq_getElem hr]; rfl
    have e2 : (ls.map D.str).eraseIdx r.toNat = (ls.eraseIdx r.toNat).map D.str := by
      apply List.ext_getElem?
      intro i
      simp only [List.getElem?_eraseIdx, List.getElem?_map]
      split <;> rfl
    rcases h6 with rfl | ⟨d, rfl⟩ <;> simp [b__law_choice_L1, dSeq, dAsg, dAsgG, dDrop, dRet, dIfS, dFor, dBreak, dCont, dNever, dNext, dC, dVar, dOp, dUn, dNil, dCons, dCB, dFrz, dTup, dLst, dNone, dSome, dSl, dTest, dtAnd, dtOr, dtNot, dAndV, dOrV, dNotV, dIf, dChain, dLc, dMut, dMutR, dFz, fzAll, fzE, dSetI, dAug, dM1, dCall, diSeq, diR1, diR2, diEnum, noStr, ofX, enumD, dgName, dgNil, dgCons, dgTup, RE.bind, RE.stm, RS.seq, rd, rds, opt, optS, optE, OD.toD, frz, frzs, setSl, X.slot, setI, slotOf, passX, passXs, slots, temps, wb, wr, hideE, unhide, unhid, RS.map, fnM, finR, backP, retX, Sl.par, pAdd, pSub, pMul, pDiv, pMod, pPow, pNeg, pCmp, pIx, pSl, pRev, pLen, pInt, pTuple, pList, pIsi, pAll, pAny, pSum, pMax, pMin, pAugAdd, mApp, mExt, mIns, mPopAt, mPop, OD.isL, OD.isD, isS, D.isNon, pIsN, pNotN, D.tyN, lcEnd, ixN, dMakeF, makeD, dMakeStar, makeStarD, starA, imsX, dMake0, dFldF, rcvA, recvX, dSetF, putFD, pRevL, dMakeF0, RE.calm, List.lookup, dMethF, callD, dOpS, gInO, RE.bl, gBinO, dUnO, dConF, dCvF, pIsiO, dSupM, dCallI, gOp, freeSl, wipeE, restE, lcGo, forGo, pEq, pNe, pEqB, D.scal, L2.scal, a1, a3, a4, q1, hr, e2, hf]
  · exact (perm_move ls cs r.toNat hr).trans hp
theorem choice_core {n : Nat} {o : OD} {d : D} {all : List Str} {k : Int} (h : PO n o) (hn : n + 3000 < 2 ^ 40) (hal : all.length ≤ 1000) (hk0 : 0 ≤ k) (hk : k ≤ all.length) (hd : pList [d] = some (.ow (.lst (all.map D.str)))) (hnt : ∀ xs, d = .tupW xs → False) : ∃ (cs rest : List Str) (o' : OD), d__law_choice [.ow true o, .im d, .im (.int k)] = .ok (.im (.tup (cs.map D.str))) [.ow true o', .im d, .im (.int k)] ∧ PO (n + k.toNat) o' ∧ cs.length = k ∧ (rest ++ cs).Perm all := by
  have hl := rg_len 0 k.toNat
  obtain ⟨e', b1, o2, ls, cs, s5, s6, rfl, b2, b3, b4, b5, b6, b7⟩ := choice_L1 (n := n) (T := k.toNat) (by omega) (by omega) d (.int k) all hal (rgD 0 k.toNat) [.ow true o, .im d, .im (.int k), .ow false (.lst (all.map D.str)), .ow false (.lst []), .no, .no] ⟨o, all, [], .no, .no, rfl, by rw [hl]; exact h.mono (by omega), by rw [hl]; rfl, by rw [hl]; omega, .inl rfl, .inl rfl, by simp⟩
  have q1 : rgOk k = true := rgOk_s (by omega) (by omega)
  simp at b3
  refine ⟨cs, ls, o2, ?_, b2.mono (by simp), by omega, b7⟩
  simp [d__law_choice, b__law_choice, dSeq, dAsg, dAsgG, dDrop, dRet, dIfS, dFor, dBreak, dCont, dNever, dNext, dC, dVar, dOp, dUn, dNil, dCons, dCB, dFrz, dTup, dLst, dNone, dSome, dSl, dTest, dtAnd, dtOr, dtNot, dAndV, dOrV, dNotV, dIf, dChain, dLc, dMut, dMutR, dFz, fzAll, fzE, dSetI, dAug, dM1, dCall, diSeq, diR1, diR2, diEnum, noStr, ofX, enumD, dgName, dgNil, dgCons, dgTup, RE.bind, RE.stm, RS.seq, rd, rds, opt, optS, optE, OD.toD, frz, frzs, setSl, X.slot, setI, slotOf, passX, passXs, slots, temps, wb, wr, hideE, unhide, unhid, RS.map, fnM, finR, backP, retX, Sl.par, pAdd, pSub, pMul, pDiv, pMod, pPow, pNeg, pCmp, pIx, pSl, pRev, pLen, pInt, pTuple, pIsi, pAll, pAny, pSum, pMax, pMin, pAugAdd, mApp, mExt, mIns, mPopAt, mPop, OD.isL, OD.isD, isS, D.isNon, pIsN, pNotN, D.tyN, lcEnd, ixN, dMakeF, makeD, dMakeStar, makeStarD, starA, imsX, dMake0, dFldF, rcvA, recvX, dSetF, putFD, pRevL, dMakeF0, RE.calm, List.lookup, dMethF, callD, dOpS, gInO, RE.bl, gBinO, dUnO, dConF, dCvF, pIsiO, dSupM, dCallI, gOp, freeSl, wipeE, restE, lcGo, pEq, pNe, pEqB, D.scal, L2.scal, hnt, hd, q1, b1, fit_s]
theorem choice_spec {n : Nat} {o : OD} {ns : List Str} {k : Int} (h : PO n o) (hn : n + 3000 < 2 ^ 40) (hal : ns.length ≤ 1000) (hk0 : 0 ≤ k) (hk : k ≤ ns.length) : ∃ (cs rest : List Str) (o' : OD), d__law_choice [.ow true o, .im (.tup (ns.map D.str)), .im (.int k)] = .ok (.im (.tup (cs.map D.str))) [.ow true o', .im (.tup (ns.map D.str)), .im (.int k)] ∧ PO (n + k.toNat) o' ∧ cs.length = k ∧ (rest ++ cs).Perm ns := choice_core h hn hal hk0 hk rfl (fun _ z => nomatch z)
theorem ballot_spec {n : Nat} {o : OD} {ns : List Str} (h : PO n o) (hn : n + 5000 < 2 ^ 40) (hal : ns.length ≤ 1000) : ∃ (cs rest : List Str) (o' : OD), d__law_ballot [.ow true o, .im (.tup (ns.map D.str))] = .ok (.im (.tup (cs.map D.str))) [.ow true o', .im (.tup (ns.map D.str))] ∧ PO (n + 1 + ns.length) o' ∧ (rest ++ cs).Perm ns := by
  obtain ⟨r, o1, a1, a2, a3, a4⟩ := draw_spec h (by omega) (m := (ns.length : Int) + 1) (by omega) (by omega)
  obtain ⟨cs, rest, o2, b1, b2, b3, b4⟩ := choice_spec (ns := ns) (k := r) a2 (by omega) hal a3 (by omega)
  refine ⟨cs, rest, o2, ?_, b2.mono (by omega), b4⟩
  simp [d__law_ballot, b__law_ballot, dSeq, dAsg, dAsgG, dDrop, dRet, dIfS, dFor, dBreak, dCont, dNever, dNext, dC, dVar, dOp, dUn, dNil, dCons, dCB, dFrz, dTup, dLst, dNone, dSome, dSl, dTest, dtAnd, dtOr, dtNot, dAndV, dOrV, dNotV, dIf, dChain, dLc, dMut, dMutR, dFz, fzAll, fzE, dSetI, dAug, dM1, dCall, diSeq, diR1, diR2, diEnum, noStr, ofX, enumD, dgName, dgNil, dgCons, dgTup, RE.bind, RE.stm, RS.seq, rd, rds, opt, optS, optE, OD.toD, frz, frzs, setSl, X.slot, setI, slotOf, passX, passXs, slots, temps, wb, wr, hideE, unhide, unhid, RS.map, fnM, finR, backP, retX, Sl.par, pAdd, pSub, pMul, pDiv, pMod, pPow, pNeg, pCmp, pIx, pSl, pRev, pLen, pInt, pTuple, pList, pIsi, pAll, pAny, pSum, pMax, pMin, pAugAdd, mApp, mExt, mIns, mPopAt, mPop, OD.isL, OD.isD, isS, D.isNon, pIsN, pNotN, D.tyN, lcEnd, ixN, dMakeF, makeD, dMakeStar, makeStarD, starA, imsX, dMake0, dFldF, rcvA, recvX, dSetF, putFD, pRevL, dMakeF0, RE.calm, List.lookup, dMethF, callD, dOpS, gInO, RE.bl, gBinO, dUnO, dConF, dCvF, pIsiO, dSupM, dCallI, gOp, freeSl, wipeE, restE, lcGo, forGo, pEq, pNe, pEqB, D.scal, L2.scal, a1, b1]
end Wk

namespace Wk
open PySem PySem.Spec PyProof.Rows L2 TL Dn
abbrev bD (ws : List Str) : D := .tup (ws.map D.str)
def rowD (r : List Str × Int) : D := .tup [bD r.1, .int r.2]
def wtD (r : Nat × Str × Int) : D := .tup [.int (r.1 : Int), .str r.2.1, .int r.2.2]
def Blt (ns bs : List Str) : Prop := ∃ rest, (rest ++ bs).Perm ns
theorem Blt.len {ns bs : List Str} (h : Blt ns bs) : bs.length ≤ ns.length := by
  obtain ⟨r, h⟩ := h
  have := h.length_eq
  simp at this
  omega
theorem Blt.nodup {ns bs : List Str} (h : Blt ns bs) (hn : ns.Nodup) : bs.Nodup := by
  obtain ⟨r, h⟩ := h
  exact (List.nodup_append.mp (h.nodup_iff.mpr hn)).2.1
theorem Blt.mem {ns bs : List Str} (h : Blt ns bs) {w : Str} (hw : w ∈ bs) : w ∈ ns := by
  obtain ⟨r, h⟩ := h
  exact h.mem_iff.mp (List.mem_append_right _ hw)
theorem times_spec {n : Nat} {o : OD} {s : Int} (h : PO n o) (hn : n + 10 < 2 ^ 40) : ∃ (r : Int) (o' : OD), d__law_times [.ow true o, .im (.int s)] = .ok (.im (.int r)) [.ow true o', .im (.int s)] ∧ PO (n + 1) o' ∧ 0 ≤ r ∧ r ≤ 1000000000000 := by
  by_cases h0 : s = 0
  · obtain ⟨r, o', a1, a2, a3, a4⟩ := draw_spec h (by omega) (m := 4) (by decide) (by decide)
    exact ⟨r, o', by simp [d__law_times, b__law_times, dSeq, dAsg, dAsgG, dDrop, dRet, dIfS, dFor, dBreak, dCont, dNever, dNext, dC, dVar, dOp, dUn, dNil, dCons, dCB, dFrz, dTup, dLst, dNone, dSome, dSl, dTest, dtAnd, dtOr, dtNot, dAndV, dOrV, dNotV, dIf, dChain, dLc, dMut, dMutR, dFz, fzAll, fzE, dSetI, dAug, dM1, dCall, diSeq, diR1, diR2, diEnum, noStr, ofX, enumD, dgName, dgNil, dgCons, dgTup, RE.bind, RE.stm, RS.seq, rd, rds, opt, optS, optE, OD.toD, frz, frzs, setSl, X.slot, setI, slotOf, passX, passXs, slots, temps, wb, wr, hideE, unhide, unhid, RS.map, fnM, finR, backP, retX, Sl.par, pAdd, pSub, pMul, pDiv, pMod, pPow, pNeg, pCmp, pIx, pSl, pRev, pLen, pInt, pTuple, pList, pIsi, pAll, pAny, pSum, pMax, pMin, pAugAdd, mApp, mExt, mIns, mPopAt, mPop, OD.isL, OD.isD, isS, D.isNon, pIsN, pNotN, D.tyN, lcEnd, ixN, dMakeF, makeD, dMakeStar, makeStarD, starA, imsX, dMake0, dFldF, rcvA, recvX, dSetF, putFD, pRevL, dMakeF0, RE.calm, List.lookup, dMethF, callD, dOpS, gInO, RE.bl, gBinO, dUnO, dConF, dCvF, pIsiO, dSupM, dCallI, gOp, freeSl, wipeE, restE, lcGo, forGo, pEq, pNe, pEqB, D.scal, L2.scal, h0, a1], a2, a3, by omega⟩
  · by_cases h1 : s = 1
    · obtain ⟨r, o', a1, a2, a3, a4⟩ := draw_spec h (by omega) (m := 30) (by decide) (by decide)
      exact ⟨r, o', by simp [d__law_times, b__law_times, dSeq, dAsg, dAsgG, dDrop, dRet, dIfS, dFor, dBreak, dCont, dNever, dNext, dC, dVar, dOp, dUn, dNil, dCons, dCB, dFrz, dTup, dLst, dNone, dSome, dSl, dTest, dtAnd, dtOr, dtNot, dAndV, dOrV, dNotV, dIf, dChain, dLc, dMut, dMutR, dFz, fzAll, fzE, dSetI, dAug, dM1, dCall, diSeq, diR1, diR2, diEnum, noStr, ofX, enumD, dgName, dgNil, dgCons, dgTup, RE.bind, RE.stm, RS.seq, rd, rds, opt, optS, optE, OD.toD, frz, frzs, setSl, X.slot, setI, slotOf, passX, passXs, slots, temps, wb, wr, hideE, unhide, unhid, RS.map, fnM, finR, backP, retX, Sl.par, pAdd, pSub, pMul, pDiv, pMod, pPow, pNeg, pCmp, pIx, pSl, pRev, pLen, pInt, pTuple, pList, pIsi, pAll, pAny, pSum, pMax, pMin, pAugAdd, mApp, mExt, mIns, mPopAt, mPop, OD.isL, OD.isD, isS, D.isNon, pIsN, pNotN, D.tyN, lcEnd, ixN, dMakeF, makeD, dMakeStar, makeStarD, starA, imsX, dMake0, dFldF, rcvA, recvX, dSetF, putFD, pRevL, dMakeF0, RE.calm, List.lookup, dMethF, callD, dOpS, gInO, RE.bl, gBinO, dUnO, dConF, dCvF, pIsiO, dSupM, dCallI, gOp, freeSl, wipeE, restE, lcGo, forGo, pEq, pNe, pEqB, D.scal, L2.scal, h1, a1], a2, a3, by omega⟩
    · obtain ⟨r, o', a1, a2, a3, a4⟩ := draw_spec h (by omega) (m := 1000000000001) (by decide) (by decide)
      exact ⟨r, o', by simp [d__law_times, b__law_times, dSeq, dAsg, dAsgG, dDrop, dRet, dIfS, dFor, dBreak, dCont, dNever, dNext, dC, dVar, dOp, dUn, dNil, dCons, dCB, dFrz, dTup, dLst, dNone, dSome, dSl, dTest, dtAnd, dtOr, dtNot, dAndV, dOrV, dNotV, dIf, dChain, dLc, dMut, dMutR, dFz, fzAll, fzE, dSetI, dAug, dM1, dCall, diSeq, diR1, diR2, diEnum, noStr, ofX, enumD, dgName, dgNil, dgCons, dgTup, RE.bind, RE.stm, RS.seq, rd, rds, opt, optS, optE, OD.toD, frz, frzs, setSl, X.slot, setI, slotOf, passX, passXs, slots, temps, wb, wr, hideE, unhide, unhid, RS.map, fnM, finR, backP, retX, Sl.par, pAdd, pSub, pMul, pDiv, pMod, pPow, pNeg, pCmp, pIx, pSl, pRev, pLen, pInt, pTuple, pList, pIsi, pAll, pAny, pSum, pMax, pMin, pAugAdd, mApp, mExt, mIns, mPopAt, mPop, OD.isL, OD.isD, isS, D.isNon, pIsN, pNotN, D.tyN, lcEnd, ixN, dMakeF, makeD, dMakeStar, makeStarD, starA, imsX, dMake0, dFldF, rcvA, recvX, dSetF, putFD, pRevL, dMakeF0, RE.calm, List.lookup, dMethF, callD, dOpS, gInO, RE.bl, gBinO, dUnO, dConF, dCvF, pIsiO, dSupM, dCallI, gOp, freeSl, wipeE, restE, lcGo, forGo, pEq, pNe, pEqB, D.scal, L2.scal, h0, h1, a1], a2, a3, by omega⟩
end Wk

namespace Wk
open PySem PySem.Spec PyProof.Rows L2 TL Dn
def lowB (c : Nat) : Bool := decide (c ∈ ALs.cps.toList)
theorem lowB_iff (c : Nat) : lowB c = true ↔ 97 ≤ c ∧ c ≤ 122 := by
  unfold lowB
  rw [al_tl]
  simp
  omega
/-- is this a name? -/
def isNm (w : Str) : Bool := decide (1 ≤ w.length) && (decide (w.length ≤ 12) && w.cps.toList.all lowB)
theorem isNm_word {w : Str} : isNm w = true ↔ WordS w := by
  unfold isNm WordS LowS
  simp only [Bool.and_eq_true, decide_eq_true_eq, List.all_eq_true, lowB_iff]
theorem blsD_map : ∀ bs : List Bool, blsD (bs.map D.bl) = some bs
  | [] => rfl
  | b :: bs => by simp [blsD, blsD_map bs]
theorem is_name_spec (w : Str) (hw : w.length ≤ 1000) : d_is_name [.im (.str w)] = .ok (.im (.bl (isNm w))) [.im (.str w)] := by
  have hf : fit w.length = true := fit_s (by omega)
  have hl := len_s w
  have hc : lcGo (dgName 1) (fun env => .ok true env) c_is_name_E1 [1] (w.cps.toList.map fun c => D.str ⟨#[c]⟩) [.im (.str w), .no] [] = .ok ((w.cps.toList.map lowB).map D.bl) [.im (.str w), .no] := by
    rw [lc_pure (fun _ => true) (fun d => match d with | .str s => .bl (lowB (s.cps.getD 0 0)) | x => x) (w.cps.toList.map fun c => D.str ⟨#[c]⟩) [] ?_ (by simp only [List.length_map, List.length_nil]; omega)]
    · rw [List.filter_eq_self.mpr (by simp)]
      simp
    · intro d hd
      obtain ⟨c, _, rfl⟩ := List.mem_map.mp hd
      exact ⟨_, by simp [dSeq, dAsg, dAsgG, dDrop, dRet, dIfS, dFor, dBreak, dCont, dNever, dNext, dC, dVar, dOp, dUn, dNil, dCons, dCB, dFrz, dTup, dLst, dNone, dSome, dSl, dTest, dtAnd, dtOr, dtNot, dAndV, dOrV, dNotV, dIf, dChain, dLc, dMut, dMutR, dFz, fzAll, fzE, dSetI, dAug, dM1, dCall, diSeq, diR1, diR2, diEnum, noStr, ofX, enumD, dgName, dgNil, dgCons, dgTup, RE.bind, RE.stm, RS.seq, rd, rds, opt, optS, optE, OD.toD, frz, frzs, setSl, X.slot, setI, slotOf, passX, passXs, slots, temps, wb, wr, hideE, unhide, unhid, RS.map, fnM, finR, backP, retX, Sl.par, pAdd, pSub, pMul, pDiv, pMod, pPow, pNeg, pCmp, pIx, pSl, pRev, pLen, pInt, pTuple, pList, pIsi, pAll, pAny, pSum, pMax, pMin, pAugAdd, mApp, mExt, mIns, mPopAt, mPop, OD.isL, OD.isD, isS, D.isNon, pIsN, pNotN, D.tyN, lcEnd, ixN, dMakeF, makeD, dMakeStar, makeStarD, starA, imsX, dMake0, dFldF, rcvA, recvX, dSetF, putFD, pRevL, dMakeF0, RE.calm, List.lookup, dMethF, callD, dOpS, gInO, RE.bl, gBinO, dUnO, dConF, dCvF, pIsiO, dSupM, dCallI, gOp, freeSl, wipeE, restE, lcGo, forGo, pEq, pNe, pEqB, D.scal, L2.scal]; rfl, by simp, fun _ => by simp [c_is_name_E1, dSeq, dAsg, dAsgG, dDrop, dRet, dIfS, dFor, dBreak, dCont, dNever, dNext, dC, dVar, dOp, dUn, dNil, dCons, dCB, dFrz, dTup, dLst, dNone, dSome, dSl, dTest, dtAnd, dtOr, dtNot, dAndV, dOrV, dNotV, dIf, dChain, dLc, dMut, dMutR, dFz, fzAll, fzE, dSetI, dAug, dM1, dCall, diSeq, diR1, diR2, diEnum, noStr, ofX, enumD, dgName, dgNil, dgCons, dgTup, RE.bind, RE.stm, RS.seq, rd, rds, opt, optS, optE, OD.toD, frz, frzs, setSl, X.slot, setI, slotOf, passX, passXs, slots, temps, wb, wr, hideE, unhide, unhid, RS.map, fnM, finR, backP, retX, Sl.par, pAdd, pSub, pMul, pDiv, pMod, pPow, pNeg, pCmp, pIx, pSl, pRev, pLen, pInt, pTuple, pList, pIsi, pAll, pAny, pSum, pMax, pMin, pAugAdd, mApp, mExt, mIns, mPopAt, mPop, OD.isL, OD.isD, isS, D.isNon, pIsN, pNotN, D.tyN, lcEnd, ixN, dMakeF, makeD, dMakeStar, makeStarD, starA, imsX, dMake0, dFldF, rcvA, recvX, dSetF, putFD, pRevL, dMakeF0, RE.calm, List.lookup, dMethF, callD, dOpS, gInO, RE.bl, gBinO, dUnO, dConF, dCvF, pIsiO, dSupM, dCallI, gOp, freeSl, wipeE, restE, lcGo, forGo, pEq, pNe, pEqB, D.scal, L2.scal, pIn, pInB, lowB], by simp [wipeE]⟩
  have e : d_is_name [.im (.str w)] = .ok (.im (.bl (if 1 ≤ (w.length : Int) ∧ (w.length : Int) ≤ 12 then (w.cps.toList.map lowB).all id else false))) [.im (.str w)] := by
    by_cases h1 : 1 ≤ (w.length : Int)
    · by_cases h2 : (w.length : Int) ≤ 12
      · simp [d_is_name, b_is_name, dSeq, dAsg, dAsgG, dDrop, dRet, dIfS, dFor, dBreak, dCont, dNever, dNext, dC, dVar, dOp, dUn, dNil, dCons, dCB, dFrz, dTup, dLst, dNone, dSome, dSl, dTest, dtAnd, dtOr, dtNot, dAndV, dOrV, dNotV, dIf, dChain, dLc, dMut, dMutR, dFz, fzAll, fzE, dSetI, dAug, dM1, dCall, diSeq, diR1, diR2, diEnum, noStr, ofX, enumD, dgName, dgNil, dgCons, dgTup, RE.bind, RE.stm, RS.seq, rd, rds, opt, optS, optE, OD.toD, frz, frzs, setSl, X.slot, setI, slotOf, passX, passXs, slots, temps, wb, wr, hideE, unhide, unhid, RS.map, fnM, finR, backP, retX, Sl.par, pAdd, pSub, pMul, pDiv, pMod, pPow, pNeg, pCmp, pIx, pSl, pRev, pLen, pInt, pTuple, pList, pIsi, pAny, pSum, pMax, pMin, pAugAdd, mApp, mExt, mIns, mPopAt, mPop, OD.isL, OD.isD, isS, D.isNon, pIsN, pNotN, D.tyN, lcEnd, ixN, dMakeF, makeD, dMakeStar, makeStarD, starA, imsX, dMake0, dFldF, rcvA, recvX, dSetF, putFD, pRevL, dMakeF0, RE.calm, List.lookup, dMethF, callD, dOpS, gInO, RE.bl, gBinO, dUnO, dConF, dCvF, pIsiO, dSupM, dCallI, gOp, freeSl, wipeE, restE, forGo, pEq, pNe, pEqB, D.scal, L2.scal, hf, h1, h2, hc]
        simp [pAll, ← List.map_map, blsD_map]
      · simp [d_is_name, b_is_name, dSeq, dAsg, dAsgG, dDrop, dRet, dIfS, dFor, dBreak, dCont, dNever, dNext, dC, dVar, dOp, dUn, dNil, dCons, dCB, dFrz, dTup, dLst, dNone, dSome, dSl, dTest, dtAnd, dtOr, dtNot, dAndV, dOrV, dNotV, dIf, dChain, dLc, dMut, dMutR, dFz, fzAll, fzE, dSetI, dAug, dM1, dCall, diSeq, diR1, diR2, diEnum, noStr, ofX, enumD, dgName, dgNil, dgCons, dgTup, RE.bind, RE.stm, RS.seq, rd, rds, opt, optS, optE, OD.toD, frz, frzs, setSl, X.slot, setI, slotOf, passX, passXs, slots, temps, wb, wr, hideE, unhide, unhid, RS.map, fnM, finR, backP, retX, Sl.par, pAdd, pSub, pMul, pDiv, pMod, pPow, pNeg, pCmp, pIx, pSl, pRev, pLen, pInt, pTuple, pList, pIsi, pAll, pAny, pSum, pMax, pMin, pAugAdd, mApp, mExt, mIns, mPopAt, mPop, OD.isL, OD.isD, isS, D.isNon, pIsN, pNotN, D.tyN, lcEnd, ixN, dMakeF, makeD, dMakeStar, makeStarD, starA, imsX, dMake0, dFldF, rcvA, recvX, dSetF, putFD, pRevL, dMakeF0, RE.calm, List.lookup, dMethF, callD, dOpS, gInO, RE.bl, gBinO, dUnO, dConF, dCvF, pIsiO, dSupM, dCallI, gOp, freeSl, wipeE, restE, forGo, pEq, pNe, pEqB, D.scal, L2.scal, hf, h1, h2]
    · simp [d_is_name, b_is_name, dSeq, dAsg, dAsgG, dDrop, dRet, dIfS, dFor, dBreak, dCont, dNever, dNext, dC, dVar, dOp, dUn, dNil, dCons, dCB, dFrz, dTup, dLst, dNone, dSome, dSl, dTest, dtAnd, dtOr, dtNot, dAndV, dOrV, dNotV, dIf, dChain, dLc, dMut, dMutR, dFz, fzAll, fzE, dSetI, dAug, dM1, dCall, diSeq, diR1, diR2, diEnum, noStr, ofX, enumD, dgName, dgNil, dgCons, dgTup, RE.bind, RE.stm, RS.seq, rd, rds, opt, optS, optE, OD.toD, frz, frzs, setSl, X.slot, setI, slotOf, passX, passXs, slots, temps, wb, wr, hideE, unhide, unhid, RS.map, fnM, finR, backP, retX, Sl.par, pAdd, pSub, pMul, pDiv, pMod, pPow, pNeg, pCmp, pIx, pSl, pRev, pLen, pInt, pTuple, pList, pIsi, pAll, pAny, pSum, pMax, pMin, pAugAdd, mApp, mExt, mIns, mPopAt, mPop, OD.isL, OD.isD, isS, D.isNon, pIsN, pNotN, D.tyN, lcEnd, ixN, dMakeF, makeD, dMakeStar, makeStarD, starA, imsX, dMake0, dFldF, rcvA, recvX, dSetF, putFD, pRevL, dMakeF0, RE.calm, List.lookup, dMethF, callD, dOpS, gInO, RE.bl, gBinO, dUnO, dConF, dCvF, pIsiO, dSupM, dCallI, gOp, freeSl, wipeE, restE, forGo, pEq, pNe, pEqB, D.scal, L2.scal, hf, h1]
  rw [e]
  congr 3
  unfold isNm
  by_cases h1 : 1 ≤ w.length
  · by_cases h2 : w.length ≤ 12
    · have h3 : 1 ≤ (w.length : Int) ∧ (w.length : Int) ≤ 12 := by omega
      simp [h1, h2, h3]
    · have h3 : ¬ (1 ≤ (w.length : Int) ∧ (w.length : Int) ≤ 12) := by omega
      simp [h1, h2, h3]
  · have h3 : ¬ (1 ≤ (w.length : Int) ∧ (w.length : Int) ≤ 12) := by omega
    simp [h1, h3]
end Wk

namespace Wk
open PySem PySem.Spec PyProof.Rows L2 TL Dn
abbrev Rw : Type := List Str × Int
/-! ### sums and the order of ballots -/
def sumOf (rs : List Rw) (b : List Str) : Int := ((rs.filter fun r => decide (r.1 = b)).map (·.2)).sum
theorem sumOf_nil (b : List Str) : sumOf [] b = 0 := rfl
theorem sumOf_cons (r : Rw) (rs : List Rw) (b : List Str) : sumOf (r :: rs) b = (if r.1 = b then r.2 else 0) + sumOf rs b := by
  unfold sumOf
  by_cases h : r.1 = b <;> simp [h]
theorem sumOf_app (rs qs : List Rw) (b : List Str) : sumOf (rs ++ qs) b = sumOf rs b + sumOf qs b := by simp [sumOf]
theorem sumOf_rev (b : List Str) : ∀ rs : List Rw, sumOf rs.reverse b = sumOf rs b
  | [] => rfl
  | r :: rs => by
    rw [List.reverse_cons, sumOf_app, sumOf_rev b rs, sumOf_cons r rs, sumOf_cons r [], sumOf_nil]
    omega
theorem sumOf_nonneg {rs : List Rw} (h : ∀ r ∈ rs, 0 ≤ r.2) (b : List Str) : 0 ≤ sumOf rs b := by
  induction rs with
  | nil => exact Int.le_refl 0
  | cons r rs ih =>
    rw [sumOf_cons]
    have h1 := ih fun q hq => h q (by simp [hq])
    have h2 := h r (by simp)
    split <;> omega
theorem sumOf_none {rs : List Rw} {b : List Str} (h : b ∉ rs.map (·.1)) : sumOf rs b = 0 := by
  unfold sumOf
  rw [List.filter_eq_nil_iff.mpr]
  · rfl
  · intro r hr z
    exact h (List.mem_map.mpr ⟨r, hr, of_decide_eq_true z⟩)
theorem sumOf_mem {rs : List Rw} {b : List Str} (h : 0 < sumOf rs b) : b ∈ rs.map (·.1) := by
  refine Decidable.byContradiction fun z => ?_
  rw [sumOf_none z] at h
  omega
def ixs (ns b : List Str) : List Int := b.map fun w => ((ns.idxOf w : Nat) : Int)
theorem ixs_app (ns a b : List Str) : ixs ns (a ++ b) = ixs ns a ++ ixs ns b := by simp [ixs]
theorem ixs_cons (ns : List Str) (a : Str) (b : List Str) : ixs ns (a :: b) = ((ns.idxOf a : Nat) : Int) :: ixs ns b := rfl
theorem ixs_len (ns b : List Str) : (ixs ns b).length = b.length := by simp [ixs]
theorem idx_at {w : Str} : ∀ {ns : List Str}, w ∈ ns → ns[ns.idxOf w]? = some w
  | [], h => nomatch h
  | y :: ys, h => by
    rw [List.idxOf_cons]
    by_cases e : y = w
    · have : (y == w) = true := by simpa using e
      rw [this]
      simp [e]
    · have : (y == w) = false := by simpa using e
      rw [this]
      have h2 : w ∈ ys := by
        rcases List.mem_cons.mp h with q | q
        · exact absurd q.symm e
        · exact q
      simpa using idx_at h2
theorem idx_inj {ns : List Str} {a b : Str} (h : a ∈ ns) (h' : b ∈ ns) (e : ns.idxOf a = ns.idxOf b) : a = b := by
  have e1 := idx_at h
  have e2 := idx_at h'
  rw [e, e2] at e1
  exact (Option.some.inj e1).symm
theorem ixs_inj {ns : List Str} : ∀ {b c : List Str}, (∀ w ∈ b, w ∈ ns) → (∀ w ∈ c, w ∈ ns) → ixs ns b = ixs ns c → b = c
  | [], [], _, _, _ => rfl
  | [], _ :: _, _, _, e => by cases e
  | _ :: _, [], _, _, e => by cases e
  | x :: b, y :: c, h, h', e => by
    rw [ixs_cons, ixs_cons, List.cons.injEq] at e
    rw [idx_inj (h x (by simp)) (h' y (by simp)) (by omega), ixs_inj (fun w hw => h w (by simp [hw])) (fun w hw => h' w (by simp [hw])) e.2]
theorem ixOf_idx {w : Str} : ∀ {ns : List Str}, w ∈ ns → ixOf w ns = some (ns.idxOf w)
  | [], h => nomatch h
  | y :: ys, h => by
    unfold ixOf
    by_cases e : y = w
    · rw [if_pos e, e]
      simp
    · have : (y == w) = false := by simpa using e
      have h2 : w ∈ ys := by
        rcases List.mem_cons.mp h with q | q
        · exact absurd q.symm e
        · exact q
      rw [if_neg e, ixOf_idx h2, List.idxOf_cons, this]
      rfl
def IsOrd (ns : List Str) (s : List Str → Int) (L : List (List Str)) : Prop := (L.Pairwise fun x y => ixs ns x < ixs ns y) ∧ ∀ b, b ∈ L ↔ 0 < s b
theorem pair_uniq {α : Type} {R : α → α → Prop} (irr : ∀ a, ¬ R a a) (asy : ∀ a b, R a b → ¬ R b a) : ∀ {L M : List α}, L.Pairwise R → M.Pairwise R → (∀ x, x ∈ L ↔ x ∈ M) → L = M
  | [], [], _, _, _ => rfl
  | [], y :: M, _, _, h => nomatch (h y).mpr (by simp)
  | x :: L, [], _, _, h => nomatch (h x).mp (by simp)
  | x :: L, y :: M, h1, h2, h => by
    obtain ⟨a1, a2⟩ := List.pairwise_cons.mp h1
    obtain ⟨b1, b2⟩ := List.pairwise_cons.mp h2
    have e : x = y := by
      rcases List.mem_cons.mp ((h x).mp (by simp)) with e | hx
      · exact e
      · rcases List.mem_cons.mp ((h y).mpr (by simp)) with e | hy
        · exact e.symm
        · exact (asy _ _ (a1 y hy) (b1 x hx)).elim
    subst e
    rw [pair_uniq irr asy a2 b2 fun z => ?_]
    constructor
    · intro hz
      rcases List.mem_cons.mp ((h z).mp (by simp [hz])) with e | q
      · subst e
        exact (irr _ (a1 _ hz)).elim
      · exact q
    · intro hz
      rcases List.mem_cons.mp ((h z).mpr (by simp [hz])) with e | q
      · subst e
        exact (irr _ (b1 _ hz)).elim
      · exact q
theorem IsOrd.uniq {ns : List Str} {s : List Str → Int} {L M : List (List Str)} (h : IsOrd ns s L) (h' : IsOrd ns s M) : L = M :=
  pair_uniq (R := fun x y => ixs ns x < ixs ns y) (fun _ => List.lt_irrefl _) (fun _ _ => List.lt_asymm) h.1 h'.1 fun x => (h.2 x).trans (h'.2 x).symm
theorem IsOrd.same {ns : List Str} {s t : List Str → Int} {L : List (List Str)} (h : IsOrd ns s L) (e : ∀ b, 0 < s b ↔ 0 < t b) : IsOrd ns t L := ⟨h.1, fun b => (h.2 b).trans (e b)⟩
theorem IsOrd.nodup {ns : List Str} {s : List Str → Int} {L : List (List Str)} (h : IsOrd ns s L) : L.Nodup := h.1.imp fun {a b} q e => by subst e; exact List.lt_irrefl _ q
/-- the rows with their sums -/
def rowsD (s : List Str → Int) (L : List (List Str)) : List D := L.map fun b => rowD (b, s b)
theorem app_lt : ∀ (p u v : List Int), p ++ u < p ++ v ↔ u < v
  | [], u, v => Iff.rfl
  | x :: p, u, v => by
    rw [List.cons_append, List.cons_append, List.cons_lt_cons_iff]
    have := app_lt p u v
    constructor
    · rintro (h | ⟨_, h⟩)
      · omega
      · exact this.mp h
    · exact fun h => .inr ⟨rfl, this.mpr h⟩
/-! ### sorted -/
theorem leL_trans (a b c : List Int) (h1 : decide (a ≤ b) = true) (h2 : decide (b ≤ c) = true) : decide (a ≤ c) = true := by
  simp only [decide_eq_true_eq] at *
  exact List.le_trans h1 h2
theorem leL_total (a b : List Int) : (decide (a ≤ b) || decide (b ≤ a)) = true := by
  simp only [Bool.or_eq_true, decide_eq_true_eq]
  exact List.le_total a b
/-- index lists as a tuple -/
def ixD (ns b : List Str) : D := .tup ((ixs ns b).map D.int)
theorem pys_ints : ∀ xs : List Int, pys (xs.map D.int) = some (xs.map PyData.int)
  | [] => by simp [pys]
  | x :: xs => by simp [pys, D.py, pys_ints xs]
theorem ixD_py (ns b : List Str) : (ixD ns b).py = some (.tuple ((ixs ns b).map .int)) := by
  simp [ixD, D.py, pys_ints]
theorem alike_ints : ∀ xs ys : List Int, PySem.W.alikeAll (xs.map PyData.int) (ys.map PyData.int) = true
  | [], _ => by simp [PySem.W.alikeAll]
  | _ :: _, [] => by simp [PySem.W.alikeAll]
  | x :: xs, y :: ys => by simp [PySem.W.alikeAll, PySem.W.alike, alike_ints xs ys]
theorem depth_ints : ∀ xs : List Int, PyData.depthAll (xs.map PyData.int) = 0
  | [] => by simp [PyData.depthAll]
  | x :: xs => by simp [PyData.depthAll, PyData.depth, depth_ints xs]
theorem leD_ix (ns b c : List Str) : leD false (ixD ns b) (ixD ns c) = decide (ixs ns b ≤ ixs ns c) := by
  unfold leD D.pyD
  rw [ixD_py, ixD_py]
  simp only [cond, Option.getD_some]
  rw [PySem.W.dataLt_tuple]
  show (!PySem.W.rowLt _ _) = _
  rw [PySem.W.dataLt_ints]
  by_cases h : ixs ns c < ixs ns b
  · rw [decide_eq_true h, decide_eq_false (List.not_le.mpr h)]
    rfl
  · rw [decide_eq_false h, decide_eq_true (List.not_lt.mp h)]
    rfl
theorem sort_ix (ns : List Str) (ks : List (List Str)) : pSorted [.lst (ks.map (ixD ns))] = some (.ow (.lst ((ks.mergeSort fun b c => decide (ixs ns b ≤ ixs ns c)).map (ixD ns)))) := by
  have h1 : ∀ ks : List (List Str), pys (ks.map (ixD ns)) = some (ks.map fun b => PyData.tuple ((ixs ns b).map .int)) := fun ks => by
    induction ks with
    | nil => simp [pys]
    | cons k ks ih => simp [pys, ixD_py, ih]
  have h2 : sortOk (ks.map fun b => PyData.tuple ((ixs ns b).map .int)) = true := by
    unfold sortOk
    rw [Bool.and_eq_true, Bool.and_eq_true, Bool.or_eq_true]
    refine ⟨?_, .inl ?_, ?_⟩
    · rw [List.all_eq_true]
      intro d hd
      obtain ⟨b, _, rfl⟩ := List.mem_map.mp hd
      rw [List.all_eq_true]
      intro e he
      obtain ⟨c, _, rfl⟩ := List.mem_map.mp he
      simp [PySem.W.alike, alike_ints]
    · rw [List.all_eq_true]
      intro d hd
      obtain ⟨b, _, rfl⟩ := List.mem_map.mp hd
      rfl
    · rw [List.all_eq_true]
      intro d hd
      obtain ⟨b, _, rfl⟩ := List.mem_map.mp hd
      simp [PyData.depth, depth_ints]
  show ((pys (ks.map (ixD ns))).bind fun ds => if sortOk ds = true then some (X.ow (.lst ((ks.map (ixD ns)).mergeSort (leD false)))) else none) = _
  rw [h1]
  simp only [Option.bind_some]
  rw [if_pos h2, List.map_mergeSort (s := leD false)]
  intro a _ b _
  exact (leD_ix ns a b).symm
theorem sorted_ord {ns : List Str} {ks : List (List Str)} (hd : ks.Nodup) (hm : ∀ b ∈ ks, ∀ w ∈ b, w ∈ ns) : (ks.mergeSort fun b c => decide (ixs ns b ≤ ixs ns c)).Pairwise fun x y => ixs ns x < ixs ns y := by
  have h1 := List.pairwise_mergeSort (le := fun b c : List Str => decide (ixs ns b ≤ ixs ns c)) (fun a b c => leL_trans _ _ _) (fun a b => leL_total _ _) ks
  have h2 : (ks.mergeSort fun b c => decide (ixs ns b ≤ ixs ns c)).Nodup := (List.mergeSort_perm ks _).nodup_iff.mpr hd
  have h3 : ∀ b ∈ ks.mergeSort fun b c => decide (ixs ns b ≤ ixs ns c), ∀ w ∈ b, w ∈ ns := fun b hb => hm b (List.mem_mergeSort.mp hb)
  refine (List.Pairwise.and h1 h2).imp_of_mem ?_
  intro a b ha hb ⟨q1, q2⟩
  have q1 := of_decide_eq_true q1
  refine List.not_le.mp fun q => ?_
  exact q2 (ixs_inj (h3 a ha) (h3 b hb) (List.le_antisymm q1 q))
end Wk

namespace Wk
open PySem PySem.Spec PyProof.Rows L2 TL Dn
theorem lc_map {α : Type} {dg : D → Ev → Option Ev} {dt : Ev → RE Bool} {de : Ev → RE X} {vs : List Nat} {env : Ev} (g : α → D) (p : α → Bool) (f : α → D) : ∀ (xs : List α) (acc : List D), (∀ x ∈ xs, ∃ e1, dg (g x) env = some e1 ∧ dt e1 = .ok (p x) e1 ∧ (p x = true → ∃ y, de e1 = .ok y e1 ∧ frz y = some (f x)) ∧ wipeE e1 vs = env) → acc.length + xs.length ≤ 100000 →
    lcGo dg dt de vs (xs.map g) env acc = .ok (acc ++ (xs.filter p).map f) env
  | [], acc, _, _ => by simp [lcGo]
  | x :: xs, acc, h, hl => by
    simp at hl
    obtain ⟨e1, h1, h2, h3, h4⟩ := h x (by simp)
    have hf : fit (acc.length + 1) = true := fit_s (by omega)
    cases hp : p x with
    | false =>
      rw [hp] at h2
      have := lc_map g p f xs acc (fun y hy => h y (by simp [hy])) (by omega)
      simp [lcGo, h1, h2, h4, this, hp]
    | true =>
      rw [hp] at h2
      obtain ⟨y, h3, h5⟩ := h3 hp
      have := lc_map g p f xs (acc ++ [f x]) (fun y hy => h y (by simp [hy])) (by simp; omega)
      simp [lcGo, h1, h2, h3, h5, h4, this, hp, hf]
theorem filt_true {α : Type} (xs : List α) : xs.filter (fun _ => true) = xs := List.filter_eq_self.mpr (by simp)
/-! ### tuples of strings, one like another -/
theorem eqvAll_strsR : ∀ (xs ys : List Str), PyData.eqvAll (xs.map PyData.str) (ys.map PyData.str) = decide (xs = ys)
  | [], [] => by simp [PyData.eqvAll]
  | [], _ :: _ => by simp [PyData.eqvAll]
  | _ :: _, [] => by simp [PyData.eqvAll]
  | x :: xs, y :: ys => by
    simp only [List.map_cons, PyData.eqvAll, PyData.eqv, eqvAll_strsR xs ys]
    by_cases h : x = y <;> by_cases h' : xs = ys <;> simp [h, h']
theorem ok_lowR {w : Str} (h : LowS w) : PyData.strOk w = true := by
  unfold PyData.strOk
  rw [Array.all_eq_true']
  intro c hc
  have := h c (by simpa using hc)
  simp
  omega
theorem canLay_strsR : ∀ (xs : List Str), (∀ w ∈ xs, LowS w) → PyData.canLayAll0 (xs.map PyData.str) = true
  | [], _ => by simp [PyData.canLayAll0]
  | x :: xs, h => by simp [PyData.canLayAll0, PyData.canLay0, canLay_strsR xs fun w hw => h w (by simp [hw]), ok_lowR (h x (by simp))]
theorem depth_strsR : ∀ (xs : List Str), PyData.depthAll (xs.map PyData.str) = 0
  | [] => by simp [PyData.depthAll]
  | x :: xs => by simp [PyData.depthAll, PyData.depth, depth_strsR xs]
theorem shaped_strsR (xs : List Str) (h : ∀ w ∈ xs, LowS w) : SeqAt.shaped (.tuple (xs.map PyData.str)) = true := by
  have h1 := depth_strsR xs
  have h2 := canLay_strsR xs h
  simp [SeqAt.shaped, PyData.canLay0, PyData.depth, h1, h2]
theorem pys_strsR : ∀ (xs : List Str), pys (xs.map D.str) = some (xs.map PyData.str)
  | [] => by simp [pys]
  | x :: xs => by simp [pys, D.py, pys_strsR xs]
theorem eq_bs (xs ys : List Str) (h : ∀ w ∈ xs, LowS w) (h' : ∀ w ∈ ys, LowS w) : pEq (bD xs) (bD ys) = some (.im (.bl (decide (xs = ys)))) := by
  simp [pEq, pEqB, D.scal, D.py, pys_strsR, shaped_strsR xs h, shaped_strsR ys h', PyData.eqv, eqvAll_strsR]
theorem ne_bs (xs ys : List Str) (h : ∀ w ∈ xs, LowS w) (h' : ∀ w ∈ ys, LowS w) : pNe (bD xs) (bD ys) = some (.im (.bl (!decide (xs = ys)))) := by
  simp [pNe, pEqB, D.scal, D.py, pys_strsR, shaped_strsR xs h, shaped_strsR ys h', PyData.eqv, eqvAll_strsR]
theorem ne_strsR (a b : Str) : pNe (.str a) (.str b) = some (.im (.bl (!decide (a = b)))) := by
  simp [pNe, pEqB, D.scal, L2.scal]
theorem pys_bs : ∀ F : List (List Str), pys (F.map bD) = some (F.map fun b => PyData.tuple (b.map .str))
  | [] => by simp [pys]
  | b :: F => by simp [pys, D.py, pys_strsR, pys_bs F]
theorem canLay_bs : ∀ (F : List (List Str)), (∀ b ∈ F, ∀ w ∈ b, LowS w) → PyData.canLayAll0 (F.map fun b => PyData.tuple (b.map .str)) = true
  | [], _ => by simp [PyData.canLayAll0]
  | x :: xs, h => by simp [PyData.canLayAll0, PyData.canLay0, canLay_strsR x (h x (by simp)), canLay_bs xs fun w hw => h w (by simp [hw])]
theorem depth_bs : ∀ (F : List (List Str)), PyData.depthAll (F.map fun b => PyData.tuple (b.map .str)) ≤ 1
  | [] => by simp [PyData.depthAll]
  | x :: xs => by
    have := depth_bs xs
    simp only [List.map_cons, PyData.depthAll, PyData.depth, depth_strsR x]
    omega
theorem shaped_bs (F : List (List Str)) (h : ∀ b ∈ F, ∀ w ∈ b, LowS w) : SeqAt.shaped (.list (F.map fun b => PyData.tuple (b.map .str))) = true := by
  have h1 := depth_bs F
  have h2 := canLay_bs F h
  simp [SeqAt.shaped, PyData.canLay0, PyData.depth, h2]
  omega
theorem in_bs (b : List Str) (F : List (List Str)) (hb : ∀ w ∈ b, LowS w) (h : ∀ b ∈ F, ∀ w ∈ b, LowS w) : pInB (bD b) (.lst (F.map bD)) = some (decide (b ∈ F)) := by
  have h1 := shaped_strsR b hb
  have h2 := shaped_bs F h
  simp [pInB, D.scal, D.py, pys_strsR, pys_bs, h1, h2, PyData.eqv, eqvAll_strsR]
  induction F with
  | nil => rfl
  | cons c F ih => 
    have := ih (fun b hb => h b (by simp [hb])) (shaped_bs F fun b hb => h b (by simp [hb]))
    simp [List.any_cons, this, PyData.eqv, eqvAll_strsR]
    rw [show decide (c = b) = decide (b = c) from decide_eq_decide.mpr eq_comm]
theorem rgDn (n : Nat) : rgD 0 n = (List.range' 0 n).map fun k : Nat => D.int (k : Int) := by
  unfold rgD
  rw [← List.range_eq_range']
  simp
theorem at_pre (pre u : List Str) (a : Str) : atI ((pre ++ a :: u).map D.str) (pre.length : Int) = some (.str a) := by
  rw [atI_i (by omega)]
  simp
theorem tix_ok {env e1 e2 : Ev} {da db : Ev → RE X} {ns : List Str} {w : Str} (h1 : da env = .ok (.im (bD ns)) e1) (h2 : db e1 = .ok (.im (.str w)) e2) (h : w ∈ ns) : dTIx da db env = .ok (.im (.int ((ns.idxOf w : Nat) : Int))) e2 := by
  unfold dTIx
  simp [h1, h2, RE.bind, textsD_map, ixOf_idx h, opt]
theorem ahead_go (ns x y : List Str) (hx : ∀ w ∈ x, w ∈ ns) (hy : ∀ w ∈ y, w ∈ ns) : ∀ (u v pre : List Str) (s3 : Sl), Fr s3 → x = pre ++ u → y = pre ++ v →
    ∃ s3', forGo (dgName 3) b__law_ahead_L1 ((List.range' pre.length (min u.length v.length)).map fun k : Nat => D.int (k : Int)) [.im (bD ns), .im (bD x), .im (bD y), s3] = .rt (.im (.bl (decide (ixs ns u < ixs ns v)))) [.im (bD ns), .im (bD x), .im (bD y), s3'] ∨
    (forGo (dgName 3) b__law_ahead_L1 ((List.range' pre.length (min u.length v.length)).map fun k : Nat => D.int (k : Int)) [.im (bD ns), .im (bD x), .im (bD y), s3] = .nx [.im (bD ns), .im (bD x), .im (bD y), s3'] ∧ decide (x.length < y.length) = decide (ixs ns u < ixs ns v))
  | [], [], pre, s3, _, e1, e2 => ⟨s3, .inr ⟨rfl, by simp [e1, e2, ixs]⟩⟩
  | [], b :: v, pre, s3, _, e1, e2 => ⟨s3, .inr ⟨by simp [forGo], by simp [e1, e2, ixs]⟩⟩
  | a :: u, [], pre, s3, _, e1, e2 => ⟨s3, .inr ⟨by simp [forGo], by simp [e1, e2, ixs]⟩⟩
  | a :: u, b :: v, pre, s3, f3, e1, e2 => by
    have hm : min (a :: u).length (b :: v).length = min u.length v.length + 1 := by simp only [List.length_cons]; omega
    have g1 : dgName 3 (.int (pre.length : Int)) [.im (bD ns), .im (bD x), .im (bD y), s3] = some [.im (bD ns), .im (bD x), .im (bD y), .im (.int (pre.length : Int))] := by
      rcases f3 with rfl | ⟨d, rfl⟩ <;> simp [dSeq, dAsg, dAsgG, dDrop, dRet, dIfS, dFor, dBreak, dCont, dNever, dNext, dC, dVar, dOp, dUn, dNil, dCons, dCB, dFrz, dTup, dLst, dNone, dSome, dSl, dTest, dtAnd, dtOr, dtNot, dAndV, dOrV, dNotV, dIf, dChain, dLc, dMut, dMutR, dFz, fzAll, fzE, dSetI, dAug, dM1, dCall, diSeq, diR1, diR2, diEnum, noStr, ofX, enumD, dgName, dgNil, dgCons, dgTup, RE.bind, RE.stm, RS.seq, rd, rds, opt, optS, optE, OD.toD, frz, frzs, setSl, X.slot, setI, slotOf, passX, passXs, slots, temps, wb, wr, hideE, unhide, unhid, RS.map, fnM, finR, backP, retX, Sl.par, pAdd, pSub, pMul, pDiv, pMod, pPow, pNeg, pCmp, pIx, pSl, pRev, pLen, pInt, pTuple, pList, pIsi, pAll, pAny, pSum, pMax, pMin, pAugAdd, mApp, mExt, mIns, mPopAt, mPop, OD.isL, OD.isD, isS, D.isNon, pIsN, pNotN, D.tyN, lcEnd, ixN, dMakeF, makeD, dMakeStar, makeStarD, starA, imsX, dMake0, dFldF, rcvA, recvX, dSetF, putFD, pRevL, dMakeF0, RE.calm, List.lookup, dMethF, callD, dOpS, gInO, RE.bl, gBinO, dUnO, dConF, dCvF, pIsiO, dSupM, dCallI, gOp, freeSl, wipeE, restE, lcGo, forGo, pEq, pNe, pEqB, D.scal, L2.scal]
    have hax : atI (x.map D.str) (pre.length : Int) = some (.str a) := by rw [e1]; exact at_pre pre u a
    have hay : atI (y.map D.str) (pre.length : Int) = some (.str b) := by rw [e2]; exact at_pre pre v b
    have hna : a ∈ ns := hx a (by rw [e1]; simp)
    have hnb : b ∈ ns := hy b (by rw [e2]; simp)
    rw [hm, List.range'_succ, List.map_cons]
    unfold forGo
    rw [g1]
    by_cases h : a = b
    · have hb : b__law_ahead_L1 [.im (bD ns), .im (bD x), .im (bD y), .im (.int (pre.length : Int))] = .nx [.im (bD ns), .im (bD x), .im (bD y), .im (.int (pre.length : Int))] := by
        simp [b__law_ahead_L1, dSeq, dAsg, dAsgG, dDrop, dRet, dIfS, dFor, dBreak, dCont, dNever, dNext, dC, dVar, dOp, dUn, dNil, dCons, dCB, dFrz, dTup, dLst, dNone, dSome, dSl, dTest, dtAnd, dtOr, dtNot, dAndV, dOrV, dNotV, dIf, dChain, dLc, dMut, dMutR, dFz, fzAll, fzE, dSetI, dAug, dM1, dCall, diSeq, diR1, diR2, diEnum, noStr, ofX, enumD, dgName, dgNil, dgCons, dgTup, RE.bind, RE.stm, RS.seq, rd, rds, opt, optS, optE, OD.toD, frz, frzs, setSl, X.slot, setI, slotOf, passX, passXs, slots, temps, wb, wr, hideE, unhide, unhid, RS.map, fnM, finR, backP, retX, Sl.par, pAdd, pSub, pMul, pDiv, pMod, pPow, pNeg, pCmp, pIx, pSl, pRev, pLen, pInt, pTuple, pList, pIsi, pAll, pAny, pSum, pMax, pMin, pAugAdd, mApp, mExt, mIns, mPopAt, mPop, OD.isL, OD.isD, isS, D.isNon, pIsN, pNotN, D.tyN, lcEnd, ixN, dMakeF, makeD, dMakeStar, makeStarD, starA, imsX, dMake0, dFldF, rcvA, recvX, dSetF, putFD, pRevL, dMakeF0, RE.calm, List.lookup, dMethF, callD, dOpS, gInO, RE.bl, gBinO, dUnO, dConF, dCvF, pIsiO, dSupM, dCallI, gOp, freeSl, wipeE, restE, lcGo, forGo, pEq, pEqB, D.scal, L2.scal, hax, hay, h, ne_strsR]
      subst h
      obtain ⟨s3', k⟩ := ahead_go ns x y hx hy u v (pre ++ [a]) (.im (.int (pre.length : Int))) (.inr ⟨_, rfl⟩) (by rw [e1]; simp) (by rw [e2]; simp)
      have el : (pre ++ [a]).length = pre.length + 1 := by simp
      rw [el] at k
      simp only [hb]
      have e : (ixs ns (a :: u) < ixs ns (a :: v)) ↔ ixs ns u < ixs ns v := by
        rw [ixs_cons, ixs_cons]
        exact app_lt [_] _ _
      have e' : decide (ixs ns (a :: u) < ixs ns (a :: v)) = decide (ixs ns u < ixs ns v) := decide_eq_decide.mpr e
      rw [e']
      exact ⟨s3', k⟩
    · have t1 := fun env e1 => tix_ok (env := env) (e1 := e1) (e2 := e1) (da := dVar 0) (db := dOp pIx (dVar 1) (dVar 3)) (ns := ns) (w := a)
      have hne : ns.idxOf a ≠ ns.idxOf b := fun q => h (idx_inj hna hnb q)
      have e' : decide (ixs ns (a :: u) < ixs ns (b :: v)) = decide (((ns.idxOf a : Nat) : Int) < ((ns.idxOf b : Nat) : Int)) := by
        refine decide_eq_decide.mpr ?_
        rw [ixs_cons, ixs_cons, List.cons_lt_cons_iff]
        constructor
        · rintro (q | ⟨q, _⟩)
          · exact q
          · exact absurd q (by omega)
        · exact .inl
      have hb : b__law_ahead_L1 [.im (bD ns), .im (bD x), .im (bD y), .im (.int (pre.length : Int))] = .rt (.im (.bl (decide (ixs ns (a :: u) < ixs ns (b :: v))))) [.im (bD ns), .im (bD x), .im (bD y), .im (.int (pre.length : Int))] := by
        rw [e']
        have i1 := ixOf_idx hna
        have i2 := ixOf_idx hnb
        simp [b__law_ahead_L1, dSeq, dAsg, dAsgG, dDrop, dRet, dIfS, dFor, dBreak, dCont, dNever, dNext, dC, dVar, dOp, dUn, dNil, dCons, dCB, dFrz, dTup, dLst, dNone, dSome, dSl, dTest, dtAnd, dtOr, dtNot, dAndV, dOrV, dNotV, dIf, dChain, dLc, dMut, dMutR, dFz, fzAll, fzE, dSetI, dAug, dM1, dCall, diSeq, diR1, diR2, diEnum, noStr, ofX, enumD, dgName, dgNil, dgCons, dgTup, RE.bind, RE.stm, RS.seq, rd, rds, opt, optS, optE, OD.toD, frz, frzs, setSl, X.slot, setI, slotOf, passX, passXs, slots, temps, wb, wr, hideE, unhide, unhid, RS.map, fnM, finR, backP, retX, Sl.par, pAdd, pSub, pMul, pDiv, pMod, pPow, pNeg, pCmp, pIx, pSl, pRev, pLen, pInt, pTuple, pList, pIsi, pAll, pAny, pSum, pMax, pMin, pAugAdd, mApp, mExt, mIns, mPopAt, mPop, OD.isL, OD.isD, isS, D.isNon, pIsN, pNotN, D.tyN, lcEnd, ixN, dMakeF, makeD, dMakeStar, makeStarD, starA, imsX, dMake0, dFldF, rcvA, recvX, dSetF, putFD, pRevL, dMakeF0, RE.calm, List.lookup, dMethF, callD, dOpS, gInO, RE.bl, gBinO, dUnO, dConF, dCvF, pIsiO, dSupM, dCallI, gOp, freeSl, wipeE, restE, lcGo, forGo, pEq, pEqB, D.scal, L2.scal, hax, hay, h, ne_strsR, dTIx, textsD_map, i1, i2]
      simp only [hb]
      exact ⟨_, .inl rfl⟩
theorem ahead_spec {ns x y : List Str} (hx : ∀ w ∈ x, w ∈ ns) (hy : ∀ w ∈ y, w ∈ ns) (hlx : x.length ≤ 1000) (hly : y.length ≤ 1000) : d__law_ahead [.im (bD ns), .im (bD x), .im (bD y)] = .ok (.im (.bl (decide (ixs ns x < ixs ns y)))) [.im (bD ns), .im (bD x), .im (bD y)] := by
  obtain ⟨s3, k⟩ := ahead_go ns x y hx hy x y [] .no (.inl rfl) rfl rfl
  simp only [List.length_nil] at k
  have fx : fit x.length = true := fit_s (by omega)
  have fy : fit y.length = true := fit_s (by omega)
  have hm : (if (y.length : Int) < (x.length : Int) then (y.length : Int) else (x.length : Int)) = ((min x.length y.length : Nat) : Int) := by
    split <;> omega
  have q1 : rgOk ((min x.length y.length : Nat) : Int) = true := rgOk_s (by omega) (by omega)
  have key : ∃ e, b__law_ahead [.im (bD ns), .im (bD x), .im (bD y), .no] = .rt (.im (.bl (decide (ixs ns x < ixs ns y)))) ([.im (bD ns), .im (bD x), .im (bD y)] ++ e) := by
    have hr : (diR1 (dCons (dCB pMin (dCons (dCB pLen (dCons (dVar 1) dNil)) (dCons (dCB pLen (dCons (dVar 2) dNil)) dNil))) dNil)) [.im (bD ns), .im (bD x), .im (bD y), .no] = .ok (((List.range' 0 (min x.length y.length)).map fun k : Nat => D.int (k : Int)), none) [.im (bD ns), .im (bD x), .im (bD y), .no] := by
      have q1' : rgOk (((min x.length y.length : Nat) : Int)) = true := q1
      simp only [dSeq, dAsg, dAsgG, dDrop, dRet, dIfS, dFor, dBreak, dCont, dNever, dNext, dC, dVar, dOp, dUn, dNil, dCons, dCB, dFrz, dTup, dLst, dNone, dSome, dSl, dTest, dtAnd, dtOr, dtNot, dAndV, dOrV, dNotV, dIf, dChain, dLc, dMut, dMutR, dFz, fzAll, fzE, dSetI, dAug, dM1, dCall, diSeq, diR1, diR2, diEnum, noStr, ofX, enumD, dgName, dgNil, dgCons, dgTup, RE.bind, RE.stm, RS.seq, rd, rds, opt, optS, optE, OD.toD, frz, frzs, setSl, X.slot, setI, slotOf, passX, passXs, slots, temps, wb, wr, hideE, unhide, unhid, RS.map, fnM, finR, backP, retX, Sl.par, pAdd, pSub, pMul, pDiv, pMod, pPow, pNeg, pCmp, pIx, pSl, pRev, pLen, pInt, pTuple, pList, pIsi, pAll, pAny, pSum, pMax, pMin, pAugAdd, mApp, mExt, mIns, mPopAt, mPop, OD.isL, OD.isD, isS, D.isNon, pIsN, pNotN, D.tyN, lcEnd, ixN, dMakeF, makeD, dMakeStar, makeStarD, starA, imsX, dMake0, dFldF, rcvA, recvX, dSetF, putFD, pRevL, dMakeF0, RE.calm, List.lookup, dMethF, callD, dOpS, gInO, RE.bl, gBinO, dUnO, dConF, dCvF, pIsiO, dSupM, dCallI, gOp, freeSl, wipeE, restE, lcGo, forGo, pEq, pNe, pEqB, D.scal, L2.scal, List.length_map, List.getElem?_cons_zero, List.getElem?_cons_succ, Option.bind_some, Option.map_some]
      simp only [hm, q1, if_true, Int.toNat_natCast, rgDn]
    unfold b__law_ahead
    rcases k with k | ⟨k, k2⟩
    · refine ⟨[s3], ?_⟩
      simp only [dSeq, dFor, hr, RE.stm, hideE, unhide, k, RS.seq, RS.map]
      rfl
    · refine ⟨[s3], ?_⟩
      simp only [dSeq, dFor, hr, RE.stm, hideE, unhide, k, RS.seq, RS.map]
      rw [← k2]
      simp [dSeq, dAsg, dAsgG, dDrop, dRet, dIfS, dFor, dBreak, dCont, dNever, dNext, dC, dVar, dOp, dUn, dNil, dCons, dCB, dFrz, dTup, dLst, dNone, dSome, dSl, dTest, dtAnd, dtOr, dtNot, dAndV, dOrV, dNotV, dIf, dChain, dLc, dMut, dMutR, dFz, fzAll, fzE, dSetI, dAug, dM1, dCall, diSeq, diR1, diR2, diEnum, noStr, ofX, enumD, dgName, dgNil, dgCons, dgTup, RE.bind, RE.stm, RS.seq, rd, rds, opt, optS, optE, OD.toD, frz, frzs, setSl, X.slot, setI, slotOf, passX, passXs, slots, temps, wb, wr, hideE, unhide, unhid, RS.map, fnM, finR, backP, retX, Sl.par, pAdd, pSub, pMul, pDiv, pMod, pPow, pNeg, pCmp, pIx, pSl, pRev, pLen, pInt, pTuple, pList, pIsi, pAll, pAny, pSum, pMax, pMin, pAugAdd, mApp, mExt, mIns, mPopAt, mPop, OD.isL, OD.isD, isS, D.isNon, pIsN, pNotN, D.tyN, lcEnd, ixN, dMakeF, makeD, dMakeStar, makeStarD, starA, imsX, dMake0, dFldF, rcvA, recvX, dSetF, putFD, pRevL, dMakeF0, RE.calm, List.lookup, dMethF, callD, dOpS, gInO, RE.bl, gBinO, dUnO, dConF, dCvF, pIsiO, dSupM, dCallI, gOp, freeSl, wipeE, restE, lcGo, forGo, pEq, pNe, pEqB, D.scal, L2.scal, fx, fy]
  obtain ⟨e, he⟩ := key
  show fnM 4 3 b__law_ahead [.im (bD ns), .im (bD x), .im (bD y)] = _
  rw [fn_rt (by simp [Sl.par]) he]
  rfl
end Wk

namespace Wk
open PySem PySem.Spec PyProof.Rows L2 TL Dn
theorem intsD_map {α : Type} (f : α → Int) : ∀ xs : List α, intsD (xs.map fun x => D.int (f x)) = some (xs.map f)
  | [] => rfl
  | x :: xs => by simp [intsD, intsD_map f xs]
theorem cntL_all {ns : List Str} {b : List Str} : ∀ {F : List (List Str)}, (∀ x ∈ F, ixs ns b < ixs ns x) → F.filter (fun x => decide (ixs ns x < ixs ns b)) = []
  | F, h => List.filter_eq_nil_iff.mpr fun x hx q => List.lt_asymm (h x hx) (of_decide_eq_true q)
/-- a sorted list falls in two at b -/
theorem ord_cut {ns b : List Str} : ∀ {F : List (List Str)}, (F.Pairwise fun x y => ixs ns x < ixs ns y) → (∀ x ∈ F, ixs ns x ≠ ixs ns b) → ∃ A B, F = A ++ B ∧ (∀ x ∈ A, ixs ns x < ixs ns b) ∧ (∀ x ∈ B, ixs ns b < ixs ns x) ∧ (F.filter fun x => decide (ixs ns x < ixs ns b)) = A
  | [], _, _ => ⟨[], [], rfl, by simp, by simp, rfl⟩
  | x :: F, h, hn => by
    obtain ⟨h1, h2⟩ := List.pairwise_cons.mp h
    by_cases hx : ixs ns x < ixs ns b
    · obtain ⟨A, B, e, a1, a2, a3⟩ := ord_cut h2 fun y hy => hn y (by simp [hy])
      refine ⟨x :: A, B, by rw [e]; rfl, fun y hy => ?_, a2, by rw [List.filter_cons, if_pos (by simpa using hx), a3]⟩
      rcases List.mem_cons.mp hy with rfl | hy
      · exact hx
      · exact a1 y hy
    · have hb : ixs ns b < ixs ns x := by
        refine List.not_le.mp fun q => ?_
        exact hn x (by simp) (List.le_antisymm q (List.not_lt.mp hx))
      have hall : ∀ y ∈ x :: F, ixs ns b < ixs ns y := fun y hy => by
        rcases List.mem_cons.mp hy with rfl | hy
        · exact hb
        · exact List.lt_trans hb (h1 y hy)
      exact ⟨[], x :: F, rfl, by simp, hall, cntL_all hall⟩
theorem ord_ins {ns b : List Str} {A B : List (List Str)} (h : (A ++ B).Pairwise fun x y => ixs ns x < ixs ns y) (h1 : ∀ x ∈ A, ixs ns x < ixs ns b) (h2 : ∀ x ∈ B, ixs ns b < ixs ns x) : (A ++ [b] ++ B).Pairwise fun x y => ixs ns x < ixs ns y := by
  obtain ⟨p1, p2, p3⟩ := List.pairwise_append.mp h
  rw [List.append_assoc]
  refine List.pairwise_append.mpr ⟨p1, List.pairwise_append.mpr ⟨List.pairwise_singleton _ _, p2, fun x hx y hy => ?_⟩, fun x hx y hy => ?_⟩
  · rw [List.mem_singleton.mp hx]
    exact h2 y hy
  · rcases List.mem_append.mp hy with hy | hy
    · rw [List.mem_singleton.mp hy]
      exact h1 x hx
    · exact p3 x hx y hy
/-- rows of a slate -/
def RwsOk (ns : List Str) (rs : List Rw) : Prop := ∀ r ∈ rs, Blt ns r.1 ∧ 0 ≤ r.2 ∧ r.2 ≤ 1000000000000
theorem Blt.low {ns b : List Str} (h : Blt ns b) (hn : ∀ w ∈ ns, WordS w) : ∀ w ∈ b, LowS w := fun w hw => (hn w (h.mem hw)).2.2
theorem sum_of_spec {rs : List Rw} {b : List Str} {s : Sl} (hs : s = .im (.lst (rs.map rowD)) ∨ s = .im (.tup (rs.map rowD))) (hl : rs.length ≤ 1000) (hw : ∀ r ∈ rs, ∀ w ∈ r.1, LowS w) (hb : ∀ w ∈ b, LowS w) : d__law_sum_of [s, .im (bD b)] = .ok (.im (.int (sumOf rs b))) [s, .im (bD b)] := by
  have hc : lcGo (dgTup 2 (dgCons (dgName 2) (dgCons (dgName 3) dgNil))) c__law_sum_of_T1 c__law_sum_of_E1 [2, 3] (rs.map rowD) [s, .im (bD b), .no, .no] [] = .ok ((rs.filter fun r => decide (r.1 = b)).map fun r => D.int r.2) [s, .im (bD b), .no, .no] := by
    rw [lc_map rowD (fun r => decide (r.1 = b)) (fun r => D.int r.2) rs [] ?_ (by simp; omega)]
    · simp
    · intro r hr
      refine ⟨[s, .im (bD b), .im (bD r.1), .im (.int r.2)], by simp [rowD, dSeq, dAsg, dAsgG, dDrop, dRet, dIfS, dFor, dBreak, dCont, dNever, dNext, dC, dVar, dOp, dUn, dNil, dCons, dCB, dFrz, dTup, dLst, dNone, dSome, dSl, dTest, dtAnd, dtOr, dtNot, dAndV, dOrV, dNotV, dIf, dChain, dLc, dMut, dMutR, dFz, fzAll, fzE, dSetI, dAug, dM1, dCall, diSeq, diR1, diR2, diEnum, noStr, ofX, enumD, dgName, dgNil, dgCons, dgTup, RE.bind, RE.stm, RS.seq, rd, rds, opt, optS, optE, OD.toD, frz, frzs, setSl, X.slot, setI, slotOf, passX, passXs, slots, temps, wb, wr, hideE, unhide, unhid, RS.map, fnM, finR, backP, retX, Sl.par, pAdd, pSub, pMul, pDiv, pMod, pPow, pNeg, pCmp, pIx, pSl, pRev, pLen, pInt, pTuple, pList, pIsi, pAll, pAny, pSum, pMax, pMin, pAugAdd, mApp, mExt, mIns, mPopAt, mPop, OD.isL, OD.isD, isS, D.isNon, pIsN, pNotN, D.tyN, lcEnd, ixN, dMakeF, makeD, dMakeStar, makeStarD, starA, imsX, dMake0, dFldF, rcvA, recvX, dSetF, putFD, pRevL, dMakeF0, RE.calm, List.lookup, dMethF, callD, dOpS, gInO, RE.bl, gBinO, dUnO, dConF, dCvF, pIsiO, dSupM, dCallI, gOp, dNewT, dNewK, dGetD, dSetD, setD, diKs, pListO, pLenO, imX, isDic, dArr, freeSl, wipeE, restE, lcGo, forGo, pEq, pNe, pEqB, D.scal, L2.scal], ?_, fun _ => ?_, by simp [wipeE]⟩
      · have := eq_bs r.1 b (hw r hr) hb
        simp [c__law_sum_of_T1, dSeq, dAsg, dAsgG, dDrop, dRet, dIfS, dFor, dBreak, dCont, dNever, dNext, dC, dVar, dOp, dUn, dNil, dCons, dCB, dFrz, dTup, dLst, dNone, dSome, dSl, dTest, dtAnd, dtOr, dtNot, dAndV, dOrV, dNotV, dIf, dChain, dLc, dMut, dMutR, dFz, fzAll, fzE, dSetI, dAug, dM1, dCall, diSeq, diR1, diR2, diEnum, noStr, ofX, enumD, dgName, dgNil, dgCons, dgTup, RE.bind, RE.stm, RS.seq, rd, rds, opt, optS, optE, OD.toD, frz, frzs, setSl, X.slot, setI, slotOf, passX, passXs, slots, temps, wb, wr, hideE, unhide, unhid, RS.map, fnM, finR, backP, retX, Sl.par, pAdd, pSub, pMul, pDiv, pMod, pPow, pNeg, pCmp, pIx, pSl, pRev, pLen, pInt, pTuple, pList, pIsi, pAll, pAny, pSum, pMax, pMin, pAugAdd, mApp, mExt, mIns, mPopAt, mPop, OD.isL, OD.isD, isS, D.isNon, pIsN, pNotN, D.tyN, lcEnd, ixN, dMakeF, makeD, dMakeStar, makeStarD, starA, imsX, dMake0, dFldF, rcvA, recvX, dSetF, putFD, pRevL, dMakeF0, RE.calm, List.lookup, dMethF, callD, dOpS, gInO, RE.bl, gBinO, dUnO, dConF, dCvF, pIsiO, dSupM, dCallI, gOp, dNewT, dNewK, dGetD, dSetD, setD, diKs, pListO, pLenO, imX, isDic, dArr, freeSl, wipeE, restE, lcGo, forGo, pNe, pEqB, D.scal, L2.scal, this]
      · exact ⟨.im (.int r.2), by simp [c__law_sum_of_E1, dSeq, dAsg, dAsgG, dDrop, dRet, dIfS, dFor, dBreak, dCont, dNever, dNext, dC, dVar, dOp, dUn, dNil, dCons, dCB, dFrz, dTup, dLst, dNone, dSome, dSl, dTest, dtAnd, dtOr, dtNot, dAndV, dOrV, dNotV, dIf, dChain, dLc, dMut, dMutR, dFz, fzAll, fzE, dSetI, dAug, dM1, dCall, diSeq, diR1, diR2, diEnum, noStr, ofX, enumD, dgName, dgNil, dgCons, dgTup, RE.bind, RE.stm, RS.seq, rd, rds, opt, optS, optE, OD.toD, frz, frzs, setSl, X.slot, setI, slotOf, passX, passXs, slots, temps, wb, wr, hideE, unhide, unhid, RS.map, fnM, finR, backP, retX, Sl.par, pAdd, pSub, pMul, pDiv, pMod, pPow, pNeg, pCmp, pIx, pSl, pRev, pLen, pInt, pTuple, pList, pIsi, pAll, pAny, pSum, pMax, pMin, pAugAdd, mApp, mExt, mIns, mPopAt, mPop, OD.isL, OD.isD, isS, D.isNon, pIsN, pNotN, D.tyN, lcEnd, ixN, dMakeF, makeD, dMakeStar, makeStarD, starA, imsX, dMake0, dFldF, rcvA, recvX, dSetF, putFD, pRevL, dMakeF0, RE.calm, List.lookup, dMethF, callD, dOpS, gInO, RE.bl, gBinO, dUnO, dConF, dCvF, pIsiO, dSupM, dCallI, gOp, dNewT, dNewK, dGetD, dSetD, setD, diKs, pListO, pLenO, imX, isDic, dArr, freeSl, wipeE, restE, lcGo, forGo, pEq, pNe, pEqB, D.scal, L2.scal], rfl⟩
  have e := intsD_map (fun r : Rw => r.2) (rs.filter fun r => decide (r.1 = b))
  rcases hs with rfl | rfl <;> simp [d__law_sum_of, b__law_sum_of, dSeq, dAsg, dAsgG, dDrop, dRet, dIfS, dFor, dBreak, dCont, dNever, dNext, dC, dVar, dOp, dUn, dNil, dCons, dCB, dFrz, dTup, dLst, dNone, dSome, dSl, dTest, dtAnd, dtOr, dtNot, dAndV, dOrV, dNotV, dIf, dChain, dLc, dMut, dMutR, dFz, fzAll, fzE, dSetI, dAug, dM1, dCall, diSeq, diR1, diR2, diEnum, noStr, ofX, enumD, dgName, dgNil, dgCons, dgTup, RE.bind, RE.stm, RS.seq, rd, rds, opt, optS, optE, OD.toD, frz, frzs, setSl, X.slot, setI, slotOf, passX, passXs, slots, temps, wb, wr, hideE, unhide, unhid, RS.map, fnM, finR, backP, retX, Sl.par, pAdd, pSub, pMul, pDiv, pMod, pPow, pNeg, pCmp, pIx, pSl, pRev, pLen, pInt, pTuple, pList, pIsi, pAll, pAny, pSum, pMax, pMin, pAugAdd, mApp, mExt, mIns, mPopAt, mPop, OD.isL, OD.isD, isS, D.isNon, pIsN, pNotN, D.tyN, lcEnd, ixN, dMakeF, makeD, dMakeStar, makeStarD, starA, imsX, dMake0, dFldF, rcvA, recvX, dSetF, putFD, pRevL, dMakeF0, RE.calm, List.lookup, dMethF, callD, dOpS, gInO, RE.bl, gBinO, dUnO, dConF, dCvF, pIsiO, dSupM, dCallI, gOp, dNewT, dNewK, dGetD, dSetD, setD, diKs, pListO, pLenO, imX, isDic, dArr, freeSl, wipeE, restE, forGo, pEq, pNe, pEqB, D.scal, L2.scal, hc, e, sumOf]
def OrdI (ns : List Str) (rs : List Rw) (s1 : Sl) (xs : List D) (env : Ev) : Prop := ∃ (pre post : List Rw) (F : List (List Str)) (s3 s4 s5 : Sl), rs = pre ++ post ∧ xs = post.map rowD ∧ env = [.im (bD ns), s1, .ow false (.lst (F.map bD)), s3, s4, s5, .no] ∧ Fr s3 ∧ Fr s4 ∧ Fr s5 ∧ (F.Pairwise fun x y => ixs ns x < ixs ns y) ∧ (∀ b, b ∈ F ↔ b ∈ pre.map (·.1) ∧ 0 < sumOf rs b) ∧ F.length ≤ pre.length
theorem ord_L1 {ns : List Str} {rs : List Rw} {s1 : Sl} (hn : ∀ w ∈ ns, WordS w) (hnl : ns.length ≤ 100) (hr : RwsOk ns rs) (hl : rs.length ≤ 1000) (hs : s1 = .im (.lst (rs.map rowD)) ∨ s1 = .im (.tup (rs.map rowD))) : ∀ xs env, OrdI ns rs s1 xs env → ∃ e', forGo (dgTup 2 (dgCons (dgName 3) (dgCons (dgName 4) dgNil))) b__law_ordered_L1 xs env = .nx e' ∧ OrdI ns rs s1 [] e' := by
  refine for_nx (OrdI ns rs s1) ?_
  rintro x xs env ⟨pre, post, F, s3, s4, s5, e1, e2, rfl, f3, f4, f5, hF, hm, hFl⟩
  cases post with
  | nil => cases e2
  | cons r post =>
    obtain ⟨b, c⟩ := r
    cases e2
    have hmem : (b, c) ∈ rs := by rw [e1]; simp
    have hlen : rs.length = pre.length + (post.length + 1) := by rw [e1]; simp
    have hB : Blt ns b := (hr _ hmem).1
    have hbl := hB.low hn
    have hFm : ∀ x ∈ F, Blt ns x := fun x hx => by
      obtain ⟨q, hq, rfl⟩ := List.mem_map.mp ((hm x).mp hx).1
      exact (hr q (by rw [e1]; simp [hq])).1
    have hFw : ∀ x ∈ F, ∀ w ∈ x, LowS w := fun x hx => (hFm x hx).low hn
    have hin := in_bs b F hbl hFw
    have hsum := sum_of_spec (s := s1) hs hl (fun q hq => (hr q hq).1.low hn) hbl
    have hg : dgTup 2 (dgCons (dgName 3) (dgCons (dgName 4) dgNil)) (rowD (b, c)) [.im (bD ns), s1, .ow false (.lst (F.map bD)), s3, s4, s5, .no] = some [.im (bD ns), s1, .ow false (.lst (F.map bD)), .im (bD b), .im (.int c), s5, .no] := by
      rcases f3 with rfl | ⟨_, rfl⟩ <;> rcases f4 with rfl | ⟨_, rfl⟩ <;> rcases hs with rfl | rfl <;> simp [dSeq, dAsg, dAsgG, dDrop, dRet, dIfS, dFor, dBreak, dCont, dNever, dNext, dC, dVar, dOp, dUn, dNil, dCons, dCB, dFrz, dTup, dLst, dNone, dSome, dSl, dTest, dtAnd, dtOr, dtNot, dAndV, dOrV, dNotV, dIf, dChain, dLc, dMut, dMutR, dFz, fzAll, fzE, dSetI, dAug, dM1, dCall, diSeq, diR1, diR2, diEnum, noStr, ofX, enumD, dgName, dgNil, dgCons, dgTup, RE.bind, RE.stm, RS.seq, rd, rds, opt, optS, optE, OD.toD, frz, frzs, setSl, X.slot, setI, slotOf, passX, passXs, slots, temps, wb, wr, hideE, unhide, unhid, RS.map, fnM, finR, backP, retX, Sl.par, pAdd, pSub, pMul, pDiv, pMod, pPow, pNeg, pCmp, pIx, pSl, pRev, pLen, pInt, pTuple, pList, pIsi, pAll, pAny, pSum, pMax, pMin, pAugAdd, mApp, mExt, mIns, mPopAt, mPop, OD.isL, OD.isD, isS, D.isNon, pIsN, pNotN, D.tyN, lcEnd, ixN, dMakeF, makeD, dMakeStar, makeStarD, starA, imsX, dMake0, dFldF, rcvA, recvX, dSetF, putFD, pRevL, dMakeF0, RE.calm, List.lookup, dMethF, callD, dOpS, gInO, RE.bl, gBinO, dUnO, dConF, dCvF, pIsiO, dSupM, dCallI, gOp, dNewT, dNewK, dGetD, dSetD, setD, diKs, pListO, pLenO, imX, isDic, dArr, freeSl, wipeE, restE, lcGo, forGo, pEq, pNe, pEqB, D.scal, L2.scal, rowD]
    have hpm : ∀ z : List Str, z ∈ (pre ++ [(b, c)]).map (·.1) ↔ z ∈ pre.map (·.1) ∨ z = b := fun z => by simp
    by_cases hq : b ∉ F ∧ 0 < sumOf rs b
    · obtain ⟨q1, q2⟩ := hq
      have hne : ∀ x ∈ F, ixs ns x ≠ ixs ns b := fun x hx e => q1 (by rw [← ixs_inj (fun w hw => (hFm x hx).mem hw) (fun w hw => hB.mem hw) e]; exact hx)
      obtain ⟨A, B, a1, a2, a3, a4⟩ := ord_cut hF hne
      have hcomp : lcGo (dgName 6) c__law_ordered_T1 c__law_ordered_E1 [6] (F.map bD) [.im (bD ns), s1, .hid, .im (bD b), .im (.int c), s5, .no] [] = .ok (A.map bD) [.im (bD ns), s1, .hid, .im (bD b), .im (.int c), s5, .no] := by
        rw [lc_map bD (fun x => decide (ixs ns x < ixs ns b)) bD F [] ?_ (by simp; omega)]
        · rw [a4]
          simp
        · intro x hx
          have ha := ahead_spec (ns := ns) (x := x) (y := b) (fun w hw => (hFm x hx).mem hw) (fun w hw => hB.mem hw) (Nat.le_trans (hFm x hx).len (by omega)) (Nat.le_trans hB.len (by omega))
          refine ⟨[.im (bD ns), s1, .hid, .im (bD b), .im (.int c), s5, .im (bD x)], by simp [dSeq, dAsg, dAsgG, dDrop, dRet, dIfS, dFor, dBreak, dCont, dNever, dNext, dC, dVar, dOp, dUn, dNil, dCons, dCB, dFrz, dTup, dLst, dNone, dSome, dSl, dTest, dtAnd, dtOr, dtNot, dAndV, dOrV, dNotV, dIf, dChain, dLc, dMut, dMutR, dFz, fzAll, fzE, dSetI, dAug, dM1, dCall, diSeq, diR1, diR2, diEnum, noStr, ofX, enumD, dgName, dgNil, dgCons, dgTup, RE.bind, RE.stm, RS.seq, rd, rds, opt, optS, optE, OD.toD, frz, frzs, setSl, X.slot, setI, slotOf, passX, passXs, slots, temps, wb, wr, hideE, unhide, unhid, RS.map, fnM, finR, backP, retX, Sl.par, pAdd, pSub, pMul, pDiv, pMod, pPow, pNeg, pCmp, pIx, pSl, pRev, pLen, pInt, pTuple, pList, pIsi, pAll, pAny, pSum, pMax, pMin, pAugAdd, mApp, mExt, mIns, mPopAt, mPop, OD.isL, OD.isD, isS, D.isNon, pIsN, pNotN, D.tyN, lcEnd, ixN, dMakeF, makeD, dMakeStar, makeStarD, starA, imsX, dMake0, dFldF, rcvA, recvX, dSetF, putFD, pRevL, dMakeF0, RE.calm, List.lookup, dMethF, callD, dOpS, gInO, RE.bl, gBinO, dUnO, dConF, dCvF, pIsiO, dSupM, dCallI, gOp, dNewT, dNewK, dGetD, dSetD, setD, diKs, pListO, pLenO, imX, isDic, dArr, freeSl, wipeE, restE, lcGo, forGo, pEq, pNe, pEqB, D.scal, L2.scal], ?_, fun _ => ⟨.im (bD x), by simp [c__law_ordered_E1, dSeq, dAsg, dAsgG, dDrop, dRet, dIfS, dFor, dBreak, dCont, dNever, dNext, dC, dVar, dOp, dUn, dNil, dCons, dCB, dFrz, dTup, dLst, dNone, dSome, dSl, dTest, dtAnd, dtOr, dtNot, dAndV, dOrV, dNotV, dIf, dChain, dLc, dMut, dMutR, dFz, fzAll, fzE, dSetI, dAug, dM1, dCall, diSeq, diR1, diR2, diEnum, noStr, ofX, enumD, dgName, dgNil, dgCons, dgTup, RE.bind, RE.stm, RS.seq, rd, rds, opt, optS, optE, OD.toD, frz, frzs, setSl, X.slot, setI, slotOf, passX, passXs, slots, temps, wb, wr, hideE, unhide, unhid, RS.map, fnM, finR, backP, retX, Sl.par, pAdd, pSub, pMul, pDiv, pMod, pPow, pNeg, pCmp, pIx, pSl, pRev, pLen, pInt, pTuple, pList, pIsi, pAll, pAny, pSum, pMax, pMin, pAugAdd, mApp, mExt, mIns, mPopAt, mPop, OD.isL, OD.isD, isS, D.isNon, pIsN, pNotN, D.tyN, lcEnd, ixN, dMakeF, makeD, dMakeStar, makeStarD, starA, imsX, dMake0, dFldF, rcvA, recvX, dSetF, putFD, pRevL, dMakeF0, RE.calm, List.lookup, dMethF, callD, dOpS, gInO, RE.bl, gBinO, dUnO, dConF, dCvF, pIsiO, dSupM, dCallI, gOp, dNewT, dNewK, dGetD, dSetD, setD, diKs, pListO, pLenO, imX, isDic, dArr, freeSl, wipeE, restE, lcGo, forGo, pEq, pNe, pEqB, D.scal, L2.scal], rfl⟩, by simp [wipeE]⟩
          unfold c__law_ordered_T1
          generalize d__law_ahead = g1 at *
          simp [dSeq, dAsg, dAsgG, dDrop, dRet, dIfS, dFor, dBreak, dCont, dNever, dNext, dC, dVar, dOp, dUn, dNil, dCons, dCB, dFrz, dTup, dLst, dNone, dSome, dSl, dTest, dtAnd, dtOr, dtNot, dAndV, dOrV, dNotV, dIf, dChain, dLc, dMut, dMutR, dFz, fzAll, fzE, dSetI, dAug, dM1, dCall, diSeq, diR1, diR2, diEnum, noStr, ofX, enumD, dgName, dgNil, dgCons, dgTup, RE.bind, RE.stm, RS.seq, rd, rds, opt, optS, optE, OD.toD, frz, frzs, setSl, X.slot, setI, slotOf, passX, passXs, slots, temps, wb, wr, hideE, unhide, unhid, RS.map, fnM, finR, backP, retX, Sl.par, pAdd, pSub, pMul, pDiv, pMod, pPow, pNeg, pCmp, pIx, pSl, pRev, pLen, pInt, pTuple, pList, pIsi, pAll, pAny, pSum, pMax, pMin, pAugAdd, mApp, mExt, mIns, mPopAt, mPop, OD.isL, OD.isD, isS, D.isNon, pIsN, pNotN, D.tyN, lcEnd, ixN, dMakeF, makeD, dMakeStar, makeStarD, starA, imsX, dMake0, dFldF, rcvA, recvX, dSetF, putFD, pRevL, dMakeF0, RE.calm, List.lookup, dMethF, callD, dOpS, gInO, RE.bl, gBinO, dUnO, dConF, dCvF, pIsiO, dSupM, dCallI, gOp, dNewT, dNewK, dGetD, dSetD, setD, diKs, pListO, pLenO, imX, isDic, dArr, freeSl, wipeE, restE, lcGo, forGo, pEq, pNe, pEqB, D.scal, L2.scal, ha]
      have hAl : A.length ≤ 1000 := by
        have : F.length = A.length + B.length := by rw [a1]; simp
        omega
      have f1 : fit A.length = true := fit_s (by omega)
      have f2 : fit (F.length + 1) = true := fit_s (by omega)
      have f3' : rgOk (A.length : Int) = true := rgOk_s (by omega) (by omega)
      have htk : (F.map bD).take A.length = A.map bD := by rw [a1, List.map_append]; simp
      have hdr : (F.map bD).drop A.length = B.map bD := by rw [a1, List.map_append]; simp
      refine ⟨_, [.im (bD ns), s1, .ow false (.lst ((A ++ [b] ++ B).map bD)), .im (bD b), .im (.int c), .im (.int (A.length : Int)), .no], hg, .inl ?_, ?_⟩
      · unfold b__law_ordered_L1
        generalize d__law_sum_of = g1 at *
        have hab : (A ++ [b] ++ B).map bD = A.map bD ++ bD b :: B.map bD := by simp
        rw [hab]
        generalize hFF : F.map bD = FD at *
        have hFL : FD.length = F.length := by rw [← hFF]; simp
        rw [← hFL] at f2
        generalize hAA : A.map bD = AD at *
        have hAL : AD.length = A.length := by rw [← hAA]; simp
        rw [← hAL] at f1 f3' htk hdr ⊢
        rcases f5 with rfl | ⟨_, rfl⟩ <;> rcases hs with rfl | rfl <;> simp [dSeq, dAsg, dAsgG, dDrop, dRet, dIfS, dFor, dBreak, dCont, dNever, dNext, dC, dVar, dOp, dUn, dNil, dCons, dCB, dFrz, dTup, dLst, dNone, dSome, dSl, dTest, dtAnd, dtOr, dtNot, dAndV, dOrV, dNotV, dIf, dChain, dLc, dMut, dMutR, dFz, fzAll, fzE, dSetI, dAug, dM1, dCall, diSeq, diR1, diR2, diEnum, noStr, ofX, enumD, dgName, dgNil, dgCons, dgTup, RE.bind, RE.stm, RS.seq, rd, rds, opt, optS, optE, OD.toD, frz, frzs, setSl, X.slot, setI, slotOf, passX, passXs, slots, temps, wb, wr, hideE, unhide, unhid, RS.map, fnM, finR, backP, retX, Sl.par, pAdd, pSub, pMul, pDiv, pMod, pPow, pNeg, pCmp, pIx, pSl, pRev, pLen, pInt, pTuple, pList, pIsi, pAll, pAny, pSum, pMax, pMin, pAugAdd, mApp, mExt, mIns, mPopAt, mPop, OD.isL, OD.isD, isS, D.isNon, pIsN, pNotN, D.tyN, lcEnd, ixN, dMakeF, makeD, dMakeStar, makeStarD, starA, imsX, dMake0, dFldF, rcvA, recvX, dSetF, putFD, pRevL, dMakeF0, RE.calm, List.lookup, dMethF, callD, dOpS, gInO, RE.bl, gBinO, dUnO, dConF, dCvF, pIsiO, dSupM, dCallI, gOp, dNewT, dNewK, dGetD, dSetD, setD, diKs, pListO, pLenO, imX, isDic, dArr, freeSl, wipeE, restE, forGo, pEq, pNe, pEqB, D.scal, L2.scal, pNotIn, hin, hsum, q1, q2, hcomp, mIns, f1, f2, f3', htk, hdr]
      · refine ⟨pre ++ [(b, c)], post, A ++ [b] ++ B, _, _, _, by rw [e1]; simp, rfl, rfl, .inr ⟨_, rfl⟩, .inr ⟨_, rfl⟩, .inr ⟨_, rfl⟩, ord_ins (by rw [← a1]; exact hF) a2 a3, fun z => ?_, ?_⟩
        · rw [hpm]
          have : z ∈ A ++ [b] ++ B ↔ z ∈ F ∨ z = b := by
            rw [a1]
            simp only [List.mem_append, List.mem_singleton]
            constructor
            · rintro ((h | h) | h) <;> simp [h]
            · rintro ((h | h) | h) <;> simp [h]
          rw [this, hm z]
          constructor
          · rintro (⟨h1, h2⟩ | rfl)
            · exact ⟨.inl h1, h2⟩
            · exact ⟨.inr rfl, q2⟩
          · rintro ⟨h1 | rfl, h2⟩
            · exact .inl ⟨h1, h2⟩
            · exact .inr rfl
        · have : F.length = A.length + B.length := by rw [a1]; simp
          simp
          omega
    · refine ⟨_, [.im (bD ns), s1, .ow false (.lst (F.map bD)), .im (bD b), .im (.int c), s5, .no], hg, .inl ?_, ?_⟩
      · unfold b__law_ordered_L1
        generalize d__law_sum_of = g1 at *
        generalize F.map bD = FD at *
        by_cases q1 : b ∈ F
        · rcases f5 with rfl | ⟨_, rfl⟩ <;> rcases hs with rfl | rfl <;> simp [dSeq, dAsg, dAsgG, dDrop, dRet, dIfS, dFor, dBreak, dCont, dNever, dNext, dC, dVar, dOp, dUn, dNil, dCons, dCB, dFrz, dTup, dLst, dNone, dSome, dSl, dTest, dtAnd, dtOr, dtNot, dAndV, dOrV, dNotV, dIf, dChain, dLc, dMut, dMutR, dFz, fzAll, fzE, dSetI, dAug, dM1, dCall, diSeq, diR1, diR2, diEnum, noStr, ofX, enumD, dgName, dgNil, dgCons, dgTup, RE.bind, RE.stm, RS.seq, rd, rds, opt, optS, optE, OD.toD, frz, frzs, setSl, X.slot, setI, slotOf, passX, passXs, slots, temps, wb, wr, hideE, unhide, unhid, RS.map, fnM, finR, backP, retX, Sl.par, pAdd, pSub, pMul, pDiv, pMod, pPow, pNeg, pCmp, pIx, pSl, pRev, pLen, pInt, pTuple, pList, pIsi, pAll, pAny, pSum, pMax, pMin, pAugAdd, mApp, mExt, mIns, mPopAt, mPop, OD.isL, OD.isD, isS, D.isNon, pIsN, pNotN, D.tyN, lcEnd, ixN, dMakeF, makeD, dMakeStar, makeStarD, starA, imsX, dMake0, dFldF, rcvA, recvX, dSetF, putFD, pRevL, dMakeF0, RE.calm, List.lookup, dMethF, callD, dOpS, gInO, RE.bl, gBinO, dUnO, dConF, dCvF, pIsiO, dSupM, dCallI, gOp, dNewT, dNewK, dGetD, dSetD, setD, diKs, pListO, pLenO, imX, isDic, dArr, freeSl, wipeE, restE, forGo, pEq, pNe, pEqB, D.scal, L2.scal, pNotIn, hin, q1]
        · have q2 : ¬ 0 < sumOf rs b := fun z => hq ⟨q1, z⟩
          rcases f5 with rfl | ⟨_, rfl⟩ <;> rcases hs with rfl | rfl <;> simp [dSeq, dAsg, dAsgG, dDrop, dRet, dIfS, dFor, dBreak, dCont, dNever, dNext, dC, dVar, dOp, dUn, dNil, dCons, dCB, dFrz, dTup, dLst, dNone, dSome, dSl, dTest, dtAnd, dtOr, dtNot, dAndV, dOrV, dNotV, dIf, dChain, dLc, dMut, dMutR, dFz, fzAll, fzE, dSetI, dAug, dM1, dCall, diSeq, diR1, diR2, diEnum, noStr, ofX, enumD, dgName, dgNil, dgCons, dgTup, RE.bind, RE.stm, RS.seq, rd, rds, opt, optS, optE, OD.toD, frz, frzs, setSl, X.slot, setI, slotOf, passX, passXs, slots, temps, wb, wr, hideE, unhide, unhid, RS.map, fnM, finR, backP, retX, Sl.par, pAdd, pSub, pMul, pDiv, pMod, pPow, pNeg, pCmp, pIx, pSl, pRev, pLen, pInt, pTuple, pList, pIsi, pAll, pAny, pSum, pMax, pMin, pAugAdd, mApp, mExt, mIns, mPopAt, mPop, OD.isL, OD.isD, isS, D.isNon, pIsN, pNotN, D.tyN, lcEnd, ixN, dMakeF, makeD, dMakeStar, makeStarD, starA, imsX, dMake0, dFldF, rcvA, recvX, dSetF, putFD, pRevL, dMakeF0, RE.calm, List.lookup, dMethF, callD, dOpS, gInO, RE.bl, gBinO, dUnO, dConF, dCvF, pIsiO, dSupM, dCallI, gOp, dNewT, dNewK, dGetD, dSetD, setD, diKs, pListO, pLenO, imX, isDic, dArr, freeSl, wipeE, restE, forGo, pEq, pNe, pEqB, D.scal, L2.scal, pNotIn, hin, q1, hsum, q2]
      · refine ⟨pre ++ [(b, c)], post, F, _, _, _, by rw [e1]; simp, rfl, rfl, .inr ⟨_, rfl⟩, .inr ⟨_, rfl⟩, f5, hF, fun z => ?_, by simp; omega⟩
        rw [hpm, hm z]
        constructor
        · rintro ⟨h1, h2⟩
          exact ⟨.inl h1, h2⟩
        · rintro ⟨h1 | rfl, h2⟩
          · exact ⟨h1, h2⟩
          · exact ((hm z).mp (Decidable.byContradiction fun h => hq ⟨h, h2⟩))
theorem ordered_spec {ns : List Str} {rs : List Rw} {s1 : Sl} (hn : ∀ w ∈ ns, WordS w) (hnl : ns.length ≤ 100) (hr : RwsOk ns rs) (hl : rs.length ≤ 1000) (hs : s1 = .im (.lst (rs.map rowD)) ∨ s1 = .im (.tup (rs.map rowD))) : ∃ L, IsOrd ns (sumOf rs) L ∧ d__law_ordered [.im (bD ns), s1] = .ok (.ow (.lst (rowsD (sumOf rs) L))) [.im (bD ns), s1] ∧ L.length ≤ rs.length := by
  obtain ⟨e', j1, pre, post, F, s3, s4, s5, e1, e2, rfl, f3, f4, f5, hF, hm, hFl⟩ := ord_L1 (s1 := s1) hn hnl hr hl hs (rs.map rowD) [.im (bD ns), s1, .ow false (.lst []), .no, .no, .no, .no] ⟨[], rs, [], .no, .no, .no, rfl, rfl, rfl, .inl rfl, .inl rfl, .inl rfl, .nil, by simp, Nat.le_refl _⟩
  have hp : post = [] := by
    cases post with
    | nil => rfl
    | cons => cases e2
  subst hp
  rw [List.append_nil] at e1
  subst e1
  refine ⟨F, ⟨hF, fun b => (hm b).trans ⟨fun h => h.2, fun h => ⟨sumOf_mem h, h⟩⟩⟩, ?_, hFl⟩
  have hcomp : ∀ s4 s5 : Sl, lcGo (dgName 3) (fun env => .ok true env) c__law_ordered_E2 [3] (F.map bD) [.im (bD ns), s1, .hid, .no, s4, s5, .no] [] = .ok (rowsD (sumOf rs) F) [.im (bD ns), s1, .hid, .no, s4, s5, .no] := fun s4 s5 => by
    rw [lc_map bD (fun _ => true) (fun b => rowD (b, sumOf rs b)) F [] ?_ (by simp; omega)]
    · rw [filt_true]
      rfl
    · intro x hx
      obtain ⟨q, hq, rfl⟩ := List.mem_map.mp ((hm x).mp hx).1
      have hsum := sum_of_spec (s := s1) (b := q.1) hs hl (fun q hq => (hr q hq).1.low hn) ((hr q hq).1.low hn)
      refine ⟨[.im (bD ns), s1, .hid, .im (bD q.1), s4, s5, .no], by simp [dSeq, dAsg, dAsgG, dDrop, dRet, dIfS, dFor, dBreak, dCont, dNever, dNext, dC, dVar, dOp, dUn, dNil, dCons, dCB, dFrz, dTup, dLst, dNone, dSome, dSl, dTest, dtAnd, dtOr, dtNot, dAndV, dOrV, dNotV, dIf, dChain, dLc, dMut, dMutR, dFz, fzAll, fzE, dSetI, dAug, dM1, dCall, diSeq, diR1, diR2, diEnum, noStr, ofX, enumD, dgName, dgNil, dgCons, dgTup, RE.bind, RE.stm, RS.seq, rd, rds, opt, optS, optE, OD.toD, frz, frzs, setSl, X.slot, setI, slotOf, passX, passXs, slots, temps, wb, wr, hideE, unhide, unhid, RS.map, fnM, finR, backP, retX, Sl.par, pAdd, pSub, pMul, pDiv, pMod, pPow, pNeg, pCmp, pIx, pSl, pRev, pLen, pInt, pTuple, pList, pIsi, pAll, pAny, pSum, pMax, pMin, pAugAdd, mApp, mExt, mIns, mPopAt, mPop, OD.isL, OD.isD, isS, D.isNon, pIsN, pNotN, D.tyN, lcEnd, ixN, dMakeF, makeD, dMakeStar, makeStarD, starA, imsX, dMake0, dFldF, rcvA, recvX, dSetF, putFD, pRevL, dMakeF0, RE.calm, List.lookup, dMethF, callD, dOpS, gInO, RE.bl, gBinO, dUnO, dConF, dCvF, pIsiO, dSupM, dCallI, gOp, dNewT, dNewK, dGetD, dSetD, setD, diKs, pListO, pLenO, imX, isDic, dArr, freeSl, wipeE, restE, lcGo, forGo, pEq, pNe, pEqB, D.scal, L2.scal], rfl, fun _ => ⟨.im (rowD (q.1, sumOf rs q.1)), ?_, rfl⟩, by simp [wipeE]⟩
      unfold c__law_ordered_E2
      generalize d__law_sum_of = g1 at *
      rcases hs with rfl | rfl <;> simp [dSeq, dAsg, dAsgG, dDrop, dRet, dIfS, dFor, dBreak, dCont, dNever, dNext, dC, dVar, dOp, dUn, dNil, dCons, dCB, dFrz, dTup, dLst, dNone, dSome, dSl, dTest, dtAnd, dtOr, dtNot, dAndV, dOrV, dNotV, dIf, dChain, dLc, dMut, dMutR, dFz, fzAll, fzE, dSetI, dAug, dM1, dCall, diSeq, diR1, diR2, diEnum, noStr, ofX, enumD, dgName, dgNil, dgCons, dgTup, RE.bind, RE.stm, RS.seq, rd, rds, opt, optS, optE, OD.toD, frz, frzs, setSl, X.slot, setI, slotOf, passX, passXs, slots, temps, wb, wr, hideE, unhide, unhid, RS.map, fnM, finR, backP, retX, Sl.par, pAdd, pSub, pMul, pDiv, pMod, pPow, pNeg, pCmp, pIx, pSl, pRev, pLen, pInt, pTuple, pList, pIsi, pAll, pAny, pSum, pMax, pMin, pAugAdd, mApp, mExt, mIns, mPopAt, mPop, OD.isL, OD.isD, isS, D.isNon, pIsN, pNotN, D.tyN, lcEnd, ixN, dMakeF, makeD, dMakeStar, makeStarD, starA, imsX, dMake0, dFldF, rcvA, recvX, dSetF, putFD, pRevL, dMakeF0, RE.calm, List.lookup, dMethF, callD, dOpS, gInO, RE.bl, gBinO, dUnO, dConF, dCvF, pIsiO, dSupM, dCallI, gOp, dNewT, dNewK, dGetD, dSetD, setD, diKs, pListO, pLenO, imX, isDic, dArr, freeSl, wipeE, restE, lcGo, forGo, pEq, pNe, pEqB, D.scal, L2.scal, hsum, rowD, fit_s]
  have f0 : fit 0 = true := by decide
  generalize rowsD (sumOf rs) F = RR at *
  rcases f3 with rfl | ⟨_, rfl⟩ <;> rcases hs with rfl | rfl <;> simp [d__law_ordered, b__law_ordered, dSeq, dAsg, dAsgG, dDrop, dRet, dIfS, dFor, dBreak, dCont, dNever, dNext, dC, dVar, dOp, dUn, dNil, dCons, dCB, dFrz, dTup, dLst, dNone, dSome, dSl, dTest, dtAnd, dtOr, dtNot, dAndV, dOrV, dNotV, dIf, dChain, dLc, dMut, dMutR, dFz, fzAll, fzE, dSetI, dAug, dM1, dCall, diSeq, diR1, diR2, diEnum, noStr, ofX, enumD, dgName, dgNil, dgCons, dgTup, RE.bind, RE.stm, RS.seq, rd, rds, opt, optS, optE, OD.toD, frz, frzs, setSl, X.slot, setI, slotOf, passX, passXs, slots, temps, wb, wr, hideE, unhide, unhid, RS.map, fnM, finR, backP, retX, Sl.par, pAdd, pSub, pMul, pDiv, pMod, pPow, pNeg, pCmp, pIx, pSl, pRev, pLen, pInt, pTuple, pList, pIsi, pAll, pAny, pSum, pMax, pMin, pAugAdd, mApp, mExt, mIns, mPopAt, mPop, OD.isL, OD.isD, isS, D.isNon, pIsN, pNotN, D.tyN, lcEnd, ixN, dMakeF, makeD, dMakeStar, makeStarD, starA, imsX, dMake0, dFldF, rcvA, recvX, dSetF, putFD, pRevL, dMakeF0, RE.calm, List.lookup, dMethF, callD, dOpS, gInO, RE.bl, gBinO, dUnO, dConF, dCvF, pIsiO, dSupM, dCallI, gOp, dNewT, dNewK, dGetD, dSetD, setD, diKs, pListO, pLenO, imX, isDic, dArr, freeSl, wipeE, restE, pEq, pNe, pEqB, D.scal, L2.scal, f0, j1, hcomp]
end Wk

namespace Wk
open PySem PySem.Spec PyProof.Rows L2 TL Dn
/-! ### good slates, good ballots -/
def ChkI (ws : List Str) (k : Nat) (xs : List D) (env : Ev) : Prop := ∃ (pre post : List Str) (s1 s2 : Sl), ws = pre ++ post ∧ xs = enumD pre.length (post.map D.str) ∧ env = [.im (.tup (ws.map D.str)), s1, s2] ∧ Fr s1 ∧ Fr s2
theorem chk_L1 (ws : List Str) (hw : ∀ w ∈ ws, WordS w) (hn : ws.Nodup) (hl : ws.length ≤ 1000) : ∀ xs env, ChkI ws 0 xs env → ∃ e', forGo (dgTup 2 (dgCons (dgName 1) (dgCons (dgName 2) dgNil))) b_checked_names_L1 xs env = .nx e' ∧ ChkI ws 0 [] e' := by
  refine for_nx (ChkI ws 0) ?_
  rintro x xs env ⟨pre, post, s1, s2, e1, e2, rfl, f1, f2⟩
  cases post with
  | nil => cases e2
  | cons w post =>
    cases e2
    have hlen : ws.length = pre.length + (post.length + 1) := by rw [e1]; simp
    have hmem : w ∈ ws := by rw [e1]; simp
    have hw1 := hw w hmem
    have hno : w ∉ pre := by
      rw [e1] at hn
      have := (List.nodup_append.mp hn).2.2
      exact fun h => this w h w (by simp) rfl
    have hg : dgTup 2 (dgCons (dgName 1) (dgCons (dgName 2) dgNil)) (.tupW [.int (pre.length : Int), .str w]) [.im (.tup (ws.map D.str)), s1, s2] = some [.im (.tup (ws.map D.str)), .im (.int (pre.length : Int)), .im (.str w)] := by
      rcases f1 with rfl | ⟨_, rfl⟩ <;> rcases f2 with rfl | ⟨_, rfl⟩ <;> simp [dSeq, dAsg, dAsgG, dDrop, dRet, dIfS, dFor, dBreak, dCont, dNever, dNext, dC, dVar, dOp, dUn, dNil, dCons, dCB, dFrz, dTup, dLst, dNone, dSome, dSl, dTest, dtAnd, dtOr, dtNot, dAndV, dOrV, dNotV, dIf, dChain, dLc, dMut, dMutR, dFz, fzAll, fzE, dSetI, dAug, dM1, dCall, diSeq, diR1, diR2, diEnum, noStr, ofX, enumD, dgName, dgNil, dgCons, dgTup, RE.bind, RE.stm, RS.seq, rd, rds, opt, optS, optE, OD.toD, frz, frzs, setSl, X.slot, setI, slotOf, passX, passXs, slots, temps, wb, wr, hideE, unhide, unhid, RS.map, fnM, finR, backP, retX, Sl.par, pAdd, pSub, pMul, pDiv, pMod, pPow, pNeg, pCmp, pIx, pSl, pRev, pLen, pInt, pTuple, pList, pIsi, pAll, pAny, pSum, pMax, pMin, pAugAdd, mApp, mExt, mIns, mPopAt, mPop, OD.isL, OD.isD, isS, D.isNon, pIsN, pNotN, D.tyN, lcEnd, ixN, dMakeF, makeD, dMakeStar, makeStarD, starA, imsX, dMake0, dFldF, rcvA, recvX, dSetF, putFD, pRevL, dMakeF0, RE.calm, List.lookup, dMethF, callD, dOpS, gInO, RE.bl, gBinO, dUnO, dConF, dCvF, pIsiO, dSupM, dCallI, gOp, dNewT, dNewK, dGetD, dSetD, setD, diKs, pListO, pLenO, imX, isDic, dArr, freeSl, wipeE, restE, lcGo, forGo, pEq, pNe, pEqB, D.scal, L2.scal]
    have hc : cutD (ws.map D.str) none (some (pre.length : Int)) = pre.map D.str := by
      rw [cutD_take (by omega) (by simp; omega), e1]
      simp
    have hs := is_name_spec w (by have := hw1.2.1; omega)
    rw [isNm_word.mpr hw1] at hs
    refine ⟨_, _, hg, .inl ?_, ⟨pre ++ [w], post, .im (.int (pre.length : Int)), .im (.str w), by rw [e1]; simp, by simp, rfl, .inr ⟨_, rfl⟩, .inr ⟨_, rfl⟩⟩⟩
    unfold b_checked_names_L1
    generalize d_is_name = g1 at *
    simp [dSeq, dAsg, dAsgG, dDrop, dRet, dIfS, dFor, dBreak, dCont, dNever, dNext, dC, dVar, dOp, dUn, dNil, dCons, dCB, dFrz, dTup, dLst, dNone, dSome, dSl, dTest, dtAnd, dtOr, dtNot, dAndV, dOrV, dNotV, dIf, dChain, dLc, dMut, dMutR, dFz, fzAll, fzE, dSetI, dAug, dM1, dCall, diSeq, diR1, diR2, diEnum, noStr, ofX, enumD, dgName, dgNil, dgCons, dgTup, RE.bind, RE.stm, RS.seq, rd, rds, opt, optS, optE, OD.toD, frz, frzs, setSl, X.slot, setI, slotOf, passX, passXs, slots, temps, wb, wr, hideE, unhide, unhid, RS.map, fnM, finR, backP, retX, Sl.par, pAdd, pSub, pMul, pDiv, pMod, pPow, pNeg, pCmp, pIx, pSl, pRev, pLen, pInt, pTuple, pList, pIsi, pAll, pAny, pSum, pMax, pMin, pAugAdd, mApp, mExt, mIns, mPopAt, mPop, OD.isL, OD.isD, isS, D.isNon, pIsN, pNotN, D.tyN, lcEnd, ixN, dMakeF, makeD, dMakeStar, makeStarD, starA, imsX, dMake0, dFldF, rcvA, recvX, dSetF, putFD, pRevL, dMakeF0, RE.calm, List.lookup, dMethF, callD, dOpS, gInO, RE.bl, gBinO, dUnO, dConF, dCvF, pIsiO, dSupM, dCallI, gOp, dNewT, dNewK, dGetD, dSetD, setD, diKs, pListO, pLenO, imX, isDic, dArr, freeSl, wipeE, restE, lcGo, forGo, pEq, pNe, pEqB, D.scal, L2.scal, hs, hc, in_tup, hno]
theorem chk_good {ws : List Str} (hw : ∀ w ∈ ws, WordS w) (hn : ws.Nodup) (h1 : 1 ≤ ws.length) (h5 : ws.length ≤ 5) : d_checked_names [.im (bD ws)] = .ok (.im (bD ws)) [.im (bD ws)] := by
  obtain ⟨e', j1, pre, post, s1, s2, _, e2, rfl, _, _⟩ := chk_L1 ws hw hn (by omega) (enumD 0 (ws.map D.str)) [.im (.tup (ws.map D.str)), .no, .no] ⟨[], ws, .no, .no, rfl, rfl, rfl, .inl rfl, .inl rfl⟩
  have a1 : 1 ≤ (ws.length : Int) := by omega
  have a2 : (ws.length : Int) ≤ 5 := by omega
  simp [d_checked_names, b_checked_names, dSeq, dAsg, dAsgG, dDrop, dRet, dIfS, dFor, dBreak, dCont, dNever, dNext, dC, dVar, dOp, dUn, dNil, dCons, dCB, dFrz, dTup, dLst, dNone, dSome, dSl, dTest, dtAnd, dtOr, dtNot, dAndV, dOrV, dNotV, dIf, dChain, dLc, dMut, dMutR, dFz, fzAll, fzE, dSetI, dAug, dM1, dCall, diSeq, diR1, diR2, diEnum, noStr, ofX, dgName, dgNil, dgCons, dgTup, RE.bind, RE.stm, RS.seq, rd, rds, opt, optS, optE, OD.toD, frz, frzs, setSl, X.slot, setI, slotOf, passX, passXs, slots, temps, wb, wr, hideE, unhide, unhid, RS.map, fnM, finR, backP, retX, Sl.par, pAdd, pSub, pMul, pDiv, pMod, pPow, pNeg, pCmp, pIx, pSl, pRev, pLen, pInt, pTuple, pList, pIsi, pAll, pAny, pSum, pMax, pMin, pAugAdd, mApp, mExt, mIns, mPopAt, mPop, OD.isL, OD.isD, isS, D.isNon, pIsN, pNotN, D.tyN, lcEnd, ixN, dMakeF, makeD, dMakeStar, makeStarD, starA, imsX, dMake0, dFldF, rcvA, recvX, dSetF, putFD, pRevL, dMakeF0, RE.calm, List.lookup, dMethF, callD, dOpS, gInO, RE.bl, gBinO, dUnO, dConF, dCvF, pIsiO, dSupM, dCallI, gOp, dNewT, dNewK, dGetD, dSetD, setD, diKs, pListO, pLenO, imX, isDic, dArr, freeSl, wipeE, restE, lcGo, pEq, pNe, pEqB, D.scal, L2.scal, a1, a2, j1]
def CbI (ns ws : List Str) (xs : List D) (env : Ev) : Prop := ∃ (pre post : List Str) (s1 s2 : Sl), ws = pre ++ post ∧ xs = enumD pre.length (post.map D.str) ∧ env = [.im (bD ns), .im (bD ws), s1, s2] ∧ Fr s1 ∧ Fr s2
theorem cb_L1 (ns ws : List Str) (hw : ∀ w ∈ ws, w ∈ ns) (hn : ws.Nodup) (hl : ws.length ≤ 1000) : ∀ xs env, CbI ns ws xs env → ∃ e', forGo (dgTup 2 (dgCons (dgName 2) (dgCons (dgName 3) dgNil))) b_checked_ballot_L1 xs env = .nx e' ∧ CbI ns ws [] e' := by
  refine for_nx (CbI ns ws) ?_
  rintro x xs env ⟨pre, post, s1, s2, e1, e2, rfl, f1, f2⟩
  cases post with
  | nil => cases e2
  | cons w post =>
    cases e2
    have hlen : ws.length = pre.length + (post.length + 1) := by rw [e1]; simp
    have hmem : w ∈ ns := hw w (by rw [e1]; simp)
    have hno : w ∉ pre := by
      rw [e1] at hn
      have := (List.nodup_append.mp hn).2.2
      exact fun h => this w h w (by simp) rfl
    have hg : dgTup 2 (dgCons (dgName 2) (dgCons (dgName 3) dgNil)) (.tupW [.int (pre.length : Int), .str w]) [.im (bD ns), .im (bD ws), s1, s2] = some [.im (bD ns), .im (bD ws), .im (.int (pre.length : Int)), .im (.str w)] := by
      rcases f1 with rfl | ⟨_, rfl⟩ <;> rcases f2 with rfl | ⟨_, rfl⟩ <;> simp [dSeq, dAsg, dAsgG, dDrop, dRet, dIfS, dFor, dBreak, dCont, dNever, dNext, dC, dVar, dOp, dUn, dNil, dCons, dCB, dFrz, dTup, dLst, dNone, dSome, dSl, dTest, dtAnd, dtOr, dtNot, dAndV, dOrV, dNotV, dIf, dChain, dLc, dMut, dMutR, dFz, fzAll, fzE, dSetI, dAug, dM1, dCall, diSeq, diR1, diR2, diEnum, noStr, ofX, enumD, dgName, dgNil, dgCons, dgTup, RE.bind, RE.stm, RS.seq, rd, rds, opt, optS, optE, OD.toD, frz, frzs, setSl, X.slot, setI, slotOf, passX, passXs, slots, temps, wb, wr, hideE, unhide, unhid, RS.map, fnM, finR, backP, retX, Sl.par, pAdd, pSub, pMul, pDiv, pMod, pPow, pNeg, pCmp, pIx, pSl, pRev, pLen, pInt, pTuple, pList, pIsi, pAll, pAny, pSum, pMax, pMin, pAugAdd, mApp, mExt, mIns, mPopAt, mPop, OD.isL, OD.isD, isS, D.isNon, pIsN, pNotN, D.tyN, lcEnd, ixN, dMakeF, makeD, dMakeStar, makeStarD, starA, imsX, dMake0, dFldF, rcvA, recvX, dSetF, putFD, pRevL, dMakeF0, RE.calm, List.lookup, dMethF, callD, dOpS, gInO, RE.bl, gBinO, dUnO, dConF, dCvF, pIsiO, dSupM, dCallI, gOp, dNewT, dNewK, dGetD, dSetD, setD, diKs, pListO, pLenO, imX, isDic, dArr, freeSl, wipeE, restE, lcGo, forGo, pEq, pNe, pEqB, D.scal, L2.scal]
    have hc : cutD (ws.map D.str) none (some (pre.length : Int)) = pre.map D.str := by
      rw [cutD_take (by omega) (by simp; omega), e1]
      simp
    refine ⟨_, _, hg, .inl ?_, ⟨pre ++ [w], post, .im (.int (pre.length : Int)), .im (.str w), by rw [e1]; simp, by simp, rfl, .inr ⟨_, rfl⟩, .inr ⟨_, rfl⟩⟩⟩
    simp [b_checked_ballot_L1, dSeq, dAsg, dAsgG, dDrop, dRet, dIfS, dFor, dBreak, dCont, dNever, dNext, dC, dVar, dOp, dUn, dNil, dCons, dCB, dFrz, dTup, dLst, dNone, dSome, dSl, dTest, dtAnd, dtOr, dtNot, dAndV, dOrV, dNotV, dIf, dChain, dLc, dMut, dMutR, dFz, fzAll, fzE, dSetI, dAug, dM1, dCall, diSeq, diR1, diR2, diEnum, noStr, ofX, enumD, dgName, dgNil, dgCons, dgTup, RE.bind, RE.stm, RS.seq, rd, rds, opt, optS, optE, OD.toD, frz, frzs, setSl, X.slot, setI, slotOf, passX, passXs, slots, temps, wb, wr, hideE, unhide, unhid, RS.map, fnM, finR, backP, retX, Sl.par, pAdd, pSub, pMul, pDiv, pMod, pPow, pNeg, pCmp, pIx, pSl, pRev, pLen, pInt, pTuple, pList, pIsi, pAll, pAny, pSum, pMax, pMin, pAugAdd, mApp, mExt, mIns, mPopAt, mPop, OD.isL, OD.isD, isS, D.isNon, pIsN, pNotN, D.tyN, lcEnd, ixN, dMakeF, makeD, dMakeStar, makeStarD, starA, imsX, dMake0, dFldF, rcvA, recvX, dSetF, putFD, pRevL, dMakeF0, RE.calm, List.lookup, dMethF, callD, dOpS, gInO, RE.bl, gBinO, dUnO, dConF, dCvF, pIsiO, dSupM, dCallI, gOp, dNewT, dNewK, dGetD, dSetD, setD, diKs, pListO, pLenO, imX, isDic, dArr, freeSl, wipeE, restE, lcGo, forGo, pEq, pNe, pEqB, D.scal, L2.scal, hc, in_tup, notIn_tup, hno, hmem]
theorem cb_good {ns ws : List Str} (hw : ∀ w ∈ ws, w ∈ ns) (hn : ws.Nodup) (hl : ws.length ≤ 1000) : d_checked_ballot [.im (bD ns), .im (bD ws)] = .ok (.im (bD ws)) [.im (bD ns), .im (bD ws)] := by
  obtain ⟨e', j1, pre, post, s1, s2, _, e2, rfl, _, _⟩ := cb_L1 ns ws hw hn hl (enumD 0 (ws.map D.str)) [.im (bD ns), .im (bD ws), .no, .no] ⟨[], ws, .no, .no, rfl, rfl, rfl, .inl rfl, .inl rfl⟩
  simp [d_checked_ballot, b_checked_ballot, dSeq, dAsg, dAsgG, dDrop, dRet, dIfS, dFor, dBreak, dCont, dNever, dNext, dC, dVar, dOp, dUn, dNil, dCons, dCB, dFrz, dTup, dLst, dNone, dSome, dSl, dTest, dtAnd, dtOr, dtNot, dAndV, dOrV, dNotV, dIf, dChain, dLc, dMut, dMutR, dFz, fzAll, fzE, dSetI, dAug, dM1, dCall, diSeq, diR1, diR2, diEnum, noStr, ofX, dgName, dgNil, dgCons, dgTup, RE.bind, RE.stm, RS.seq, rd, rds, opt, optS, optE, OD.toD, frz, frzs, setSl, X.slot, setI, slotOf, passX, passXs, slots, temps, wb, wr, hideE, unhide, unhid, RS.map, fnM, finR, backP, retX, Sl.par, pAdd, pSub, pMul, pDiv, pMod, pPow, pNeg, pCmp, pIx, pSl, pRev, pLen, pInt, pTuple, pList, pIsi, pAll, pAny, pSum, pMax, pMin, pAugAdd, mApp, mExt, mIns, mPopAt, mPop, OD.isL, OD.isD, isS, D.isNon, pIsN, pNotN, D.tyN, lcEnd, ixN, dMakeF, makeD, dMakeStar, makeStarD, starA, imsX, dMake0, dFldF, rcvA, recvX, dSetF, putFD, pRevL, dMakeF0, RE.calm, List.lookup, dMethF, callD, dOpS, gInO, RE.bl, gBinO, dUnO, dConF, dCvF, pIsiO, dSupM, dCallI, gOp, dNewT, dNewK, dGetD, dSetD, setD, diKs, pListO, pLenO, imX, isDic, dArr, freeSl, wipeE, restE, lcGo, pEq, pNe, pEqB, D.scal, L2.scal, j1]
/-! ### the dict of counts -/
abbrev kb (b : List Str) : List Key := b.map Sum.inr
theorem kb_inj {a b : List Str} (h : kb a = kb b) : a = b := List.map_inj_right (fun _ _ q => Sum.inr.inj q) |>.mp h
theorem keysD_strs : ∀ b : List Str, keysD (b.map D.str) = some (kb b)
  | [] => rfl
  | x :: b => by simp [keysD, keyD, keysD_strs b]
theorem keyT_b (b : List Str) : keyT (bD b) = some (kb b) := keysD_strs b
theorem toD_b (b : List Str) : (D.tup ((kb b).map Key.toD)) = bD b := by simp [kb, bD, Key.toD]
/-- the counts of some ballots -/
def cnt (s : List Str → Int) (ks : List (List Str)) : List (List Key × D) := ks.map fun b => (kb b, D.int (s b))
theorem cnt_get (s : List Str → Int) (b : List Str) : ∀ ks : List (List Str), getKD (cnt s ks) (kb b) = if b ∈ ks then some (.int (s b)) else none
  | [] => rfl
  | k :: ks => by
    have ih := cnt_get s b ks
    by_cases h : k = b
    · subst h
      rw [cnt, List.map_cons, getKD_pos rfl, if_pos (by simp)]
    · rw [cnt, List.map_cons, getKD_neg (fun e => h (kb_inj e)), ← cnt, ih]
      simp [Ne.symm h, eq_comm, h]
theorem cnt_put {s t : List Str → Int} {b : List Str} {ks : List (List Str)} (h : ∀ c, c ≠ b → t c = s c) : putKD (cnt s ks) (kb b) (.int (t b)) = cnt t (if b ∈ ks then ks else ks ++ [b]) := by
  unfold putKD
  rw [cnt_get]
  by_cases hb : b ∈ ks
  · rw [if_pos hb, if_pos hb]
    simp only [Option.isSome_some, if_true]
    unfold cnt
    rw [List.map_map]
    refine List.map_congr_left fun c _ => ?_
    by_cases hc : c = b
    · subst hc
      simp
    · have : ¬ kb c = kb b := fun e => hc (kb_inj e)
      simp only [Function.comp]
      rw [if_neg this, h c hc]
  · rw [if_neg hb, if_neg hb]
    rw [if_neg (c := (none : Option D).isSome = true) (by simp)]
    unfold cnt
    rw [List.map_append]
    congr 1
    refine List.map_congr_left fun c hc => ?_
    have : c ≠ b := fun e => hb (e ▸ hc)
    rw [h c this]
theorem cnt_ks (s : List Str → Int) (ks : List (List Str)) : D.ks (.dt (cnt s ks)) = some (ks.map bD) := by
  simp only [D.ks, cnt, List.map_map]
  congr 1
  refine List.map_congr_left fun b _ => ?_
  exact toD_b b
theorem cnt_len (s : List Str → Int) (ks : List (List Str)) : (cnt s ks).length = ks.length := by simp [cnt]
theorem pItD_cnt (s : List Str → Int) {ks : List (List Str)} {b : List Str} (h : b ∈ ks) : pItD (.dt (cnt s ks)) (bD b) = some (.im (.int (s b))) := by
  simp [pItD, lookD, keyT_b, cnt_get, h]
theorem map_at {ns : List Str} {b : List Str} (h : ∀ w ∈ b, w ∈ ns) : ∀ w ∈ b, atI (ns.map D.str) ((ns.idxOf w : Nat) : Int) = some (.str w) := fun w hw => by
  rw [atI_i (by omega)]
  have := idx_at (h w hw)
  simp [this]
theorem sorted_rows_spec {ns : List Str} {s : List Str → Int} {ks : List (List Str)} (hn : ns.length ≤ 100) (hks : ks.length ≤ 1000) (hd : ks.Nodup) (hm : ∀ b ∈ ks, Blt ns b) : ∃ L, (L.Pairwise fun x y => ixs ns x < ixs ns y) ∧ (∀ b, b ∈ L ↔ b ∈ ks ∧ 0 < s b) ∧ d_sorted_rows [.im (bD ns), .im (.dt (cnt s ks))] = .ok (.im (.tup (rowsD s L))) [.im (bD ns), .im (.dt (cnt s ks))] := by
  have hF := fun b (hb : b ∈ ks.filter fun b => decide (0 < s b)) => (List.mem_filter.mp hb)
  refine ⟨_, sorted_ord (ns := ns) (ks := ks.filter fun b => decide (0 < s b)) (hd.filter _) (fun b hb w hw => (hm b (hF b hb).1).mem hw), fun b => by rw [List.mem_mergeSort, List.mem_filter, decide_eq_true_eq], ?_⟩
  have hmL : ∀ b ∈ (ks.filter fun b => decide (0 < s b)).mergeSort (fun b c => decide (ixs ns b ≤ ixs ns c)), b ∈ ks := fun b hb => (hF b (List.mem_mergeSort.mp hb)).1
  have hl : ((ks.filter fun b => decide (0 < s b)).mergeSort (fun b c => decide (ixs ns b ≤ ixs ns c))).length ≤ 1000 := by
    rw [List.length_mergeSort]
    exact Nat.le_trans (List.length_filter_le _ _) hks
  have hsort := sort_ix ns (ks.filter fun b => decide (0 < s b))
  generalize (ks.filter fun b => decide (0 < s b)).mergeSort (fun b c => decide (ixs ns b ≤ ixs ns c)) = L at *
  have hk := cnt_ks s ks
  have hit := fun b (hb : b ∈ ks) => pItD_cnt s hb
  have c1 : lcGo (dgName 5) c_sorted_rows_T2 c_sorted_rows_E2 [5] (ks.map bD) [.im (bD ns), .im (.dt (cnt s ks)), .no, .no, .no, .no, .no, .no] [] = .ok ((ks.filter fun b => decide (0 < s b)).map (ixD ns)) [.im (bD ns), .im (.dt (cnt s ks)), .no, .no, .no, .no, .no, .no] := by
    rw [lc_map bD (fun b => decide (0 < s b)) (ixD ns) ks [] ?_ (by simp; omega)]
    · simp
    · intro b hb
      have h1 := hit b hb
      have hB := hm b hb
      have hin : lcGo (dgName 7) (fun env => .ok true env) c_sorted_rows_E1 [7] (b.map D.str) [.im (bD ns), .im (.dt (cnt s ks)), .no, .no, .no, .im (bD b), .no, .no] [] = .ok ((ixs ns b).map D.int) [.im (bD ns), .im (.dt (cnt s ks)), .no, .no, .no, .im (bD b), .no, .no] := by
        rw [lc_map D.str (fun _ => true) (fun w => D.int ((ns.idxOf w : Nat) : Int)) b [] ?_ (by have := hB.len; simp; omega)]
        · rw [filt_true]
          simp [ixs]
        · intro w hw
          refine ⟨[.im (bD ns), .im (.dt (cnt s ks)), .no, .no, .no, .im (bD b), .no, .im (.str w)], by simp [dSeq, dAsg, dAsgG, dDrop, dRet, dIfS, dFor, dBreak, dCont, dNever, dNext, dC, dVar, dOp, dUn, dNil, dCons, dCB, dFrz, dTup, dLst, dNone, dSome, dSl, dTest, dtAnd, dtOr, dtNot, dAndV, dOrV, dNotV, dIf, dChain, dLc, dMut, dMutR, dFz, fzAll, fzE, dSetI, dAug, dM1, dCall, diSeq, diR1, diR2, diEnum, noStr, ofX, enumD, dgName, dgNil, dgCons, dgTup, RE.bind, RE.stm, RS.seq, rd, rds, opt, optS, optE, OD.toD, frz, frzs, setSl, X.slot, setI, slotOf, passX, passXs, slots, temps, wb, wr, hideE, unhide, unhid, RS.map, fnM, finR, backP, retX, Sl.par, pAdd, pSub, pMul, pDiv, pMod, pPow, pNeg, pCmp, pIx, pSl, pRev, pLen, pInt, pTuple, pList, pIsi, pAll, pAny, pSum, pMax, pMin, pAugAdd, mApp, mExt, mIns, mPopAt, mPop, OD.isL, OD.isD, isS, D.isNon, pIsN, pNotN, D.tyN, lcEnd, ixN, dMakeF, makeD, dMakeStar, makeStarD, starA, imsX, dMake0, dFldF, rcvA, recvX, dSetF, putFD, pRevL, dMakeF0, RE.calm, List.lookup, dMethF, callD, dOpS, gInO, RE.bl, gBinO, dUnO, dConF, dCvF, pIsiO, dSupM, dCallI, gOp, dNewT, dNewK, dGetD, dSetD, setD, diKs, pListO, pLenO, imX, isDic, dArr, freeSl, wipeE, restE, lcGo, forGo, pEq, pNe, pEqB, D.scal, L2.scal], rfl, fun _ => ⟨.im (.int ((ns.idxOf w : Nat) : Int)), ?_, rfl⟩, by simp [wipeE]⟩
          unfold c_sorted_rows_E1
          exact tix_ok (e1 := [.im (bD ns), .im (.dt (cnt s ks)), .no, .no, .no, .im (bD b), .no, .im (.str w)]) (by simp [dVar]) (by simp [dVar]) (hB.mem hw)
      refine ⟨[.im (bD ns), .im (.dt (cnt s ks)), .no, .no, .no, .im (bD b), .no, .no], by simp [dSeq, dAsg, dAsgG, dDrop, dRet, dIfS, dFor, dBreak, dCont, dNever, dNext, dC, dVar, dOp, dUn, dNil, dCons, dCB, dFrz, dTup, dLst, dNone, dSome, dSl, dTest, dtAnd, dtOr, dtNot, dAndV, dOrV, dNotV, dIf, dChain, dLc, dMut, dMutR, dFz, fzAll, fzE, dSetI, dAug, dM1, dCall, diSeq, diR1, diR2, diEnum, noStr, ofX, enumD, dgName, dgNil, dgCons, dgTup, RE.bind, RE.stm, RS.seq, rd, rds, opt, optS, optE, OD.toD, frz, frzs, setSl, X.slot, setI, slotOf, passX, passXs, slots, temps, wb, wr, hideE, unhide, unhid, RS.map, fnM, finR, backP, retX, Sl.par, pAdd, pSub, pMul, pDiv, pMod, pPow, pNeg, pCmp, pIx, pSl, pRev, pLen, pInt, pTuple, pList, pIsi, pAll, pAny, pSum, pMax, pMin, pAugAdd, mApp, mExt, mIns, mPopAt, mPop, OD.isL, OD.isD, isS, D.isNon, pIsN, pNotN, D.tyN, lcEnd, ixN, dMakeF, makeD, dMakeStar, makeStarD, starA, imsX, dMake0, dFldF, rcvA, recvX, dSetF, putFD, pRevL, dMakeF0, RE.calm, List.lookup, dMethF, callD, dOpS, gInO, RE.bl, gBinO, dUnO, dConF, dCvF, pIsiO, dSupM, dCallI, gOp, dNewT, dNewK, dGetD, dSetD, setD, diKs, pListO, pLenO, imX, isDic, dArr, freeSl, wipeE, restE, lcGo, forGo, pEq, pNe, pEqB, D.scal, L2.scal], ?_, fun _ => ⟨.im (ixD ns b), ?_, rfl⟩, by simp [wipeE]⟩
      · generalize cnt s ks = CC at *
        simp [c_sorted_rows_T2, dSeq, dAsg, dAsgG, dDrop, dRet, dIfS, dFor, dBreak, dCont, dNever, dNext, dC, dVar, dOp, dUn, dNil, dCons, dCB, dFrz, dTup, dLst, dNone, dSome, dSl, dTest, dtAnd, dtOr, dtNot, dAndV, dOrV, dNotV, dIf, dChain, dLc, dMut, dMutR, dFz, fzAll, fzE, dSetI, dAug, dM1, dCall, diSeq, diR1, diR2, diEnum, noStr, ofX, enumD, dgName, dgNil, dgCons, dgTup, RE.bind, RE.stm, RS.seq, rd, rds, opt, optS, optE, OD.toD, frz, frzs, setSl, X.slot, setI, slotOf, passX, passXs, slots, temps, wb, wr, hideE, unhide, unhid, RS.map, fnM, finR, backP, retX, Sl.par, pAdd, pSub, pMul, pDiv, pMod, pPow, pNeg, pCmp, pIx, pSl, pRev, pLen, pInt, pTuple, pList, pIsi, pAll, pAny, pSum, pMax, pMin, pAugAdd, mApp, mExt, mIns, mPopAt, mPop, OD.isL, OD.isD, isS, D.isNon, pIsN, pNotN, D.tyN, lcEnd, ixN, dMakeF, makeD, dMakeStar, makeStarD, starA, imsX, dMake0, dFldF, rcvA, recvX, dSetF, putFD, pRevL, dMakeF0, RE.calm, List.lookup, dMethF, callD, dOpS, gInO, RE.bl, gBinO, dUnO, dConF, dCvF, pIsiO, dSupM, dCallI, gOp, dNewT, dNewK, dGetD, dSetD, setD, diKs, pListO, pLenO, imX, isDic, dArr, freeSl, wipeE, restE, lcGo, forGo, pEq, pNe, pEqB, D.scal, L2.scal, h1]
      · generalize cnt s ks = CC at *
        simp [c_sorted_rows_E2, dSeq, dAsg, dAsgG, dDrop, dRet, dIfS, dFor, dBreak, dCont, dNever, dNext, dC, dVar, dOp, dUn, dNil, dCons, dCB, dFrz, dTup, dLst, dNone, dSome, dSl, dTest, dtAnd, dtOr, dtNot, dAndV, dOrV, dNotV, dIf, dChain, dLc, dMut, dMutR, dFz, fzAll, fzE, dSetI, dAug, dM1, dCall, diSeq, diR1, diR2, diEnum, noStr, ofX, enumD, dgName, dgNil, dgCons, dgTup, RE.bind, RE.stm, RS.seq, rd, rds, opt, optS, optE, OD.toD, frz, frzs, setSl, X.slot, setI, slotOf, passX, passXs, slots, temps, wb, wr, hideE, unhide, unhid, RS.map, fnM, finR, backP, retX, Sl.par, pAdd, pSub, pMul, pDiv, pMod, pPow, pNeg, pCmp, pIx, pSl, pRev, pLen, pInt, pTuple, pList, pIsi, pAll, pAny, pSum, pMax, pMin, pAugAdd, mApp, mExt, mIns, mPopAt, mPop, OD.isL, OD.isD, isS, D.isNon, pIsN, pNotN, D.tyN, lcEnd, ixN, dMakeF, makeD, dMakeStar, makeStarD, starA, imsX, dMake0, dFldF, rcvA, recvX, dSetF, putFD, pRevL, dMakeF0, RE.calm, List.lookup, dMethF, callD, dOpS, gInO, RE.bl, gBinO, dUnO, dConF, dCvF, pIsiO, dSupM, dCallI, gOp, dNewT, dNewK, dGetD, dSetD, setD, diKs, pListO, pLenO, imX, isDic, dArr, freeSl, wipeE, restE, forGo, pEq, pNe, pEqB, D.scal, L2.scal, hin, ixD]
  have c3 : lcGo (dgName 4) (fun env => .ok true env) c_sorted_rows_E4 [4] (L.map (ixD ns)) [.im (bD ns), .im (.dt (cnt s ks)), .im (.lst (L.map (ixD ns))), .no, .no, .no, .no, .no] [] = .ok (L.map bD) [.im (bD ns), .im (.dt (cnt s ks)), .im (.lst (L.map (ixD ns))), .no, .no, .no, .no, .no] := by
    rw [lc_map (ixD ns) (fun _ => true) bD L [] ?_ (by simp; omega)]
    · rw [filt_true]
      simp
    · intro b hb
      have hB := hm b (hmL b hb)
      have hin : lcGo (dgName 6) (fun env => .ok true env) c_sorted_rows_E3 [6] ((ixs ns b).map D.int) [.im (bD ns), .im (.dt (cnt s ks)), .im (.lst (L.map (ixD ns))), .no, .im (ixD ns b), .no, .no, .no] [] = .ok (b.map D.str) [.im (bD ns), .im (.dt (cnt s ks)), .im (.lst (L.map (ixD ns))), .no, .im (ixD ns b), .no, .no, .no] := by
        have e : (ixs ns b).map D.int = b.map fun w => D.int ((ns.idxOf w : Nat) : Int) := by simp [ixs]
        rw [e, lc_map (fun w => D.int ((ns.idxOf w : Nat) : Int)) (fun _ => true) D.str b [] ?_ (by have := hB.len; simp; omega)]
        · rw [filt_true]
          simp
        · intro w hw
          have h1 := map_at (ns := ns) (b := b) (fun w hw => hB.mem hw) w hw
          refine ⟨[.im (bD ns), .im (.dt (cnt s ks)), .im (.lst (L.map (ixD ns))), .no, .im (ixD ns b), .no, .im (.int ((ns.idxOf w : Nat) : Int)), .no], by simp [dSeq, dAsg, dAsgG, dDrop, dRet, dIfS, dFor, dBreak, dCont, dNever, dNext, dC, dVar, dOp, dUn, dNil, dCons, dCB, dFrz, dTup, dLst, dNone, dSome, dSl, dTest, dtAnd, dtOr, dtNot, dAndV, dOrV, dNotV, dIf, dChain, dLc, dMut, dMutR, dFz, fzAll, fzE, dSetI, dAug, dM1, dCall, diSeq, diR1, diR2, diEnum, noStr, ofX, enumD, dgName, dgNil, dgCons, dgTup, RE.bind, RE.stm, RS.seq, rd, rds, opt, optS, optE, OD.toD, frz, frzs, setSl, X.slot, setI, slotOf, passX, passXs, slots, temps, wb, wr, hideE, unhide, unhid, RS.map, fnM, finR, backP, retX, Sl.par, pAdd, pSub, pMul, pDiv, pMod, pPow, pNeg, pCmp, pIx, pSl, pRev, pLen, pInt, pTuple, pList, pIsi, pAll, pAny, pSum, pMax, pMin, pAugAdd, mApp, mExt, mIns, mPopAt, mPop, OD.isL, OD.isD, isS, D.isNon, pIsN, pNotN, D.tyN, lcEnd, ixN, dMakeF, makeD, dMakeStar, makeStarD, starA, imsX, dMake0, dFldF, rcvA, recvX, dSetF, putFD, pRevL, dMakeF0, RE.calm, List.lookup, dMethF, callD, dOpS, gInO, RE.bl, gBinO, dUnO, dConF, dCvF, pIsiO, dSupM, dCallI, gOp, dNewT, dNewK, dGetD, dSetD, setD, diKs, pListO, pLenO, imX, isDic, dArr, freeSl, wipeE, restE, lcGo, forGo, pEq, pNe, pEqB, D.scal, L2.scal], rfl, fun _ => ⟨.im (.str w), ?_, rfl⟩, by simp [wipeE]⟩
          simp [c_sorted_rows_E3, dSeq, dAsg, dAsgG, dDrop, dRet, dIfS, dFor, dBreak, dCont, dNever, dNext, dC, dVar, dOp, dUn, dNil, dCons, dCB, dFrz, dTup, dLst, dNone, dSome, dSl, dTest, dtAnd, dtOr, dtNot, dAndV, dOrV, dNotV, dIf, dChain, dLc, dMut, dMutR, dFz, fzAll, fzE, dSetI, dAug, dM1, dCall, diSeq, diR1, diR2, diEnum, noStr, ofX, enumD, dgName, dgNil, dgCons, dgTup, RE.bind, RE.stm, RS.seq, rd, rds, opt, optS, optE, OD.toD, frz, frzs, setSl, X.slot, setI, slotOf, passX, passXs, slots, temps, wb, wr, hideE, unhide, unhid, RS.map, fnM, finR, backP, retX, Sl.par, pAdd, pSub, pMul, pDiv, pMod, pPow, pNeg, pCmp, pIx, pSl, pRev, pLen, pInt, pTuple, pList, pIsi, pAll, pAny, pSum, pMax, pMin, pAugAdd, mApp, mExt, mIns, mPopAt, mPop, OD.isL, OD.isD, isS, D.isNon, pIsN, pNotN, D.tyN, lcEnd, ixN, dMakeF, makeD, dMakeStar, makeStarD, starA, imsX, dMake0, dFldF, rcvA, recvX, dSetF, putFD, pRevL, dMakeF0, RE.calm, List.lookup, dMethF, callD, dOpS, gInO, RE.bl, gBinO, dUnO, dConF, dCvF, pIsiO, dSupM, dCallI, gOp, dNewT, dNewK, dGetD, dSetD, setD, diKs, pListO, pLenO, imX, isDic, dArr, freeSl, wipeE, restE, lcGo, forGo, pEq, pNe, pEqB, D.scal, L2.scal, h1]
      refine ⟨[.im (bD ns), .im (.dt (cnt s ks)), .im (.lst (L.map (ixD ns))), .no, .im (ixD ns b), .no, .no, .no], by simp [dSeq, dAsg, dAsgG, dDrop, dRet, dIfS, dFor, dBreak, dCont, dNever, dNext, dC, dVar, dOp, dUn, dNil, dCons, dCB, dFrz, dTup, dLst, dNone, dSome, dSl, dTest, dtAnd, dtOr, dtNot, dAndV, dOrV, dNotV, dIf, dChain, dLc, dMut, dMutR, dFz, fzAll, fzE, dSetI, dAug, dM1, dCall, diSeq, diR1, diR2, diEnum, noStr, ofX, enumD, dgName, dgNil, dgCons, dgTup, RE.bind, RE.stm, RS.seq, rd, rds, opt, optS, optE, OD.toD, frz, frzs, setSl, X.slot, setI, slotOf, passX, passXs, slots, temps, wb, wr, hideE, unhide, unhid, RS.map, fnM, finR, backP, retX, Sl.par, pAdd, pSub, pMul, pDiv, pMod, pPow, pNeg, pCmp, pIx, pSl, pRev, pLen, pInt, pTuple, pList, pIsi, pAll, pAny, pSum, pMax, pMin, pAugAdd, mApp, mExt, mIns, mPopAt, mPop, OD.isL, OD.isD, isS, D.isNon, pIsN, pNotN, D.tyN, lcEnd, ixN, dMakeF, makeD, dMakeStar, makeStarD, starA, imsX, dMake0, dFldF, rcvA, recvX, dSetF, putFD, pRevL, dMakeF0, RE.calm, List.lookup, dMethF, callD, dOpS, gInO, RE.bl, gBinO, dUnO, dConF, dCvF, pIsiO, dSupM, dCallI, gOp, dNewT, dNewK, dGetD, dSetD, setD, diKs, pListO, pLenO, imX, isDic, dArr, freeSl, wipeE, restE, lcGo, forGo, pEq, pNe, pEqB, D.scal, L2.scal], rfl, fun _ => ⟨.im (bD b), ?_, rfl⟩, by simp [wipeE]⟩
      generalize cnt s ks = CC at *
      generalize L.map (ixD ns) = LL at *
      unfold ixD at *
      simp [c_sorted_rows_E4, dSeq, dAsg, dAsgG, dDrop, dRet, dIfS, dFor, dBreak, dCont, dNever, dNext, dC, dVar, dOp, dUn, dNil, dCons, dCB, dFrz, dTup, dLst, dNone, dSome, dSl, dTest, dtAnd, dtOr, dtNot, dAndV, dOrV, dNotV, dIf, dChain, dLc, dMut, dMutR, dFz, fzAll, fzE, dSetI, dAug, dM1, dCall, diSeq, diR1, diR2, diEnum, noStr, ofX, enumD, dgName, dgNil, dgCons, dgTup, RE.bind, RE.stm, RS.seq, rd, rds, opt, optS, optE, OD.toD, frz, frzs, setSl, X.slot, setI, slotOf, passX, passXs, slots, temps, wb, wr, hideE, unhide, unhid, RS.map, fnM, finR, backP, retX, Sl.par, pAdd, pSub, pMul, pDiv, pMod, pPow, pNeg, pCmp, pIx, pSl, pRev, pLen, pInt, pTuple, pList, pIsi, pAll, pAny, pSum, pMax, pMin, pAugAdd, mApp, mExt, mIns, mPopAt, mPop, OD.isL, OD.isD, isS, D.isNon, pIsN, pNotN, D.tyN, lcEnd, ixN, dMakeF, makeD, dMakeStar, makeStarD, starA, imsX, dMake0, dFldF, rcvA, recvX, dSetF, putFD, pRevL, dMakeF0, RE.calm, List.lookup, dMethF, callD, dOpS, gInO, RE.bl, gBinO, dUnO, dConF, dCvF, pIsiO, dSupM, dCallI, gOp, dNewT, dNewK, dGetD, dSetD, setD, diKs, pListO, pLenO, imX, isDic, dArr, freeSl, wipeE, restE, forGo, pEq, pNe, pEqB, D.scal, L2.scal, hin]
  have c5 : lcGo (dgName 5) (fun env => .ok true env) c_sorted_rows_E5 [5] (L.map bD) [.im (bD ns), .im (.dt (cnt s ks)), .im (.lst (L.map (ixD ns))), .im (.lst (L.map bD)), .no, .no, .no, .no] [] = .ok (rowsD s L) [.im (bD ns), .im (.dt (cnt s ks)), .im (.lst (L.map (ixD ns))), .im (.lst (L.map bD)), .no, .no, .no, .no] := by
    rw [lc_map bD (fun _ => true) (fun b => rowD (b, s b)) L [] ?_ (by simp; omega)]
    · rw [filt_true]
      rfl
    · intro b hb
      have h1 := hit b (hmL b hb)
      refine ⟨[.im (bD ns), .im (.dt (cnt s ks)), .im (.lst (L.map (ixD ns))), .im (.lst (L.map bD)), .no, .im (bD b), .no, .no], by simp [dSeq, dAsg, dAsgG, dDrop, dRet, dIfS, dFor, dBreak, dCont, dNever, dNext, dC, dVar, dOp, dUn, dNil, dCons, dCB, dFrz, dTup, dLst, dNone, dSome, dSl, dTest, dtAnd, dtOr, dtNot, dAndV, dOrV, dNotV, dIf, dChain, dLc, dMut, dMutR, dFz, fzAll, fzE, dSetI, dAug, dM1, dCall, diSeq, diR1, diR2, diEnum, noStr, ofX, enumD, dgName, dgNil, dgCons, dgTup, RE.bind, RE.stm, RS.seq, rd, rds, opt, optS, optE, OD.toD, frz, frzs, setSl, X.slot, setI, slotOf, passX, passXs, slots, temps, wb, wr, hideE, unhide, unhid, RS.map, fnM, finR, backP, retX, Sl.par, pAdd, pSub, pMul, pDiv, pMod, pPow, pNeg, pCmp, pIx, pSl, pRev, pLen, pInt, pTuple, pList, pIsi, pAll, pAny, pSum, pMax, pMin, pAugAdd, mApp, mExt, mIns, mPopAt, mPop, OD.isL, OD.isD, isS, D.isNon, pIsN, pNotN, D.tyN, lcEnd, ixN, dMakeF, makeD, dMakeStar, makeStarD, starA, imsX, dMake0, dFldF, rcvA, recvX, dSetF, putFD, pRevL, dMakeF0, RE.calm, List.lookup, dMethF, callD, dOpS, gInO, RE.bl, gBinO, dUnO, dConF, dCvF, pIsiO, dSupM, dCallI, gOp, dNewT, dNewK, dGetD, dSetD, setD, diKs, pListO, pLenO, imX, isDic, dArr, freeSl, wipeE, restE, lcGo, forGo, pEq, pNe, pEqB, D.scal, L2.scal], rfl, fun _ => ⟨.im (rowD (b, s b)), ?_, rfl⟩, by simp [wipeE]⟩
      generalize cnt s ks = CC at *
      generalize L.map (ixD ns) = LL at *
      generalize L.map bD = LB at *
      simp [c_sorted_rows_E5, dSeq, dAsg, dAsgG, dDrop, dRet, dIfS, dFor, dBreak, dCont, dNever, dNext, dC, dVar, dOp, dUn, dNil, dCons, dCB, dFrz, dTup, dLst, dNone, dSome, dSl, dTest, dtAnd, dtOr, dtNot, dAndV, dOrV, dNotV, dIf, dChain, dLc, dMut, dMutR, dFz, fzAll, fzE, dSetI, dAug, dM1, dCall, diSeq, diR1, diR2, diEnum, noStr, ofX, enumD, dgName, dgNil, dgCons, dgTup, RE.bind, RE.stm, RS.seq, rd, rds, opt, optS, optE, OD.toD, frz, frzs, setSl, X.slot, setI, slotOf, passX, passXs, slots, temps, wb, wr, hideE, unhide, unhid, RS.map, fnM, finR, backP, retX, Sl.par, pAdd, pSub, pMul, pDiv, pMod, pPow, pNeg, pCmp, pIx, pSl, pRev, pLen, pInt, pTuple, pList, pIsi, pAll, pAny, pSum, pMax, pMin, pAugAdd, mApp, mExt, mIns, mPopAt, mPop, OD.isL, OD.isD, isS, D.isNon, pIsN, pNotN, D.tyN, lcEnd, ixN, dMakeF, makeD, dMakeStar, makeStarD, starA, imsX, dMake0, dFldF, rcvA, recvX, dSetF, putFD, pRevL, dMakeF0, RE.calm, List.lookup, dMethF, callD, dOpS, gInO, RE.bl, gBinO, dUnO, dConF, dCvF, pIsiO, dSupM, dCallI, gOp, dNewT, dNewK, dGetD, dSetD, setD, diKs, pListO, pLenO, imX, isDic, dArr, freeSl, wipeE, restE, lcGo, forGo, pEq, pNe, pEqB, D.scal, L2.scal, h1, rowD, fit_s]
  generalize (ks.filter fun b => decide (0 < s b)).map (ixD ns) = K1 at *
  generalize L.map (ixD ns) = LL at *
  generalize L.map bD = LB at *
  generalize rowsD s L = LR at *
  generalize cnt s ks = CC at *
  simp [d_sorted_rows, b_sorted_rows, dSeq, dAsg, dAsgG, dDrop, dRet, dIfS, dFor, dBreak, dCont, dNever, dNext, dC, dVar, dOp, dUn, dNil, dCons, dCB, dFrz, dTup, dLst, dNone, dSome, dSl, dTest, dtAnd, dtOr, dtNot, dAndV, dOrV, dNotV, dIf, dChain, dLc, dMut, dMutR, dFz, fzAll, fzE, dSetI, dAug, dM1, dCall, diSeq, diR1, diR2, diEnum, noStr, ofX, enumD, dgName, dgNil, dgCons, dgTup, RE.bind, RE.stm, RS.seq, rd, rds, opt, optS, optE, OD.toD, frz, frzs, setSl, X.slot, setI, slotOf, passX, passXs, slots, temps, wb, wr, hideE, unhide, unhid, RS.map, fnM, finR, backP, retX, Sl.par, pAdd, pSub, pMul, pDiv, pMod, pPow, pNeg, pCmp, pIx, pSl, pRev, pLen, pInt, pTuple, pList, pIsi, pAll, pAny, pSum, pMax, pMin, pAugAdd, mApp, mExt, mIns, mPopAt, mPop, OD.isL, OD.isD, isS, D.isNon, pIsN, pNotN, D.tyN, lcEnd, ixN, dMakeF, makeD, dMakeStar, makeStarD, starA, imsX, dMake0, dFldF, rcvA, recvX, dSetF, putFD, pRevL, dMakeF0, RE.calm, List.lookup, dMethF, callD, dOpS, gInO, RE.bl, gBinO, dUnO, dConF, dCvF, pIsiO, dSupM, dCallI, gOp, dNewT, dNewK, dGetD, dSetD, setD, diKs, pListO, pLenO, imX, isDic, dArr, freeSl, wipeE, restE, forGo, pEq, pNe, pEqB, D.scal, L2.scal, hk, c1, hsort, c3, c5]
end Wk

namespace Wk
open PySem PySem.Spec PyProof.Rows L2 TL Dn
@[simp] theorem nb_names__rows : (("names" : Str) == "_rows") = false := by decide +kernel
@[simp] theorem nb__rows_names : (("_rows" : Str) == "names") = false := by decide +kernel
@[simp] theorem ne_names__rows : (("names" : Str) = "_rows") = False := eq_false (by decide +kernel)
@[simp] theorem ne__rows_names : (("_rows" : Str) = "names") = False := eq_false (by decide +kernel)
theorem sumOf_le {rs : List Rw} (b : List Str) : (∀ r ∈ rs, 0 ≤ r.2 ∧ r.2 ≤ 1000000000000) → sumOf rs b ≤ 1000000000000 * (rs.length : Int) := by
  induction rs with
  | nil => exact fun _ => Int.le_refl _
  | cons r rs ih =>
    intro h
    rw [sumOf_cons, List.length_cons]
    have h1 := ih fun q hq => h q (by simp [hq])
    have h2 := h r (by simp)
    have e : 1000000000000 * ((rs.length + 1 : Nat) : Int) = 1000000000000 * (rs.length : Int) + 1000000000000 := by omega
    rw [e]
    split <;> omega
/-- a roll -/
def rollD (ns : List Str) (s : List Str → Int) (L : List (List Str)) : D := .obj "Roll" [("names", bD ns), ("_rows", .tup (rowsD s L))]
def rollO (ns : List Str) (s : List Str → Int) (L : List (List Str)) : OD := .ob "Roll" [("names", bD ns), ("_rows", .tup (rowsD s L))]
/-- what reads as a sequence of rows -/
def RdR (s : Sl) (l : List D) : Prop := s = .im (.lst l) ∨ s = .ow true (.lst l) ∨ s = .im (.tup l)
def RollI (ns : List Str) (rs : List Rw) (h : Sl) (xs : List D) (env : Ev) : Prop := ∃ (pre post : List Rw) (ks : List (List Str)) (s5 s6 : Sl), rs = pre ++ post ∧ xs = post.map rowD ∧ env = [.ow true (.ob "Roll" [("names", bD ns)]), .im (bD ns), h, .im (.int 1000000000000), .ow false (.dt (cnt (sumOf pre) ks)), s5, s6] ∧ Fr s5 ∧ Fr s6 ∧ ks.Nodup ∧ (∀ b, b ∈ ks ↔ b ∈ pre.map (·.1)) ∧ ks.length ≤ pre.length
theorem roll_L1 {ns : List Str} {rs : List Rw} {h : Sl} (hd : ns.Nodup) (hnl : ns.length ≤ 100) (hr : RwsOk ns rs) (hl : rs.length ≤ 1000) : ∀ xs env, RollI ns rs h xs env → ∃ e', forGo (dgTup 2 (dgCons (dgName 5) (dgCons (dgName 6) dgNil))) b_Roll___init___L1 xs env = .nx e' ∧ RollI ns rs h [] e' := by
  refine for_nx (RollI ns rs h) ?_
  rintro x xs env ⟨pre, post, ks, s5, s6, e1, e2, rfl, f5, f6, hk, hm, hkl⟩
  cases post with
  | nil => cases e2
  | cons r post =>
    obtain ⟨b, c⟩ := r
    cases e2
    have hmem : (b, c) ∈ rs := by rw [e1]; simp
    have hlen : rs.length = pre.length + (post.length + 1) := by rw [e1]; simp
    obtain ⟨hB, hc1, hc2⟩ : Blt ns b ∧ 0 ≤ c ∧ c ≤ 1000000000000 := hr _ hmem
    have hcb := cb_good (ns := ns) (ws := b) (fun w hw => hB.mem hw) (hB.nodup hd) (Nat.le_trans hB.len (by omega))
    have hg : dgTup 2 (dgCons (dgName 5) (dgCons (dgName 6) dgNil)) (rowD (b, c)) [.ow true (.ob "Roll" [("names", bD ns)]), .im (bD ns), h, .im (.int 1000000000000), .ow false (.dt (cnt (sumOf pre) ks)), s5, s6] = some [.ow true (.ob "Roll" [("names", bD ns)]), .im (bD ns), h, .im (.int 1000000000000), .ow false (.dt (cnt (sumOf pre) ks)), .im (bD b), .im (.int c)] := by
      rcases f5 with rfl | ⟨_, rfl⟩ <;> rcases f6 with rfl | ⟨_, rfl⟩ <;> simp [dSeq, dAsg, dAsgG, dDrop, dRet, dIfS, dFor, dBreak, dCont, dNever, dNext, dC, dVar, dOp, dUn, dNil, dCons, dCB, dFrz, dTup, dLst, dNone, dSome, dSl, dTest, dtAnd, dtOr, dtNot, dAndV, dOrV, dNotV, dIf, dChain, dLc, dMut, dMutR, dFz, fzAll, fzE, dSetI, dAug, dM1, dCall, diSeq, diR1, diR2, diEnum, noStr, ofX, enumD, dgName, dgNil, dgCons, dgTup, RE.bind, RE.stm, RS.seq, rd, rds, opt, optS, optE, OD.toD, frz, frzs, setSl, X.slot, setI, slotOf, passX, passXs, slots, temps, wb, wr, hideE, unhide, unhid, RS.map, fnM, finR, backP, retX, Sl.par, pAdd, pSub, pMul, pDiv, pMod, pPow, pNeg, pCmp, pIx, pSl, pRev, pLen, pInt, pTuple, pList, pIsi, pAll, pAny, pSum, pMax, pMin, pAugAdd, mApp, mExt, mIns, mPopAt, mPop, OD.isL, OD.isD, isS, D.isNon, pIsN, pNotN, D.tyN, lcEnd, ixN, dMakeF, makeD, dMakeStar, makeStarD, starA, imsX, dMake0, dFldF, rcvA, recvX, dSetF, putFD, pRevL, dMakeF0, RE.calm, List.lookup, dMethF, callD, dOpS, gInO, RE.bl, gBinO, dUnO, dConF, dCvF, pIsiO, dSupM, dCallI, gOp, dNewT, dNewK, dGetD, dSetD, setD, diKs, pListO, pLenO, imX, isDic, dArr, arr, freeSl, wipeE, restE, lcGo, forGo, pEq, pNe, pEqB, D.scal, L2.scal, rowD]
    have hlook : ∃ r, lookD (.dt (cnt (sumOf pre) ks)) (bD b) = some r ∧ r.getD (.int 0) = .int (sumOf pre b) := by
      refine ⟨_, by simp only [lookD, keyT_b, Option.map_some]; rfl, ?_⟩
      rw [cnt_get]
      by_cases hb : b ∈ ks
      · rw [if_pos hb]
        rfl
      · rw [if_neg hb, sumOf_none fun q => hb ((hm b).mpr q)]
        rfl
    obtain ⟨r, hlook, hr0⟩ := hlook
    have ht : sumOf (pre ++ [(b, c)]) b = sumOf pre b + c := by rw [sumOf_app, sumOf_cons, sumOf_nil]; simp
    have hput : setD [.int (sumOf pre b + c), bD b] (false, .dt (cnt (sumOf pre) ks)) = some (.dt (cnt (sumOf (pre ++ [(b, c)])) (if b ∈ ks then ks else ks ++ [b]))) := by
      have e : putKD (cnt (sumOf pre) ks) (kb b) (.int (sumOf (pre ++ [(b, c)]) b)) = _ := cnt_put (s := sumOf pre) (t := sumOf (pre ++ [(b, c)])) (b := b) (ks := ks) fun x hx => by
        rw [sumOf_app, sumOf_cons, sumOf_nil, if_neg (fun q => hx q.symm)]
        omega
      rw [ht] at e
      have hf : fit (cnt (sumOf (pre ++ [(b, c)])) (if b ∈ ks then ks else ks ++ [b])).length = true := fit_s (by rw [cnt_len]; by_cases hb : b ∈ ks <;> simp [hb] <;> omega)
      simp only [setD, keyT_b, Option.bind_some, e, hf, if_true]
    refine ⟨_, [.ow true (.ob "Roll" [("names", bD ns)]), .im (bD ns), h, .im (.int 1000000000000), .ow false (.dt (cnt (sumOf (pre ++ [(b, c)])) (if b ∈ ks then ks else ks ++ [b]))), .im (bD b), .im (.int c)], hg, .inl ?_, pre ++ [(b, c)], post, if b ∈ ks then ks else ks ++ [b], _, _, by rw [e1]; simp, rfl, rfl, .inr ⟨_, rfl⟩, .inr ⟨_, rfl⟩, ?_, fun z => ?_, ?_⟩
    · have hc1' : ¬ c < 0 := by omega
      have hc2' : ¬ (1000000000000 : Int) < c := by omega
      unfold b_Roll___init___L1
      generalize d_checked_ballot = g1 at *
      generalize cnt (sumOf pre) ks = C1 at *
      generalize cnt (sumOf (pre ++ [(b, c)])) (if b ∈ ks then ks else ks ++ [b]) = C2 at *
      generalize sumOf pre b = sb at *
      simp [dSeq, dAsg, dAsgG, dDrop, dRet, dIfS, dFor, dBreak, dCont, dNever, dNext, dC, dVar, dOp, dUn, dNil, dCons, dCB, dFrz, dTup, dLst, dNone, dSome, dSl, dTest, dtAnd, dtOr, dtNot, dAndV, dOrV, dNotV, dIf, dChain, dLc, dMut, dMutR, dFz, fzAll, fzE, dSetI, dAug, dM1, dCall, diSeq, diR1, diR2, diEnum, noStr, ofX, enumD, dgName, dgNil, dgCons, dgTup, RE.bind, RE.stm, RS.seq, rd, rds, opt, optS, optE, OD.toD, frz, frzs, setSl, X.slot, setI, slotOf, passX, passXs, slots, temps, wb, wr, hideE, unhide, unhid, RS.map, fnM, finR, backP, retX, Sl.par, pAdd, pSub, pMul, pDiv, pMod, pPow, pNeg, pCmp, pIx, pSl, pRev, pLen, pInt, pTuple, pList, pIsi, pAll, pAny, pSum, pMax, pMin, pAugAdd, mApp, mExt, mIns, mPopAt, mPop, OD.isL, OD.isD, isS, D.isNon, pIsN, pNotN, D.tyN, lcEnd, ixN, dMakeF, makeD, dMakeStar, makeStarD, starA, imsX, dMake0, dFldF, rcvA, recvX, dSetF, putFD, pRevL, dMakeF0, RE.calm, List.lookup, dMethF, callD, dOpS, gInO, RE.bl, gBinO, dUnO, dConF, dCvF, pIsiO, dSupM, dCallI, gOp, dNewT, dNewK, dGetD, dSetD, diKs, pListO, pLenO, imX, isDic, dArr, arr, freeSl, wipeE, restE, lcGo, forGo, pEq, pNe, pEqB, D.scal, L2.scal, hcb, hc1', hc2', hlook, hr0, hput]
    · by_cases hb : b ∈ ks
      · rw [if_pos hb]
        exact hk
      · rw [if_neg hb]
        exact List.nodup_append.mpr ⟨hk, by simp, fun x hx y hy e => hb (by rw [List.mem_singleton.mp hy] at e; exact e ▸ hx)⟩
    · have hpm : z ∈ (pre ++ [(b, c)]).map (·.1) ↔ z ∈ pre.map (·.1) ∨ z = b := by simp
      rw [hpm, ← hm z]
      by_cases hb : b ∈ ks
      · rw [if_pos hb]
        exact ⟨.inl, fun q => q.elim id fun e => e ▸ hb⟩
      · rw [if_neg hb]
        simp
    · by_cases hb : b ∈ ks
      · rw [if_pos hb]
        simp
        omega
      · rw [if_neg hb]
        simp
        omega
theorem roll_init {ns : List Str} {rs : List Rw} {s2 : Sl} (hw : ∀ w ∈ ns, WordS w) (hd : ns.Nodup) (h1 : 1 ≤ ns.length) (h5 : ns.length ≤ 5) (hr : RwsOk ns rs) (hl : rs.length ≤ 1000) (hs : RdR s2 (rs.map rowD)) : ∃ L, IsOrd ns (sumOf rs) L ∧ L.length ≤ rs.length ∧ d_Roll___init__ [.ow true (.ob "Roll" []), .im (bD ns), s2, .im (.int 1000000000000)] = .ok (.im .non) [.ow true (rollO ns (sumOf rs) L), .im (bD ns), s2, .im (.int 1000000000000)] := by
  have key : ∀ h : Sl, ∃ ks s5 s6, forGo (dgTup 2 (dgCons (dgName 5) (dgCons (dgName 6) dgNil))) b_Roll___init___L1 (rs.map rowD) [.ow true (.ob "Roll" [("names", bD ns)]), .im (bD ns), h, .im (.int 1000000000000), .ow false (.dt []), .no, .no] = .nx [.ow true (.ob "Roll" [("names", bD ns)]), .im (bD ns), h, .im (.int 1000000000000), .ow false (.dt (cnt (sumOf rs) ks)), s5, s6] ∧ Fr s5 ∧ Fr s6 ∧ ks.Nodup ∧ (∀ b, b ∈ ks ↔ b ∈ rs.map (·.1)) ∧ ks.length ≤ rs.length := fun h => by
    obtain ⟨e', j1, pre, post, ks, s5, s6, e1, e2, rfl, f5, f6, hk, hm, hkl⟩ := roll_L1 (h := h) hd (by omega) hr hl (rs.map rowD) [.ow true (.ob "Roll" [("names", bD ns)]), .im (bD ns), h, .im (.int 1000000000000), .ow false (.dt []), .no, .no] ⟨[], rs, [], .no, .no, rfl, rfl, rfl, .inl rfl, .inl rfl, List.nodup_nil, by simp, Nat.le_refl _⟩
    have hp : post = [] := by
      cases post with
      | nil => rfl
      | cons => cases e2
    subst hp
    rw [List.append_nil] at e1
    subst e1
    exact ⟨ks, s5, s6, j1, f5, f6, hk, hm, hkl⟩
  have hcn := chk_good hw hd h1 h5
  have fin : ∀ h : Sl, ∃ L ks s5 s6, IsOrd ns (sumOf rs) L ∧ L.length ≤ rs.length ∧ forGo (dgTup 2 (dgCons (dgName 5) (dgCons (dgName 6) dgNil))) b_Roll___init___L1 (rs.map rowD) [.ow true (.ob "Roll" [("names", bD ns)]), .im (bD ns), h, .im (.int 1000000000000), .ow false (.dt []), .no, .no] = .nx [.ow true (.ob "Roll" [("names", bD ns)]), .im (bD ns), h, .im (.int 1000000000000), .ow false (.dt (cnt (sumOf rs) ks)), s5, s6] ∧ d_sorted_rows [.im (bD ns), .im (.dt (cnt (sumOf rs) ks))] = .ok (.im (.tup (rowsD (sumOf rs) L))) [.im (bD ns), .im (.dt (cnt (sumOf rs) ks))] := fun h => by
    obtain ⟨ks, s5, s6, j1, f5, f6, hk, hm, hkl⟩ := key h
    have hmB : ∀ b ∈ ks, Blt ns b := fun b hb => by
      obtain ⟨q, hq, rfl⟩ := List.mem_map.mp ((hm b).mp hb)
      exact (hr q hq).1
    obtain ⟨L, l1, l2, l3⟩ := sorted_rows_spec (ns := ns) (s := sumOf rs) (ks := ks) (by omega) (by omega) hk hmB
    have hO : IsOrd ns (sumOf rs) L := ⟨l1, fun b => (l2 b).trans ⟨fun q => q.2, fun q => ⟨(hm b).mpr (sumOf_mem q), q⟩⟩⟩
    refine ⟨L, ks, s5, s6, hO, ?_, j1, l3⟩
    have := pigeon L ks hO.nodup fun x hx => ((l2 x).mp hx).1
    omega
  have f0 : fit 0 = true := by decide
  have rq : ∀ h : Sl, (h = s2 ∧ (s2 = .im (.lst (rs.map rowD)) ∨ s2 = .im (.tup (rs.map rowD)))) ∨ (h = .hid ∧ s2 = .ow true (.lst (rs.map rowD))) → ∃ L, IsOrd ns (sumOf rs) L ∧ L.length ≤ rs.length ∧ d_Roll___init__ [.ow true (.ob "Roll" []), .im (bD ns), s2, .im (.int 1000000000000)] = .ok (.im .non) [.ow true (rollO ns (sumOf rs) L), .im (bD ns), s2, .im (.int 1000000000000)] := fun h hh => by
    obtain ⟨L, ks, s5, s6, q1, q2, q3, q4⟩ := fin h
    refine ⟨L, q1, q2, ?_⟩
    unfold d_Roll___init__ b_Roll___init__ rollO
    generalize d_checked_names = g1 at *
    generalize d_sorted_rows = g2 at *
    generalize cnt (sumOf rs) ks = C1 at *
    generalize rowsD (sumOf rs) L = RR at *
    rcases hh with ⟨rfl, rfl | rfl⟩ | ⟨rfl, rfl⟩ <;> simp [dSeq, dAsg, dAsgG, dDrop, dRet, dIfS, dFor, dBreak, dCont, dNever, dNext, dC, dVar, dOp, dUn, dNil, dCons, dCB, dFrz, dTup, dLst, dNone, dSome, dSl, dTest, dtAnd, dtOr, dtNot, dAndV, dOrV, dNotV, dIf, dChain, dLc, dMut, dMutR, dFz, fzAll, fzE, dSetI, dAug, dM1, dCall, diSeq, diR1, diR2, diEnum, noStr, ofX, enumD, dgName, dgNil, dgCons, dgTup, RE.bind, RE.stm, RS.seq, rd, rds, opt, optS, optE, OD.toD, frz, frzs, setSl, X.slot, setI, slotOf, passX, passXs, slots, temps, wb, wr, hideE, unhide, unhid, RS.map, fnM, finR, backP, retX, Sl.par, pAdd, pSub, pMul, pDiv, pMod, pPow, pNeg, pCmp, pIx, pSl, pRev, pLen, pInt, pTuple, pList, pIsi, pAll, pAny, pSum, pMax, pMin, pAugAdd, mApp, mExt, mIns, mPopAt, mPop, OD.isL, OD.isD, isS, D.isNon, pIsN, pNotN, D.tyN, lcEnd, ixN, dMakeF, makeD, dMakeStar, makeStarD, starA, imsX, dMake0, dFldF, rcvA, recvX, dSetF, putFD, pRevL, dMakeF0, RE.calm, List.lookup, dMethF, callD, dOpS, gInO, RE.bl, gBinO, dUnO, dConF, dCvF, pIsiO, dSupM, dCallI, gOp, dNewT, dNewK, dGetD, dSetD, setD, diKs, pListO, pLenO, imX, isDic, dArr, arr, freeSl, wipeE, restE, lcGo, pEq, pNe, pEqB, D.scal, L2.scal, hcn, q3, q4]
  rcases hs with rfl | rfl | rfl
  · exact rq _ (.inl ⟨rfl, .inl rfl⟩)
  · exact rq _ (.inr ⟨rfl, rfl⟩)
  · exact rq _ (.inl ⟨rfl, .inr rfl⟩)
def ManyI (n T : Nat) (ns : List Str) (s2 : Sl) (xs : List D) (env : Ev) : Prop := ∃ (o : OD) (rs : List Rw) (s4 s5 s6 : Sl), env = [.ow true o, .im (bD ns), s2, .ow false (.lst (rs.map rowD)), s4, s5, s6] ∧ PO (n + (ns.length + 6) * (T - xs.length)) o ∧ xs.length + rs.length = T ∧ Fr s4 ∧ Fr s5 ∧ Fr s6 ∧ RwsOk ns rs
theorem many_L1 {n T : Nat} {ns : List Str} (hl : ns.length ≤ 100) (hn : n + 20000 < 2 ^ 39) (hT : T ≤ 100) (s2 : Sl) : ∀ xs env, ManyI n T ns s2 xs env → ∃ e', forGo (dgName 4) b__law_many_rows_L1 xs env = .nx e' ∧ ManyI n T ns s2 [] e' := by
  refine for_nx (ManyI n T ns s2) ?_
  rintro x xs env ⟨o, rs, s4, s5, s6, rfl, hP, hxs, h4, h5, h6, hr⟩
  simp at hxs
  have hmul : (ns.length + 6) * (T - (x :: xs).length) ≤ 106 * 100 := Nat.mul_le_mul (by omega) (by simp; omega)
  have e : (ns.length + 6) * (T - xs.length) = (ns.length + 6) * (T - (x :: xs).length) + (ns.length + 6) := by
    have : T - xs.length = (T - (x :: xs).length) + 1 := by simp; omega
    rw [this, Nat.mul_add, Nat.mul_one]
  have hN : n + (ns.length + 6) * (T - (x :: xs).length) < 2 ^ 39 := by omega
  generalize hNN : n + (ns.length + 6) * (T - (x :: xs).length) = N at hP hN
  have hg : dgName 4 x [.ow true o, .im (bD ns), s2, .ow false (.lst (rs.map rowD)), s4, s5, s6] = some [.ow true o, .im (bD ns), s2, .ow false (.lst (rs.map rowD)), .im x, s5, s6] := by
    rcases h4 with rfl | ⟨d, rfl⟩ <;> simp [dSeq, dAsg, dAsgG, dDrop, dRet, dIfS, dFor, dBreak, dCont, dNever, dNext, dC, dVar, dOp, dUn, dNil, dCons, dCB, dFrz, dTup, dLst, dNone, dSome, dSl, dTest, dtAnd, dtOr, dtNot, dAndV, dOrV, dNotV, dIf, dChain, dLc, dMut, dMutR, dFz, fzAll, fzE, dSetI, dAug, dM1, dCall, diSeq, diR1, diR2, diEnum, noStr, ofX, enumD, dgName, dgNil, dgCons, dgTup, RE.bind, RE.stm, RS.seq, rd, rds, opt, optS, optE, OD.toD, frz, frzs, setSl, X.slot, setI, slotOf, passX, passXs, slots, temps, wb, wr, hideE, unhide, unhid, RS.map, fnM, finR, backP, retX, Sl.par, pAdd, pSub, pMul, pDiv, pMod, pPow, pNeg, pCmp, pIx, pSl, pRev, pLen, pInt, pTuple, pList, pIsi, pAll, pAny, pSum, pMax, pMin, pAugAdd, mApp, mExt, mIns, mPopAt, mPop, OD.isL, OD.isD, isS, D.isNon, pIsN, pNotN, D.tyN, lcEnd, ixN, dMakeF, makeD, dMakeStar, makeStarD, starA, imsX, dMake0, dFldF, rcvA, recvX, dSetF, putFD, pRevL, dMakeF0, RE.calm, List.lookup, dMethF, callD, dOpS, gInO, RE.bl, gBinO, dUnO, dConF, dCvF, pIsiO, dSupM, dCallI, gOp, dNewT, dNewK, dGetD, dSetD, setD, diKs, pListO, pLenO, imX, isDic, dArr, arr, freeSl, wipeE, restE, lcGo, forGo, pEq, pNe, pEqB, D.scal, L2.scal]
  obtain ⟨cs, rest, o1, a1, a2, a3⟩ := ballot_spec (ns := ns) hP (by omega) (by omega)
  have fl : fit (rs.length) = true := fit_s (by omega)
  have hf : fit (rs.length + 1) = true := fit_s (by omega)
  have q1 : dAsg 5 (dFrz (dCall d__law_ballot (dCons (dVar 0) (dCons (dVar 1) dNil)))) [.ow true o, .im (bD ns), s2, .ow false (.lst (rs.map rowD)), .im x, s5, s6] = .nx [.ow true o1, .im (bD ns), s2, .ow false (.lst (rs.map rowD)), .im x, .im (bD cs), s6] := by
    generalize d__law_ballot = g1 at *
    rcases h5 with rfl | ⟨d, rfl⟩ <;> simp [dSeq, dAsg, dAsgG, dDrop, dRet, dIfS, dFor, dBreak, dCont, dNever, dNext, dC, dVar, dOp, dUn, dNil, dCons, dCB, dFrz, dTup, dLst, dNone, dSome, dSl, dTest, dtAnd, dtOr, dtNot, dAndV, dOrV, dNotV, dIf, dChain, dLc, dMut, dMutR, dFz, fzAll, fzE, dSetI, dAug, dM1, dCall, diSeq, diR1, diR2, diEnum, noStr, ofX, enumD, dgName, dgNil, dgCons, dgTup, RE.bind, RE.stm, RS.seq, rd, rds, opt, optS, optE, OD.toD, frz, frzs, setSl, X.slot, setI, slotOf, passX, passXs, slots, temps, wb, wr, hideE, unhide, unhid, RS.map, fnM, finR, backP, retX, Sl.par, pAdd, pSub, pMul, pDiv, pMod, pPow, pNeg, pCmp, pIx, pSl, pRev, pLen, pInt, pTuple, pList, pIsi, pAll, pAny, pSum, pMax, pMin, pAugAdd, mApp, mExt, mIns, mPopAt, mPop, OD.isL, OD.isD, isS, D.isNon, pIsN, pNotN, D.tyN, lcEnd, ixN, dMakeF, makeD, dMakeStar, makeStarD, starA, imsX, dMake0, dFldF, rcvA, recvX, dSetF, putFD, pRevL, dMakeF0, RE.calm, List.lookup, dMethF, callD, dOpS, gInO, RE.bl, gBinO, dUnO, dConF, dCvF, pIsiO, dSupM, dCallI, gOp, dNewT, dNewK, dGetD, dSetD, setD, diKs, pListO, pLenO, imX, isDic, dArr, arr, freeSl, wipeE, restE, lcGo, forGo, pEq, pNe, pEqB, D.scal, L2.scal, a1]
  have q2 : ∃ b o2, dIfS (dtAnd (dTest (dOp (pCmp fun i j => decide (i > j)) (dCB pLen (dCons (dVar 3) dNil)) (dC (.int 0)))) (dTest (dOp pEq (dCall d__law_draw (dCons (dVar 0) (dCons (dC (.int 3)) dNil))) (dC (.int 0))))) (dAsg 5 (dOp pIx (dOp pIx (dVar 3) (dCall d__law_draw (dCons (dVar 0) (dCons (dCB pLen (dCons (dVar 3) dNil)) dNil)))) (dC (.int 0)))) dNext [.ow true o1, .im (bD ns), s2, .ow false (.lst (rs.map rowD)), .im x, .im (bD cs), s6] = .nx [.ow true o2, .im (bD ns), s2, .ow false (.lst (rs.map rowD)), .im x, .im (bD b), s6] ∧ PO (N + 1 + ns.length + 2) o2 ∧ Blt ns b := by
    by_cases h0 : 0 < rs.length
    · obtain ⟨r, o2, b1, b2, b3, b4⟩ := draw_spec a2 (by omega) (m := 3) (by decide) (by decide)
      have h0' : (0 : Int) < (rs.length : Int) := by omega
      by_cases hr0 : r = 0
      · subst hr0
        obtain ⟨k, o3, c1, c2, c3, c4⟩ := draw_spec b2 (by omega) (m := (rs.length : Int)) (by omega) (by omega)
        have hk : k.toNat < rs.length := by omega
        have hat : atI (rs.map rowD) k = some (rowD rs[k.toNat]) := by
          rw [atI_i c3]
          simp [hk]
        have hB := (hr _ (List.getElem_mem hk)).1
        refine ⟨rs[k.toNat].1, o3, ?_, c2.mono (by omega), hB⟩
        generalize rs[k.toNat] = q at *
        generalize hR : rs.map rowD = R at *
        have hRL : R.length = rs.length := by rw [← hR]; simp
        rw [← hRL] at h0' fl c1
        have at0 : ∀ (x : D) (xs : List D), atI (x :: xs) 0 = some x := fun x xs => by rw [atI_i (by omega)]; rfl
        have h0R : 0 < R.length := by omega
        unfold rowD at hat
        generalize d__law_draw = g1 at *
        simp [dSeq, dAsg, dAsgG, dDrop, dRet, dIfS, dFor, dBreak, dCont, dNever, dNext, dC, dVar, dOp, dUn, dNil, dCons, dCB, dFrz, dTup, dLst, dNone, dSome, dSl, dTest, dtAnd, dtOr, dtNot, dAndV, dOrV, dNotV, dIf, dChain, dLc, dMut, dMutR, dFz, fzAll, fzE, dSetI, dAug, dM1, dCall, diSeq, diR1, diR2, diEnum, noStr, ofX, enumD, dgName, dgNil, dgCons, dgTup, RE.bind, RE.stm, RS.seq, rd, rds, opt, optS, optE, OD.toD, frz, frzs, setSl, X.slot, setI, slotOf, passX, passXs, slots, temps, wb, wr, hideE, unhide, unhid, RS.map, fnM, finR, backP, retX, Sl.par, pAdd, pSub, pMul, pDiv, pMod, pPow, pNeg, pCmp, pIx, pSl, pRev, pLen, pInt, pTuple, pList, pIsi, pAll, pAny, pSum, pMax, pMin, pAugAdd, mApp, mExt, mIns, mPopAt, mPop, OD.isL, OD.isD, isS, D.isNon, pIsN, pNotN, D.tyN, lcEnd, ixN, dMakeF, makeD, dMakeStar, makeStarD, starA, imsX, dMake0, dFldF, rcvA, recvX, dSetF, putFD, pRevL, dMakeF0, RE.calm, List.lookup, dMethF, callD, dOpS, gInO, RE.bl, gBinO, dUnO, dConF, dCvF, pIsiO, dSupM, dCallI, gOp, dNewT, dNewK, dGetD, dSetD, setD, diKs, pListO, pLenO, imX, isDic, dArr, arr, freeSl, wipeE, restE, lcGo, forGo, pEq, pNe, pEqB, D.scal, L2.scal, fl, h0', h0R, b1, c1, hat, at0]
      · refine ⟨cs, o2, ?_, b2.mono (by omega), ⟨rest, a3⟩⟩
        generalize hR : rs.map rowD = R at *
        have hRL : R.length = rs.length := by rw [← hR]; simp
        rw [← hRL] at h0' fl
        have h0R : 0 < R.length := by omega
        generalize d__law_draw = g1 at *
        simp [dSeq, dAsg, dAsgG, dDrop, dRet, dIfS, dFor, dBreak, dCont, dNever, dNext, dC, dVar, dOp, dUn, dNil, dCons, dCB, dFrz, dTup, dLst, dNone, dSome, dSl, dTest, dtAnd, dtOr, dtNot, dAndV, dOrV, dNotV, dIf, dChain, dLc, dMut, dMutR, dFz, fzAll, fzE, dSetI, dAug, dM1, dCall, diSeq, diR1, diR2, diEnum, noStr, ofX, enumD, dgName, dgNil, dgCons, dgTup, RE.bind, RE.stm, RS.seq, rd, rds, opt, optS, optE, OD.toD, frz, frzs, setSl, X.slot, setI, slotOf, passX, passXs, slots, temps, wb, wr, hideE, unhide, unhid, RS.map, fnM, finR, backP, retX, Sl.par, pAdd, pSub, pMul, pDiv, pMod, pPow, pNeg, pCmp, pIx, pSl, pRev, pLen, pInt, pTuple, pList, pIsi, pAll, pAny, pSum, pMax, pMin, pAugAdd, mApp, mExt, mIns, mPopAt, mPop, OD.isL, OD.isD, isS, D.isNon, pIsN, pNotN, D.tyN, lcEnd, ixN, dMakeF, makeD, dMakeStar, makeStarD, starA, imsX, dMake0, dFldF, rcvA, recvX, dSetF, putFD, pRevL, dMakeF0, RE.calm, List.lookup, dMethF, callD, dOpS, gInO, RE.bl, gBinO, dUnO, dConF, dCvF, pIsiO, dSupM, dCallI, gOp, dNewT, dNewK, dGetD, dSetD, setD, diKs, pListO, pLenO, imX, isDic, dArr, arr, freeSl, wipeE, restE, lcGo, forGo, pEq, pNe, pEqB, D.scal, L2.scal, fl, h0', h0R, b1, hr0]
    · have : rs = [] := List.length_eq_zero_iff.mp (by omega)
      subst this
      exact ⟨cs, o1, by simp [dSeq, dAsg, dAsgG, dDrop, dRet, dIfS, dFor, dBreak, dCont, dNever, dNext, dC, dVar, dOp, dUn, dNil, dCons, dCB, dFrz, dTup, dLst, dNone, dSome, dSl, dTest, dtAnd, dtOr, dtNot, dAndV, dOrV, dNotV, dIf, dChain, dLc, dMut, dMutR, dFz, fzAll, fzE, dSetI, dAug, dM1, dCall, diSeq, diR1, diR2, diEnum, noStr, ofX, enumD, dgName, dgNil, dgCons, dgTup, RE.bind, RE.stm, RS.seq, rd, rds, opt, optS, optE, OD.toD, frz, frzs, setSl, X.slot, setI, slotOf, passX, passXs, slots, temps, wb, wr, hideE, unhide, unhid, RS.map, fnM, finR, backP, retX, Sl.par, pAdd, pSub, pMul, pDiv, pMod, pPow, pNeg, pCmp, pIx, pSl, pRev, pLen, pInt, pTuple, pList, pIsi, pAll, pAny, pSum, pMax, pMin, pAugAdd, mApp, mExt, mIns, mPopAt, mPop, OD.isL, OD.isD, isS, D.isNon, pIsN, pNotN, D.tyN, lcEnd, ixN, dMakeF, makeD, dMakeStar, makeStarD, starA, imsX, dMake0, dFldF, rcvA, recvX, dSetF, putFD, pRevL, dMakeF0, RE.calm, List.lookup, dMethF, callD, dOpS, gInO, RE.bl, gBinO, dUnO, dConF, dCvF, pIsiO, dSupM, dCallI, gOp, dNewT, dNewK, dGetD, dSetD, setD, diKs, pListO, pLenO, imX, isDic, dArr, arr, freeSl, wipeE, restE, lcGo, forGo, pEq, pNe, pEqB, D.scal, L2.scal, fit_s], a2.mono (by omega), ⟨rest, a3⟩⟩
  obtain ⟨b, o2, q2, p2, hB⟩ := q2
  obtain ⟨t, o3, b1, b2, b3, b4⟩ := draw_spec p2 (by omega) (m := 3) (by decide) (by decide)
  obtain ⟨r, o4, c1, c2, c3, c4⟩ := times_spec (s := t) b2 (by omega)
  have q3 : dAsg 6 (dFrz (dCall d__law_times (dCons (dVar 0) (dCons (dFrz (dCall d__law_draw (dCons (dVar 0) (dCons (dC (.int 3)) dNil)))) dNil)))) [.ow true o2, .im (bD ns), s2, .ow false (.lst (rs.map rowD)), .im x, .im (bD b), s6] = .nx [.ow true o4, .im (bD ns), s2, .ow false (.lst (rs.map rowD)), .im x, .im (bD b), .im (.int r)] := by
    generalize d__law_times = g1 at *
    generalize d__law_draw = g2 at *
    rcases h6 with rfl | ⟨d, rfl⟩ <;> simp [dSeq, dAsg, dAsgG, dDrop, dRet, dIfS, dFor, dBreak, dCont, dNever, dNext, dC, dVar, dOp, dUn, dNil, dCons, dCB, dFrz, dTup, dLst, dNone, dSome, dSl, dTest, dtAnd, dtOr, dtNot, dAndV, dOrV, dNotV, dIf, dChain, dLc, dMut, dMutR, dFz, fzAll, fzE, dSetI, dAug, dM1, dCall, diSeq, diR1, diR2, diEnum, noStr, ofX, enumD, dgName, dgNil, dgCons, dgTup, RE.bind, RE.stm, RS.seq, rd, rds, opt, optS, optE, OD.toD, frz, frzs, setSl, X.slot, setI, slotOf, passX, passXs, slots, temps, wb, wr, hideE, unhide, unhid, RS.map, fnM, finR, backP, retX, Sl.par, pAdd, pSub, pMul, pDiv, pMod, pPow, pNeg, pCmp, pIx, pSl, pRev, pLen, pInt, pTuple, pList, pIsi, pAll, pAny, pSum, pMax, pMin, pAugAdd, mApp, mExt, mIns, mPopAt, mPop, OD.isL, OD.isD, isS, D.isNon, pIsN, pNotN, D.tyN, lcEnd, ixN, dMakeF, makeD, dMakeStar, makeStarD, starA, imsX, dMake0, dFldF, rcvA, recvX, dSetF, putFD, pRevL, dMakeF0, RE.calm, List.lookup, dMethF, callD, dOpS, gInO, RE.bl, gBinO, dUnO, dConF, dCvF, pIsiO, dSupM, dCallI, gOp, dNewT, dNewK, dGetD, dSetD, setD, diKs, pListO, pLenO, imX, isDic, dArr, arr, freeSl, wipeE, restE, lcGo, forGo, pEq, pNe, pEqB, D.scal, L2.scal, b1, c1]
  refine ⟨_, _, hg, .inl (show b__law_many_rows_L1 _ = RS.nx [.ow true o4, .im (bD ns), s2, .ow false (.lst ((rs ++ [(b, r)]).map rowD)), .im x, .im (bD b), .im (.int r)] from ?_), o4, rs ++ [(b, r)], _, _, _, rfl, c2.mono (by omega), by simp; omega, .inr ⟨_, rfl⟩, .inr ⟨_, rfl⟩, .inr ⟨_, rfl⟩, ?_⟩
  · unfold b__law_many_rows_L1
    rw [seq_nx q1, seq_nx q2, seq_nx q3]
    have hf2 : fit 2 = true := by decide
    simp [dSeq, dAsg, dAsgG, dDrop, dRet, dIfS, dFor, dBreak, dCont, dNever, dNext, dC, dVar, dOp, dUn, dNil, dCons, dCB, dFrz, dTup, dLst, dNone, dSome, dSl, dTest, dtAnd, dtOr, dtNot, dAndV, dOrV, dNotV, dIf, dChain, dLc, dMut, dMutR, dFz, fzAll, fzE, dSetI, dAug, dM1, dCall, diSeq, diR1, diR2, diEnum, noStr, ofX, enumD, dgName, dgNil, dgCons, dgTup, RE.bind, RE.stm, RS.seq, rd, rds, opt, optS, optE, OD.toD, frz, frzs, setSl, X.slot, setI, slotOf, passX, passXs, slots, temps, wb, wr, hideE, unhide, unhid, RS.map, fnM, finR, backP, retX, Sl.par, pAdd, pSub, pMul, pDiv, pMod, pPow, pNeg, pCmp, pIx, pSl, pRev, pLen, pInt, pTuple, pList, pIsi, pAll, pAny, pSum, pMax, pMin, pAugAdd, mApp, mExt, mIns, mPopAt, mPop, OD.isL, OD.isD, isS, D.isNon, pIsN, pNotN, D.tyN, lcEnd, ixN, dMakeF, makeD, dMakeStar, makeStarD, starA, imsX, dMake0, dFldF, rcvA, recvX, dSetF, putFD, pRevL, dMakeF0, RE.calm, List.lookup, dMethF, callD, dOpS, gInO, RE.bl, gBinO, dUnO, dConF, dCvF, pIsiO, dSupM, dCallI, gOp, dNewT, dNewK, dGetD, dSetD, setD, diKs, pListO, pLenO, imX, isDic, dArr, arr, freeSl, wipeE, restE, lcGo, forGo, pEq, pNe, pEqB, D.scal, L2.scal, hf, hf2, rowD]
  · intro q hq
    rcases List.mem_append.mp hq with hq | hq
    · exact hr q hq
    · simp at hq
      subst hq
      exact ⟨hB, c3, c4⟩
theorem many_rows_spec {n : Nat} {o : OD} {ns : List Str} (h : PO n o) (hn : n + 60000 < 2 ^ 39) (hl : ns.length ≤ 100) : ∃ (rs : List Rw) (o' : OD), d__law_many_rows [.ow true o, .im (bD ns)] = .ok (.ow (.lst (rs.map rowD))) [.ow true o', .im (bD ns)] ∧ PO (n + 10700) o' ∧ rs.length ≤ 30 ∧ RwsOk ns rs := by
  obtain ⟨r, o1, a1, a2, a3, a4⟩ := draw_spec h (by omega) (m := 4) (by omega) (by omega)
  have : ∃ m : Int, 1 ≤ m ∧ m ≤ 31 ∧ dIfS (dTest (dOp pEq (dCall d__law_draw (dCons (dVar 0) (dCons (dC (.int 4)) dNil))) (dC (.int 0)))) (dAsg 2 (dC (.int 31))) dNext [.ow true o, .im (bD ns), .im (.int 7), .no, .no, .no, .no] = .nx [.ow true o1, .im (bD ns), .im (.int m), .no, .no, .no, .no] := by
    by_cases h0 : r = 0
    · exact ⟨31, by omega, by omega, by simp [dSeq, dAsg, dAsgG, dDrop, dRet, dIfS, dFor, dBreak, dCont, dNever, dNext, dC, dVar, dOp, dUn, dNil, dCons, dCB, dFrz, dTup, dLst, dNone, dSome, dSl, dTest, dtAnd, dtOr, dtNot, dAndV, dOrV, dNotV, dIf, dChain, dLc, dMut, dMutR, dFz, fzAll, fzE, dSetI, dAug, dM1, dCall, diSeq, diR1, diR2, diEnum, noStr, ofX, enumD, dgName, dgNil, dgCons, dgTup, RE.bind, RE.stm, RS.seq, rd, rds, opt, optS, optE, OD.toD, frz, frzs, setSl, X.slot, setI, slotOf, passX, passXs, slots, temps, wb, wr, hideE, unhide, unhid, RS.map, fnM, finR, backP, retX, Sl.par, pAdd, pSub, pMul, pDiv, pMod, pPow, pNeg, pCmp, pIx, pSl, pRev, pLen, pInt, pTuple, pList, pIsi, pAll, pAny, pSum, pMax, pMin, pAugAdd, mApp, mExt, mIns, mPopAt, mPop, OD.isL, OD.isD, isS, D.isNon, pIsN, pNotN, D.tyN, lcEnd, ixN, dMakeF, makeD, dMakeStar, makeStarD, starA, imsX, dMake0, dFldF, rcvA, recvX, dSetF, putFD, pRevL, dMakeF0, RE.calm, List.lookup, dMethF, callD, dOpS, gInO, RE.bl, gBinO, dUnO, dConF, dCvF, pIsiO, dSupM, dCallI, gOp, dNewT, dNewK, dGetD, dSetD, setD, diKs, pListO, pLenO, imX, isDic, dArr, arr, freeSl, wipeE, restE, lcGo, forGo, pEq, pNe, pEqB, D.scal, L2.scal, a1, h0]⟩
    · exact ⟨7, by omega, by omega, by simp [dSeq, dAsg, dAsgG, dDrop, dRet, dIfS, dFor, dBreak, dCont, dNever, dNext, dC, dVar, dOp, dUn, dNil, dCons, dCB, dFrz, dTup, dLst, dNone, dSome, dSl, dTest, dtAnd, dtOr, dtNot, dAndV, dOrV, dNotV, dIf, dChain, dLc, dMut, dMutR, dFz, fzAll, fzE, dSetI, dAug, dM1, dCall, diSeq, diR1, diR2, diEnum, noStr, ofX, enumD, dgName, dgNil, dgCons, dgTup, RE.bind, RE.stm, RS.seq, rd, rds, opt, optS, optE, OD.toD, frz, frzs, setSl, X.slot, setI, slotOf, passX, passXs, slots, temps, wb, wr, hideE, unhide, unhid, RS.map, fnM, finR, backP, retX, Sl.par, pAdd, pSub, pMul, pDiv, pMod, pPow, pNeg, pCmp, pIx, pSl, pRev, pLen, pInt, pTuple, pList, pIsi, pAll, pAny, pSum, pMax, pMin, pAugAdd, mApp, mExt, mIns, mPopAt, mPop, OD.isL, OD.isD, isS, D.isNon, pIsN, pNotN, D.tyN, lcEnd, ixN, dMakeF, makeD, dMakeStar, makeStarD, starA, imsX, dMake0, dFldF, rcvA, recvX, dSetF, putFD, pRevL, dMakeF0, RE.calm, List.lookup, dMethF, callD, dOpS, gInO, RE.bl, gBinO, dUnO, dConF, dCvF, pIsiO, dSupM, dCallI, gOp, dNewT, dNewK, dGetD, dSetD, setD, diKs, pListO, pLenO, imX, isDic, dArr, arr, freeSl, wipeE, restE, lcGo, forGo, pEq, pNe, pEqB, D.scal, L2.scal, a1, h0]⟩
  obtain ⟨m, m1, m2, m3⟩ := this
  obtain ⟨k, o2, b1, b2, b3, b4⟩ := draw_spec a2 (by omega) (m := m) (by omega) (by omega)
  have hlen := rg_len 0 k.toNat
  obtain ⟨e', c1, o3, rs, s4, s5, s6, rfl, c2, c3, c4, c5, c6, c7⟩ := many_L1 (n := n + 2) (T := k.toNat) (ns := ns) hl (by omega) (by omega) (.im (.int m)) (rgD 0 k.toNat) [.ow true o2, .im (bD ns), .im (.int m), .ow false (.lst []), .no, .no, .no] ⟨o2, [], .no, .no, .no, rfl, by rw [hlen]; exact b2.mono (by omega), by rw [hlen]; rfl, .inl rfl, .inl rfl, .inl rfl, by intro r hr; simp at hr⟩
  have q1 : rgOk k = true := rgOk_s (by omega) (by omega)
  simp at c3
  refine ⟨rs, o3, ?_, c2.mono ?_, by omega, c7⟩
  · have key : b__law_many_rows ([.ow true o, .im (bD ns)] ++ List.replicate 5 .no) = .rt (.sl 3) [.ow true o3, .im (bD ns), .im (.int m), .ow false (.lst (rs.map rowD)), s4, s5, s6] := by
      unfold b__law_many_rows
      rw [seq_nx (e1 := [.ow true o, .im (bD ns), .im (.int 7), .no, .no, .no, .no]) (by simp [dSeq, dAsg, dAsgG, dDrop, dRet, dIfS, dFor, dBreak, dCont, dNever, dNext, dC, dVar, dOp, dUn, dNil, dCons, dCB, dFrz, dTup, dLst, dNone, dSome, dSl, dTest, dtAnd, dtOr, dtNot, dAndV, dOrV, dNotV, dIf, dChain, dLc, dMut, dMutR, dFz, fzAll, fzE, dSetI, dAug, dM1, dCall, diSeq, diR1, diR2, diEnum, noStr, ofX, enumD, dgName, dgNil, dgCons, dgTup, RE.bind, RE.stm, RS.seq, rd, rds, opt, optS, optE, OD.toD, frz, frzs, setSl, X.slot, setI, slotOf, passX, passXs, slots, temps, wb, wr, hideE, unhide, unhid, RS.map, fnM, finR, backP, retX, Sl.par, pAdd, pSub, pMul, pDiv, pMod, pPow, pNeg, pCmp, pIx, pSl, pRev, pLen, pInt, pTuple, pList, pIsi, pAll, pAny, pSum, pMax, pMin, pAugAdd, mApp, mExt, mIns, mPopAt, mPop, OD.isL, OD.isD, isS, D.isNon, pIsN, pNotN, D.tyN, lcEnd, ixN, dMakeF, makeD, dMakeStar, makeStarD, starA, imsX, dMake0, dFldF, rcvA, recvX, dSetF, putFD, pRevL, dMakeF0, RE.calm, List.lookup, dMethF, callD, dOpS, gInO, RE.bl, gBinO, dUnO, dConF, dCvF, pIsiO, dSupM, dCallI, gOp, dNewT, dNewK, dGetD, dSetD, setD, diKs, pListO, pLenO, imX, isDic, dArr, arr, freeSl, wipeE, restE, lcGo, forGo, pEq, pNe, pEqB, D.scal, L2.scal])]
      rw [seq_nx m3]
      rw [seq_nx (e1 := [.ow true o1, .im (bD ns), .im (.int m), .ow false (.lst []), .no, .no, .no]) (by simp [dSeq, dAsg, dAsgG, dDrop, dRet, dIfS, dFor, dBreak, dCont, dNever, dNext, dC, dVar, dOp, dUn, dNil, dCons, dCB, dFrz, dTup, dLst, dNone, dSome, dSl, dTest, dtAnd, dtOr, dtNot, dAndV, dOrV, dNotV, dIf, dChain, dLc, dMut, dMutR, dFz, fzAll, fzE, dSetI, dAug, dM1, dCall, diSeq, diR1, diR2, diEnum, noStr, ofX, enumD, dgName, dgNil, dgCons, dgTup, RE.bind, RE.stm, RS.seq, rd, rds, opt, optS, optE, OD.toD, frz, frzs, setSl, X.slot, setI, slotOf, passX, passXs, slots, temps, wb, wr, hideE, unhide, unhid, RS.map, fnM, finR, backP, retX, Sl.par, pAdd, pSub, pMul, pDiv, pMod, pPow, pNeg, pCmp, pIx, pSl, pRev, pLen, pInt, pTuple, pList, pIsi, pAll, pAny, pSum, pMax, pMin, pAugAdd, mApp, mExt, mIns, mPopAt, mPop, OD.isL, OD.isD, isS, D.isNon, pIsN, pNotN, D.tyN, lcEnd, ixN, dMakeF, makeD, dMakeStar, makeStarD, starA, imsX, dMake0, dFldF, rcvA, recvX, dSetF, putFD, pRevL, dMakeF0, RE.calm, List.lookup, dMethF, callD, dOpS, gInO, RE.bl, gBinO, dUnO, dConF, dCvF, pIsiO, dSupM, dCallI, gOp, dNewT, dNewK, dGetD, dSetD, setD, diKs, pListO, pLenO, imX, isDic, dArr, arr, freeSl, wipeE, restE, lcGo, forGo, pEq, pNe, pEqB, D.scal, L2.scal, fit_s])]
      rw [seq_nx (for_r1 (xs := [.im (.int k)]) (e1 := [.ow true o2, .im (bD ns), .im (.int m), .ow false (.lst []), .no, .no, .no]) (by simp [dSeq, dAsg, dAsgG, dDrop, dRet, dIfS, dFor, dBreak, dCont, dNever, dNext, dC, dVar, dOp, dUn, dNil, dCons, dCB, dFrz, dTup, dLst, dNone, dSome, dSl, dTest, dtAnd, dtOr, dtNot, dAndV, dOrV, dNotV, dIf, dChain, dLc, dMut, dMutR, dFz, fzAll, fzE, dSetI, dAug, dM1, dCall, diSeq, diR1, diR2, diEnum, noStr, ofX, enumD, dgName, dgNil, dgCons, dgTup, RE.bind, RE.stm, RS.seq, rd, rds, opt, optS, optE, OD.toD, frz, frzs, setSl, X.slot, setI, slotOf, passX, passXs, slots, temps, wb, wr, hideE, unhide, unhid, RS.map, fnM, finR, backP, retX, Sl.par, pAdd, pSub, pMul, pDiv, pMod, pPow, pNeg, pCmp, pIx, pSl, pRev, pLen, pInt, pTuple, pList, pIsi, pAll, pAny, pSum, pMax, pMin, pAugAdd, mApp, mExt, mIns, mPopAt, mPop, OD.isL, OD.isD, isS, D.isNon, pIsN, pNotN, D.tyN, lcEnd, ixN, dMakeF, makeD, dMakeStar, makeStarD, starA, imsX, dMake0, dFldF, rcvA, recvX, dSetF, putFD, pRevL, dMakeF0, RE.calm, List.lookup, dMethF, callD, dOpS, gInO, RE.bl, gBinO, dUnO, dConF, dCvF, pIsiO, dSupM, dCallI, gOp, dNewT, dNewK, dGetD, dSetD, setD, diKs, pListO, pLenO, imX, isDic, dArr, arr, freeSl, wipeE, restE, lcGo, forGo, pEq, pNe, pEqB, D.scal, L2.scal, b1]) (by simp [rds, rd]) q1 c1)]
      simp [dSeq, dAsg, dAsgG, dDrop, dRet, dIfS, dFor, dBreak, dCont, dNever, dNext, dC, dVar, dOp, dUn, dNil, dCons, dCB, dFrz, dTup, dLst, dNone, dSome, dSl, dTest, dtAnd, dtOr, dtNot, dAndV, dOrV, dNotV, dIf, dChain, dLc, dMut, dMutR, dFz, fzAll, fzE, dSetI, dAug, dM1, dCall, diSeq, diR1, diR2, diEnum, noStr, ofX, enumD, dgName, dgNil, dgCons, dgTup, RE.bind, RE.stm, RS.seq, rd, rds, opt, optS, optE, OD.toD, frz, frzs, setSl, X.slot, setI, slotOf, passX, passXs, slots, temps, wb, wr, hideE, unhide, unhid, RS.map, fnM, finR, backP, retX, Sl.par, pAdd, pSub, pMul, pDiv, pMod, pPow, pNeg, pCmp, pIx, pSl, pRev, pLen, pInt, pTuple, pList, pIsi, pAll, pAny, pSum, pMax, pMin, pAugAdd, mApp, mExt, mIns, mPopAt, mPop, OD.isL, OD.isD, isS, D.isNon, pIsN, pNotN, D.tyN, lcEnd, ixN, dMakeF, makeD, dMakeStar, makeStarD, starA, imsX, dMake0, dFldF, rcvA, recvX, dSetF, putFD, pRevL, dMakeF0, RE.calm, List.lookup, dMethF, callD, dOpS, gInO, RE.bl, gBinO, dUnO, dConF, dCvF, pIsiO, dSupM, dCallI, gOp, dNewT, dNewK, dGetD, dSetD, setD, diKs, pListO, pLenO, imX, isDic, dArr, arr, freeSl, wipeE, restE, lcGo, forGo, pEq, pNe, pEqB, D.scal, L2.scal]
    unfold d__law_many_rows fnM
    rw [if_pos (by simp [Sl.par]), key]
    simp [dSeq, dAsg, dAsgG, dDrop, dRet, dIfS, dFor, dBreak, dCont, dNever, dNext, dC, dVar, dOp, dUn, dNil, dCons, dCB, dFrz, dTup, dLst, dNone, dSome, dSl, dTest, dtAnd, dtOr, dtNot, dAndV, dOrV, dNotV, dIf, dChain, dLc, dMut, dMutR, dFz, fzAll, fzE, dSetI, dAug, dM1, dCall, diSeq, diR1, diR2, diEnum, noStr, ofX, enumD, dgName, dgNil, dgCons, dgTup, RE.bind, RE.stm, RS.seq, rd, rds, opt, optS, optE, OD.toD, frz, frzs, setSl, X.slot, setI, slotOf, passX, passXs, slots, temps, wb, wr, hideE, unhide, unhid, RS.map, fnM, finR, backP, retX, Sl.par, pAdd, pSub, pMul, pDiv, pMod, pPow, pNeg, pCmp, pIx, pSl, pRev, pLen, pInt, pTuple, pList, pIsi, pAll, pAny, pSum, pMax, pMin, pAugAdd, mApp, mExt, mIns, mPopAt, mPop, OD.isL, OD.isD, isS, D.isNon, pIsN, pNotN, D.tyN, lcEnd, ixN, dMakeF, makeD, dMakeStar, makeStarD, starA, imsX, dMake0, dFldF, rcvA, recvX, dSetF, putFD, pRevL, dMakeF0, RE.calm, List.lookup, dMethF, callD, dOpS, gInO, RE.bl, gBinO, dUnO, dConF, dCvF, pIsiO, dSupM, dCallI, gOp, dNewT, dNewK, dGetD, dSetD, setD, diKs, pListO, pLenO, imX, isDic, dArr, arr, freeSl, wipeE, restE, lcGo, forGo, pEq, pNe, pEqB, D.scal, L2.scal]
  · have : (ns.length + 6) * (k.toNat - ([] : List D).length) ≤ 106 * 100 := Nat.mul_le_mul (by omega) (by simp; omega)
    omega
end Wk

namespace Wk
open PySem PySem.Spec PyProof.Rows L2 TL Dn
/-! _law_same of two things that are the same -/
def SD : Nat → D → Prop
  | 0, _ => False
  | _ + 1, .non => True
  | _ + 1, .bl _ => True
  | _ + 1, .int _ => True
  | _ + 1, .str _ => True
  | n + 1, .tup xs => xs.length ≤ 100000 ∧ ∀ d ∈ xs, SD n d
  | n + 1, .lst xs => xs.length ≤ 100000 ∧ ∀ d ∈ xs, SD n d
  | _ + 1, _ => False
def Rs (s : Sl) (d : D) : Prop := s = .im d ∨ ∃ xs, s = .ow true (.lst xs) ∧ d = .lst xs
/-- the slot reads as a sequence -/
def Sq (s : Sl) (t : Bool) (l : List D) : Prop := (t = true ∧ s = .im (.tup l)) ∨ (t = false ∧ (s = .im (.lst l) ∨ s = .ow true (.lst l)))
theorem rg_mem0 {n : Nat} {d : D} (h : d ∈ rgD 0 n) : ∃ i : Nat, d = .int i ∧ i < n := by
  unfold rgD at h
  obtain ⟨i, hi, rfl⟩ := List.mem_map.mp h
  exact ⟨i, by simp, by simpa using hi⟩
theorem seq_same {a b : Ev → RS} {env : Ev} (h : a env = .nx env) : dSeq a b env = b env := seq_nx h
def SameI (s1 s2 : Sl) (n : Nat) (xs : List D) (env : Ev) : Prop := (∃ s3, env = [s1, s2, s3] ∧ (s3 = .no ∨ ∃ d, s3 = .im d)) ∧ ∀ d ∈ xs, ∃ i : Nat, d = .int i ∧ i < n
theorem same_L1 (k : Nat) (s1 s2 : Sl) (t : Bool) (l : List D) (h1 : Sq s1 t l) (h2 : Sq s2 t l) (h : ∀ x ∈ l, d__law_same k [.im x, .im x] = .ok (.im (.bl true)) [.im x, .im x]) :
    ∀ xs env, SameI s1 s2 l.length xs env → ∃ e', forGo (dgName 2) (b__law_same_L1 (d__law_same k)) xs env = .nx e' ∧ SameI s1 s2 l.length [] e' := by
  refine for_nx (SameI s1 s2 l.length) ?_
  rintro x xs env ⟨⟨s3, rfl, h3⟩, hx⟩
  obtain ⟨i, rfl, hi⟩ := hx x (by simp)
  have hg : dgName 2 (.int i) [s1, s2, s3] = some [s1, s2, .im (.int i)] := by
    have hs : s1 ≠ .hid := by rcases h1 with ⟨_, rfl⟩ | ⟨_, rfl | rfl⟩ <;> simp
    rcases h3 with rfl | ⟨d, rfl⟩ <;> simp [dgName, setSl, X.slot]
  have e1 : l[i]? = some l[i] := List.getElem?_eq_getElem hi
  have ha : atI l (i : Int) = some l[i] := L2.atI_nat e1
  have hs := h l[i] (List.getElem_mem hi)
  refine ⟨_, _, hg, .inl ?_, ⟨⟨.im (.int i), rfl, .inr ⟨_, rfl⟩⟩, fun d hd => hx d (by simp [hd])⟩⟩
  generalize d__law_same k = rc at *
  generalize l[i] = x1 at *
  rcases h1 with ⟨rfl, rfl⟩ | ⟨rfl, rfl | rfl⟩ <;> rcases h2 with ⟨z, rfl⟩ | ⟨z, rfl | rfl⟩ <;> first | cases z; done | simp [b__law_same_L1, dSeq, dAsg, dAsgG, dDrop, dRet, dIfS, dFor, dBreak, dCont, dNever, dNext, dC, dVar, dOp, dUn, dNil, dCons, dCB, dFrz, dTup, dLst, dNone, dSome, dSl, dTest, dtAnd, dtOr, dtNot, dAndV, dOrV, dNotV, dIf, dChain, dLc, dMut, dMutR, dFz, fzAll, fzE, dSetI, dAug, dM1, dCall, diSeq, diR1, diR2, diEnum, noStr, ofX, enumD, dgName, dgNil, dgCons, dgTup, RE.bind, RE.stm, RS.seq, rd, rds, opt, optS, optE, OD.toD, frz, frzs, setSl, X.slot, setI, slotOf, passX, passXs, slots, temps, wb, wr, hideE, unhide, unhid, RS.map, fnM, finR, backP, retX, Sl.par, pAdd, pSub, pMul, pDiv, pMod, pPow, pNeg, pCmp, pIx, pSl, pRev, pLen, pInt, pTuple, pList, pIsi, pAll, pAny, pSum, pMax, pMin, pAugAdd, mApp, mExt, mIns, mPopAt, mPop, OD.isL, OD.isD, isS, D.isNon, pIsN, pNotN, D.tyN, lcEnd, ixN, dMakeF, makeD, dMakeStar, makeStarD, starA, imsX, dMake0, dFldF, rcvA, recvX, dSetF, putFD, pRevL, dMakeF0, RE.calm, List.lookup, dMethF, callD, dOpS, gInO, RE.bl, gBinO, dUnO, dConF, dCvF, pIsiO, dSupM, dCallI, gOp, dNewT, dNewK, dGetD, dSetD, setD, diKs, pListO, pLenO, imX, isDic, dArr, freeSl, wipeE, restE, lcGo, forGo, pEq, pNe, pEqB, D.scal, L2.scal, ha, hs]
theorem same_rest (k : Nat) (s1 s2 : Sl) (t : Bool) (l : List D) (h1 : Sq s1 t l) (h2 : Sq s2 t l) (hz : l.length ≤ 100000) (h : ∀ x ∈ l, d__law_same k [.im x, .im x] = .ok (.im (.bl true)) [.im x, .im x]) : d__law_same (k + 1) [s1, s2] = .ok (.im (.bl true)) [s1, s2] := by
  have q1 : L2.kitB "tuple" "bool" = some false := by decide +kernel
  have q2 : L2.kitB "tuple" "int" = some false := by decide +kernel
  have q3 : L2.kitB "tuple" "str" = some false := by decide +kernel
  have q4 : L2.kitB "tuple" "tuple" = some true := by decide +kernel
  have q5 : L2.kitB "tuple" "list" = some false := by decide +kernel
  have r1 : L2.kitB "list" "bool" = some false := by decide +kernel
  have r2 : L2.kitB "list" "int" = some false := by decide +kernel
  have r3 : L2.kitB "list" "str" = some false := by decide +kernel
  have r4 : L2.kitB "list" "tuple" = some false := by decide +kernel
  have r5 : L2.kitB "list" "list" = some true := by decide +kernel
  obtain ⟨e', j1, ⟨s3, rfl, h3⟩, _⟩ := same_L1 k s1 s2 t l h1 h2 h (rgD 0 ((l.length : Int)).toNat) [s1, s2, .no] ⟨⟨.no, rfl, .inl rfl⟩, fun d hd => by
    obtain ⟨i, h1, h2⟩ := rg_mem0 hd
    exact ⟨i, h1, by omega⟩⟩
  have q6 : rgOk (l.length : Int) = true := rgOk_s (by omega) (by omega)
  have key : b__law_same (d__law_same k) [s1, s2, .no] = .rt (.im (.bl true)) [s1, s2, s3] := by
    have jj : dFor (diR1 (dCons (dCB pLen (dCons (dVar 1) dNil)) dNil)) (dgName 2) (b__law_same_L1 (d__law_same k)) [s1, s2, .no] = .nx [s1, s2, s3] := by
      refine for_r1 (xs := [.im (.int (l.length : Int))]) (e1 := [s1, s2, .no]) ?_ (by simp [rds, rd]) q6 j1
      rcases h2 with ⟨_, rfl⟩ | ⟨_, rfl | rfl⟩ <;> simp [dSeq, dAsg, dAsgG, dDrop, dRet, dIfS, dFor, dBreak, dCont, dNever, dNext, dC, dVar, dOp, dUn, dNil, dCons, dCB, dFrz, dTup, dLst, dNone, dSome, dSl, dTest, dtAnd, dtOr, dtNot, dAndV, dOrV, dNotV, dIf, dChain, dLc, dMut, dMutR, dFz, fzAll, fzE, dSetI, dAug, dM1, dCall, diSeq, diR1, diR2, diEnum, noStr, ofX, enumD, dgName, dgNil, dgCons, dgTup, RE.bind, RE.stm, RS.seq, rd, rds, opt, optS, optE, OD.toD, frz, frzs, setSl, X.slot, setI, slotOf, passX, passXs, slots, temps, wb, wr, hideE, unhide, unhid, RS.map, fnM, finR, backP, retX, Sl.par, pAdd, pSub, pMul, pDiv, pMod, pPow, pNeg, pCmp, pIx, pSl, pRev, pLen, pInt, pTuple, pList, pIsi, pAll, pAny, pSum, pMax, pMin, pAugAdd, mApp, mExt, mIns, mPopAt, mPop, OD.isL, OD.isD, isS, D.isNon, pIsN, pNotN, D.tyN, lcEnd, ixN, dMakeF, makeD, dMakeStar, makeStarD, starA, imsX, dMake0, dFldF, rcvA, recvX, dSetF, putFD, pRevL, dMakeF0, RE.calm, List.lookup, dMethF, callD, dOpS, gInO, RE.bl, gBinO, dUnO, dConF, dCvF, pIsiO, dSupM, dCallI, gOp, dNewT, dNewK, dGetD, dSetD, setD, diKs, pListO, pLenO, imX, isDic, dArr, freeSl, wipeE, restE, lcGo, forGo, pEq, pNe, pEqB, D.scal, L2.scal]
    generalize d__law_same k = rc at *
    unfold b__law_same
    rcases h1 with ⟨rfl, rfl⟩ | ⟨rfl, rfl | rfl⟩ <;> rcases h2 with ⟨z, rfl⟩ | ⟨z, rfl | rfl⟩ <;> first
      | cases z; done
      | (refine (seq_same (by simp [dSeq, dAsg, dAsgG, dDrop, dRet, dIfS, dFor, dBreak, dCont, dNever, dNext, dC, dVar, dOp, dUn, dNil, dCons, dCB, dFrz, dTup, dLst, dNone, dSome, dSl, dTest, dtAnd, dtOr, dtNot, dAndV, dOrV, dNotV, dIf, dChain, dLc, dMut, dMutR, dFz, fzAll, fzE, dSetI, dAug, dM1, dCall, diSeq, diR1, diR2, diEnum, noStr, ofX, enumD, dgName, dgNil, dgCons, dgTup, RE.bind, RE.stm, RS.seq, rd, rds, opt, optS, optE, OD.toD, frz, frzs, setSl, X.slot, setI, slotOf, passX, passXs, slots, temps, wb, wr, hideE, unhide, unhid, RS.map, fnM, finR, backP, retX, Sl.par, pAdd, pSub, pMul, pDiv, pMod, pPow, pNeg, pCmp, pIx, pSl, pRev, pLen, pInt, pTuple, pList, pIsi, pAll, pAny, pSum, pMax, pMin, pAugAdd, mApp, mExt, mIns, mPopAt, mPop, OD.isL, OD.isD, isS, D.isNon, pIsN, pNotN, D.tyN, lcEnd, ixN, dMakeF, makeD, dMakeStar, makeStarD, starA, imsX, dMake0, dFldF, rcvA, recvX, dSetF, putFD, pRevL, dMakeF0, RE.calm, List.lookup, dMethF, callD, dOpS, gInO, RE.bl, gBinO, dUnO, dConF, dCvF, pIsiO, dSupM, dCallI, gOp, dNewT, dNewK, dGetD, dSetD, setD, diKs, pListO, pLenO, imX, isDic, dArr, freeSl, wipeE, restE, lcGo, forGo, pEq, pNe, pEqB, D.scal, L2.scal])).trans ?_
         refine (seq_same (by simp [dSeq, dAsg, dAsgG, dDrop, dRet, dIfS, dFor, dBreak, dCont, dNever, dNext, dC, dVar, dOp, dUn, dNil, dCons, dCB, dFrz, dTup, dLst, dNone, dSome, dSl, dTest, dtAnd, dtOr, dtNot, dAndV, dOrV, dNotV, dIf, dChain, dLc, dMut, dMutR, dFz, fzAll, fzE, dSetI, dAug, dM1, dCall, diSeq, diR1, diR2, diEnum, noStr, ofX, enumD, dgName, dgNil, dgCons, dgTup, RE.bind, RE.stm, RS.seq, rd, rds, opt, optS, optE, OD.toD, frz, frzs, setSl, X.slot, setI, slotOf, passX, passXs, slots, temps, wb, wr, hideE, unhide, unhid, RS.map, fnM, finR, backP, retX, Sl.par, pAdd, pSub, pMul, pDiv, pMod, pPow, pNeg, pCmp, pIx, pSl, pRev, pLen, pInt, pTuple, pList, pIsi, pAll, pAny, pSum, pMax, pMin, pAugAdd, mApp, mExt, mIns, mPopAt, mPop, OD.isL, OD.isD, isS, D.isNon, pIsN, pNotN, D.tyN, lcEnd, ixN, dMakeF, makeD, dMakeStar, makeStarD, starA, imsX, dMake0, dFldF, rcvA, recvX, dSetF, putFD, pRevL, dMakeF0, RE.calm, List.lookup, dMethF, callD, dOpS, gInO, RE.bl, gBinO, dUnO, dConF, dCvF, pIsiO, dSupM, dCallI, gOp, dNewT, dNewK, dGetD, dSetD, setD, diKs, pListO, pLenO, imX, isDic, dArr, freeSl, wipeE, restE, lcGo, forGo, pEq, pNe, pEqB, D.scal, L2.scal, q1, r1])).trans ?_
         refine (seq_same (by simp [dSeq, dAsg, dAsgG, dDrop, dRet, dIfS, dFor, dBreak, dCont, dNever, dNext, dC, dVar, dOp, dUn, dNil, dCons, dCB, dFrz, dTup, dLst, dNone, dSome, dSl, dTest, dtAnd, dtOr, dtNot, dAndV, dOrV, dNotV, dIf, dChain, dLc, dMut, dMutR, dFz, fzAll, fzE, dSetI, dAug, dM1, dCall, diSeq, diR1, diR2, diEnum, noStr, ofX, enumD, dgName, dgNil, dgCons, dgTup, RE.bind, RE.stm, RS.seq, rd, rds, opt, optS, optE, OD.toD, frz, frzs, setSl, X.slot, setI, slotOf, passX, passXs, slots, temps, wb, wr, hideE, unhide, unhid, RS.map, fnM, finR, backP, retX, Sl.par, pAdd, pSub, pMul, pDiv, pMod, pPow, pNeg, pCmp, pIx, pSl, pRev, pLen, pInt, pTuple, pList, pIsi, pAll, pAny, pSum, pMax, pMin, pAugAdd, mApp, mExt, mIns, mPopAt, mPop, OD.isL, OD.isD, isS, D.isNon, pIsN, pNotN, D.tyN, lcEnd, ixN, dMakeF, makeD, dMakeStar, makeStarD, starA, imsX, dMake0, dFldF, rcvA, recvX, dSetF, putFD, pRevL, dMakeF0, RE.calm, List.lookup, dMethF, callD, dOpS, gInO, RE.bl, gBinO, dUnO, dConF, dCvF, pIsiO, dSupM, dCallI, gOp, dNewT, dNewK, dGetD, dSetD, setD, diKs, pListO, pLenO, imX, isDic, dArr, freeSl, wipeE, restE, lcGo, forGo, pEq, pNe, pEqB, D.scal, L2.scal, q2, r2])).trans ?_
         refine (seq_same (by simp [dSeq, dAsg, dAsgG, dDrop, dRet, dIfS, dFor, dBreak, dCont, dNever, dNext, dC, dVar, dOp, dUn, dNil, dCons, dCB, dFrz, dTup, dLst, dNone, dSome, dSl, dTest, dtAnd, dtOr, dtNot, dAndV, dOrV, dNotV, dIf, dChain, dLc, dMut, dMutR, dFz, fzAll, fzE, dSetI, dAug, dM1, dCall, diSeq, diR1, diR2, diEnum, noStr, ofX, enumD, dgName, dgNil, dgCons, dgTup, RE.bind, RE.stm, RS.seq, rd, rds, opt, optS, optE, OD.toD, frz, frzs, setSl, X.slot, setI, slotOf, passX, passXs, slots, temps, wb, wr, hideE, unhide, unhid, RS.map, fnM, finR, backP, retX, Sl.par, pAdd, pSub, pMul, pDiv, pMod, pPow, pNeg, pCmp, pIx, pSl, pRev, pLen, pInt, pTuple, pList, pIsi, pAll, pAny, pSum, pMax, pMin, pAugAdd, mApp, mExt, mIns, mPopAt, mPop, OD.isL, OD.isD, isS, D.isNon, pIsN, pNotN, D.tyN, lcEnd, ixN, dMakeF, makeD, dMakeStar, makeStarD, starA, imsX, dMake0, dFldF, rcvA, recvX, dSetF, putFD, pRevL, dMakeF0, RE.calm, List.lookup, dMethF, callD, dOpS, gInO, RE.bl, gBinO, dUnO, dConF, dCvF, pIsiO, dSupM, dCallI, gOp, dNewT, dNewK, dGetD, dSetD, setD, diKs, pListO, pLenO, imX, isDic, dArr, freeSl, wipeE, restE, lcGo, forGo, pEq, pNe, pEqB, D.scal, L2.scal, q3, r3])).trans ?_
         refine (seq_same (by simp [dSeq, dAsg, dAsgG, dDrop, dRet, dIfS, dFor, dBreak, dCont, dNever, dNext, dC, dVar, dOp, dUn, dNil, dCons, dCB, dFrz, dTup, dLst, dNone, dSome, dSl, dTest, dtAnd, dtOr, dtNot, dAndV, dOrV, dNotV, dIf, dChain, dLc, dMut, dMutR, dFz, fzAll, fzE, dSetI, dAug, dM1, dCall, diSeq, diR1, diR2, diEnum, noStr, ofX, enumD, dgName, dgNil, dgCons, dgTup, RE.bind, RE.stm, RS.seq, rd, rds, opt, optS, optE, OD.toD, frz, frzs, setSl, X.slot, setI, slotOf, passX, passXs, slots, temps, wb, wr, hideE, unhide, unhid, RS.map, fnM, finR, backP, retX, Sl.par, pAdd, pSub, pMul, pDiv, pMod, pPow, pNeg, pCmp, pIx, pSl, pRev, pLen, pInt, pTuple, pList, pIsi, pAll, pAny, pSum, pMax, pMin, pAugAdd, mApp, mExt, mIns, mPopAt, mPop, OD.isL, OD.isD, isS, D.isNon, pIsN, pNotN, D.tyN, lcEnd, ixN, dMakeF, makeD, dMakeStar, makeStarD, starA, imsX, dMake0, dFldF, rcvA, recvX, dSetF, putFD, pRevL, dMakeF0, RE.calm, List.lookup, dMethF, callD, dOpS, gInO, RE.bl, gBinO, dUnO, dConF, dCvF, pIsiO, dSupM, dCallI, gOp, dNewT, dNewK, dGetD, dSetD, setD, diKs, pListO, pLenO, imX, isDic, dArr, freeSl, wipeE, restE, lcGo, forGo, pEq, pNe, pEqB, D.scal, L2.scal, q4, r4])).trans ?_
         refine (seq_same (by simp [dSeq, dAsg, dAsgG, dDrop, dRet, dIfS, dFor, dBreak, dCont, dNever, dNext, dC, dVar, dOp, dUn, dNil, dCons, dCB, dFrz, dTup, dLst, dNone, dSome, dSl, dTest, dtAnd, dtOr, dtNot, dAndV, dOrV, dNotV, dIf, dChain, dLc, dMut, dMutR, dFz, fzAll, fzE, dSetI, dAug, dM1, dCall, diSeq, diR1, diR2, diEnum, noStr, ofX, enumD, dgName, dgNil, dgCons, dgTup, RE.bind, RE.stm, RS.seq, rd, rds, opt, optS, optE, OD.toD, frz, frzs, setSl, X.slot, setI, slotOf, passX, passXs, slots, temps, wb, wr, hideE, unhide, unhid, RS.map, fnM, finR, backP, retX, Sl.par, pAdd, pSub, pMul, pDiv, pMod, pPow, pNeg, pCmp, pIx, pSl, pRev, pLen, pInt, pTuple, pList, pIsi, pAll, pAny, pSum, pMax, pMin, pAugAdd, mApp, mExt, mIns, mPopAt, mPop, OD.isL, OD.isD, isS, D.isNon, pIsN, pNotN, D.tyN, lcEnd, ixN, dMakeF, makeD, dMakeStar, makeStarD, starA, imsX, dMake0, dFldF, rcvA, recvX, dSetF, putFD, pRevL, dMakeF0, RE.calm, List.lookup, dMethF, callD, dOpS, gInO, RE.bl, gBinO, dUnO, dConF, dCvF, pIsiO, dSupM, dCallI, gOp, dNewT, dNewK, dGetD, dSetD, setD, diKs, pListO, pLenO, imX, isDic, dArr, freeSl, wipeE, restE, lcGo, forGo, pEq, pNe, pEqB, D.scal, L2.scal, q5, r5])).trans ?_
         refine (seq_same (by simp [dSeq, dAsg, dAsgG, dDrop, dRet, dIfS, dFor, dBreak, dCont, dNever, dNext, dC, dVar, dOp, dUn, dNil, dCons, dCB, dFrz, dTup, dLst, dNone, dSome, dSl, dTest, dtAnd, dtOr, dtNot, dAndV, dOrV, dNotV, dIf, dChain, dLc, dMut, dMutR, dFz, fzAll, fzE, dSetI, dAug, dM1, dCall, diSeq, diR1, diR2, diEnum, noStr, ofX, enumD, dgName, dgNil, dgCons, dgTup, RE.bind, RE.stm, RS.seq, rd, rds, opt, optS, optE, OD.toD, frz, frzs, setSl, X.slot, setI, slotOf, passX, passXs, slots, temps, wb, wr, hideE, unhide, unhid, RS.map, fnM, finR, backP, retX, Sl.par, pAdd, pSub, pMul, pDiv, pMod, pPow, pNeg, pCmp, pIx, pSl, pRev, pLen, pInt, pTuple, pList, pIsi, pAll, pAny, pSum, pMax, pMin, pAugAdd, mApp, mExt, mIns, mPopAt, mPop, OD.isL, OD.isD, isS, D.isNon, pIsN, pNotN, D.tyN, lcEnd, ixN, dMakeF, makeD, dMakeStar, makeStarD, starA, imsX, dMake0, dFldF, rcvA, recvX, dSetF, putFD, pRevL, dMakeF0, RE.calm, List.lookup, dMethF, callD, dOpS, gInO, RE.bl, gBinO, dUnO, dConF, dCvF, pIsiO, dSupM, dCallI, gOp, dNewT, dNewK, dGetD, dSetD, setD, diKs, pListO, pLenO, imX, isDic, dArr, freeSl, wipeE, restE, lcGo, forGo, pEq, pNe, pEqB, D.scal, L2.scal])).trans ?_
         refine (seq_nx jj).trans ?_
         simp [dSeq, dAsg, dAsgG, dDrop, dRet, dIfS, dFor, dBreak, dCont, dNever, dNext, dC, dVar, dOp, dUn, dNil, dCons, dCB, dFrz, dTup, dLst, dNone, dSome, dSl, dTest, dtAnd, dtOr, dtNot, dAndV, dOrV, dNotV, dIf, dChain, dLc, dMut, dMutR, dFz, fzAll, fzE, dSetI, dAug, dM1, dCall, diSeq, diR1, diR2, diEnum, noStr, ofX, enumD, dgName, dgNil, dgCons, dgTup, RE.bind, RE.stm, RS.seq, rd, rds, opt, optS, optE, OD.toD, frz, frzs, setSl, X.slot, setI, slotOf, passX, passXs, slots, temps, wb, wr, hideE, unhide, unhid, RS.map, fnM, finR, backP, retX, Sl.par, pAdd, pSub, pMul, pDiv, pMod, pPow, pNeg, pCmp, pIx, pSl, pRev, pLen, pInt, pTuple, pList, pIsi, pAll, pAny, pSum, pMax, pMin, pAugAdd, mApp, mExt, mIns, mPopAt, mPop, OD.isL, OD.isD, isS, D.isNon, pIsN, pNotN, D.tyN, lcEnd, ixN, dMakeF, makeD, dMakeStar, makeStarD, starA, imsX, dMake0, dFldF, rcvA, recvX, dSetF, putFD, pRevL, dMakeF0, RE.calm, List.lookup, dMethF, callD, dOpS, gInO, RE.bl, gBinO, dUnO, dConF, dCvF, pIsiO, dSupM, dCallI, gOp, dNewT, dNewK, dGetD, dSetD, setD, diKs, pListO, pLenO, imX, isDic, dArr, freeSl, wipeE, restE, lcGo, forGo, pEq, pNe, pEqB, D.scal, L2.scal])
  have hpar : s1.par = true ∧ s2.par = true := by
    constructor
    · rcases h1 with ⟨_, rfl⟩ | ⟨_, rfl | rfl⟩ <;> rfl
    · rcases h2 with ⟨_, rfl⟩ | ⟨_, rfl | rfl⟩ <;> rfl
  have hb : backP [s1, s2] [s1, s2, s3] = [s1, s2] := by
    rcases h1 with ⟨_, rfl⟩ | ⟨_, rfl | rfl⟩ <;> rcases h2 with ⟨_, rfl⟩ | ⟨_, rfl | rfl⟩ <;> simp [backP]
  show fnM 3 2 (b__law_same (d__law_same k)) [s1, s2] = _
  rw [fn_rt (e := [s1, s2, s3]) (d := .bl true) (by simp [hpar]) key, hb]
theorem same_ok : ∀ (n : Nat) (d : D), SD n d → ∀ s1 s2, Rs s1 d → Rs s2 d → d__law_same n [s1, s2] = .ok (.im (.bl true)) [s1, s2]
  | 0, _, h, _, _, _, _ => h.elim
  | n + 1, d, h, s1, s2, h1, h2 => by
    have sq : ∀ {s : Sl} {xs : List D}, Rs s (.lst xs) → Sq s false xs := fun {s xs} h => by
      rcases h with rfl | ⟨ys, rfl, e⟩
      · exact .inr ⟨rfl, .inl rfl⟩
      · cases e
        exact .inr ⟨rfl, .inr rfl⟩
    have st : ∀ {s : Sl} {xs : List D}, Rs s (.tup xs) → Sq s true xs := fun {s xs} h => by
      rcases h with rfl | ⟨ys, rfl, e⟩
      · exact .inl ⟨rfl, rfl⟩
      · cases e
    have im : ∀ {s : Sl}, (∀ xs, d ≠ .lst xs) → Rs s d → s = .im d := fun {s} hd h => by
      rcases h with rfl | ⟨ys, rfl, e⟩
      · rfl
      · exact (hd _ e).elim
    cases d with
    | tup xs => exact same_rest n s1 s2 true xs (st h1) (st h2) h.1 fun x hx => same_ok n x (h.2 x hx) _ _ (.inl rfl) (.inl rfl)
    | lst xs => exact same_rest n s1 s2 false xs (sq h1) (sq h2) h.1 fun x hx => same_ok n x (h.2 x hx) _ _ (.inl rfl) (.inl rfl)
    | non =>
      rw [im (fun _ z => nomatch z) h1, im (fun _ z => nomatch z) h2]
      simp [d__law_same, b__law_same, dSeq, dAsg, dAsgG, dDrop, dRet, dIfS, dFor, dBreak, dCont, dNever, dNext, dC, dVar, dOp, dUn, dNil, dCons, dCB, dFrz, dTup, dLst, dNone, dSome, dSl, dTest, dtAnd, dtOr, dtNot, dAndV, dOrV, dNotV, dIf, dChain, dLc, dMut, dMutR, dFz, fzAll, fzE, dSetI, dAug, dM1, dCall, diSeq, diR1, diR2, diEnum, noStr, ofX, enumD, dgName, dgNil, dgCons, dgTup, RE.bind, RE.stm, RS.seq, rd, rds, opt, optS, optE, OD.toD, frz, frzs, setSl, X.slot, setI, slotOf, passX, passXs, slots, temps, wb, wr, hideE, unhide, unhid, RS.map, fnM, finR, backP, retX, Sl.par, pAdd, pSub, pMul, pDiv, pMod, pPow, pNeg, pCmp, pIx, pSl, pRev, pLen, pInt, pTuple, pList, pIsi, pAll, pAny, pSum, pMax, pMin, pAugAdd, mApp, mExt, mIns, mPopAt, mPop, OD.isL, OD.isD, isS, D.isNon, pIsN, pNotN, D.tyN, lcEnd, ixN, dMakeF, makeD, dMakeStar, makeStarD, starA, imsX, dMake0, dFldF, rcvA, recvX, dSetF, putFD, pRevL, dMakeF0, RE.calm, List.lookup, dMethF, callD, dOpS, gInO, RE.bl, gBinO, dUnO, dConF, dCvF, pIsiO, dSupM, dCallI, gOp, dNewT, dNewK, dGetD, dSetD, setD, diKs, pListO, pLenO, imX, isDic, dArr, freeSl, wipeE, restE, lcGo, forGo, pEq, pNe, pEqB, D.scal, L2.scal]
    | bl b =>
      have t1 : L2.kitB "bool" "bool" = some true := by decide +kernel
      rw [im (fun _ z => nomatch z) h1, im (fun _ z => nomatch z) h2]
      simp [d__law_same, b__law_same, dSeq, dAsg, dAsgG, dDrop, dRet, dIfS, dFor, dBreak, dCont, dNever, dNext, dC, dVar, dOp, dUn, dNil, dCons, dCB, dFrz, dTup, dLst, dNone, dSome, dSl, dTest, dtAnd, dtOr, dtNot, dAndV, dOrV, dNotV, dIf, dChain, dLc, dMut, dMutR, dFz, fzAll, fzE, dSetI, dAug, dM1, dCall, diSeq, diR1, diR2, diEnum, noStr, ofX, enumD, dgName, dgNil, dgCons, dgTup, RE.bind, RE.stm, RS.seq, rd, rds, opt, optS, optE, OD.toD, frz, frzs, setSl, X.slot, setI, slotOf, passX, passXs, slots, temps, wb, wr, hideE, unhide, unhid, RS.map, fnM, finR, backP, retX, Sl.par, pAdd, pSub, pMul, pDiv, pMod, pPow, pNeg, pCmp, pIx, pSl, pRev, pLen, pInt, pTuple, pList, pIsi, pAll, pAny, pSum, pMax, pMin, pAugAdd, mApp, mExt, mIns, mPopAt, mPop, OD.isL, OD.isD, isS, D.isNon, pIsN, pNotN, D.tyN, lcEnd, ixN, dMakeF, makeD, dMakeStar, makeStarD, starA, imsX, dMake0, dFldF, rcvA, recvX, dSetF, putFD, pRevL, dMakeF0, RE.calm, List.lookup, dMethF, callD, dOpS, gInO, RE.bl, gBinO, dUnO, dConF, dCvF, pIsiO, dSupM, dCallI, gOp, dNewT, dNewK, dGetD, dSetD, setD, diKs, pListO, pLenO, imX, isDic, dArr, freeSl, wipeE, restE, lcGo, forGo, pEq, pNe, pEqB, D.scal, L2.scal, t1]
    | int b =>
      have r1 : L2.kitB "int" "bool" = some false := by decide +kernel
      have r2 : L2.kitB "int" "int" = some true := by decide +kernel
      rw [im (fun _ z => nomatch z) h1, im (fun _ z => nomatch z) h2]
      simp [d__law_same, b__law_same, dSeq, dAsg, dAsgG, dDrop, dRet, dIfS, dFor, dBreak, dCont, dNever, dNext, dC, dVar, dOp, dUn, dNil, dCons, dCB, dFrz, dTup, dLst, dNone, dSome, dSl, dTest, dtAnd, dtOr, dtNot, dAndV, dOrV, dNotV, dIf, dChain, dLc, dMut, dMutR, dFz, fzAll, fzE, dSetI, dAug, dM1, dCall, diSeq, diR1, diR2, diEnum, noStr, ofX, enumD, dgName, dgNil, dgCons, dgTup, RE.bind, RE.stm, RS.seq, rd, rds, opt, optS, optE, OD.toD, frz, frzs, setSl, X.slot, setI, slotOf, passX, passXs, slots, temps, wb, wr, hideE, unhide, unhid, RS.map, fnM, finR, backP, retX, Sl.par, pAdd, pSub, pMul, pDiv, pMod, pPow, pNeg, pCmp, pIx, pSl, pRev, pLen, pInt, pTuple, pList, pIsi, pAll, pAny, pSum, pMax, pMin, pAugAdd, mApp, mExt, mIns, mPopAt, mPop, OD.isL, OD.isD, isS, D.isNon, pIsN, pNotN, D.tyN, lcEnd, ixN, dMakeF, makeD, dMakeStar, makeStarD, starA, imsX, dMake0, dFldF, rcvA, recvX, dSetF, putFD, pRevL, dMakeF0, RE.calm, List.lookup, dMethF, callD, dOpS, gInO, RE.bl, gBinO, dUnO, dConF, dCvF, pIsiO, dSupM, dCallI, gOp, dNewT, dNewK, dGetD, dSetD, setD, diKs, pListO, pLenO, imX, isDic, dArr, freeSl, wipeE, restE, lcGo, forGo, pEq, pNe, pEqB, D.scal, L2.scal, r1, r2]
    | str b =>
      have q1 : L2.kitB "str" "bool" = some false := by decide +kernel
      have q2 : L2.kitB "str" "int" = some false := by decide +kernel
      have q3 : L2.kitB "str" "str" = some true := by decide +kernel
      rw [im (fun _ z => nomatch z) h1, im (fun _ z => nomatch z) h2]
      simp [d__law_same, b__law_same, dSeq, dAsg, dAsgG, dDrop, dRet, dIfS, dFor, dBreak, dCont, dNever, dNext, dC, dVar, dOp, dUn, dNil, dCons, dCB, dFrz, dTup, dLst, dNone, dSome, dSl, dTest, dtAnd, dtOr, dtNot, dAndV, dOrV, dNotV, dIf, dChain, dLc, dMut, dMutR, dFz, fzAll, fzE, dSetI, dAug, dM1, dCall, diSeq, diR1, diR2, diEnum, noStr, ofX, enumD, dgName, dgNil, dgCons, dgTup, RE.bind, RE.stm, RS.seq, rd, rds, opt, optS, optE, OD.toD, frz, frzs, setSl, X.slot, setI, slotOf, passX, passXs, slots, temps, wb, wr, hideE, unhide, unhid, RS.map, fnM, finR, backP, retX, Sl.par, pAdd, pSub, pMul, pDiv, pMod, pPow, pNeg, pCmp, pIx, pSl, pRev, pLen, pInt, pTuple, pList, pIsi, pAll, pAny, pSum, pMax, pMin, pAugAdd, mApp, mExt, mIns, mPopAt, mPop, OD.isL, OD.isD, isS, D.isNon, pIsN, pNotN, D.tyN, lcEnd, ixN, dMakeF, makeD, dMakeStar, makeStarD, starA, imsX, dMake0, dFldF, rcvA, recvX, dSetF, putFD, pRevL, dMakeF0, RE.calm, List.lookup, dMethF, callD, dOpS, gInO, RE.bl, gBinO, dUnO, dConF, dCvF, pIsiO, dSupM, dCallI, gOp, dNewT, dNewK, dGetD, dSetD, setD, diKs, pListO, pLenO, imX, isDic, dArr, freeSl, wipeE, restE, lcGo, forGo, pEq, pNe, pEqB, D.scal, L2.scal, q1, q2, q3]
    | _ => exact h.elim
theorem sd_strs (n : Nat) (ws : List Str) (h : ws.length ≤ 100000) : SD (n + 2) (.tup (ws.map D.str)) := ⟨by simpa using h, fun d hd => by
  obtain ⟨w, _, rfl⟩ := List.mem_map.mp hd
  trivial⟩
theorem same_bl (n : Nat) (b : Bool) : d__law_same (n + 1) [.im (.bl b), .im (.bl b)] = .ok (.im (.bl true)) [.im (.bl b), .im (.bl b)] := same_ok (n + 1) (.bl b) trivial _ _ (.inl rfl) (.inl rfl)
theorem same_int (n : Nat) (b : Int) : d__law_same (n + 1) [.im (.int b), .im (.int b)] = .ok (.im (.bl true)) [.im (.int b), .im (.int b)] := same_ok (n + 1) (.int b) trivial _ _ (.inl rfl) (.inl rfl)
end Wk

namespace Wk
open PySem PySem.Spec PyProof.Rows L2 TL Dn
@[simp] theorem toD_lst (xs : List D) : (OD.lst xs).toD = some (.lst xs) := rfl
theorem sd_rows {ns : List Str} {s : List Str → Int} {L : List (List Str)} (hl : L.length ≤ 1000) (hL : ∀ b ∈ L, b.length ≤ 1000) : SD 5 (.lst (rowsD s L)) := by
  refine ⟨by simp [rowsD]; omega, fun d hd => ?_⟩
  obtain ⟨b, hb, rfl⟩ := List.mem_map.mp hd
  refine ⟨by simp, fun d hd => ?_⟩
  rcases List.mem_cons.mp hd with rfl | hd
  · exact sd_strs 1 b (by have := hL b hb; omega)
  · rw [List.mem_singleton.mp hd]
    trivial
theorem yields_spec {ns : List Str} {s : List Str → Int} {L : List (List Str)} (hn : ns.length ≤ 1000) (hl : L.length ≤ 1000) (hL : ∀ b ∈ L, b.length ≤ 1000) : d__law_yields [.im (rollD ns s L), .im (bD ns), .im (.lst (rowsD s L))] = .ok (.im (.bl true)) [.im (rollD ns s L), .im (bD ns), .im (.lst (rowsD s L))] := by
  have h1 := same_ok 5 (bD ns) (sd_strs 3 ns (by omega)) _ _ (.inl rfl) (.inl rfl)
  have h2 := same_ok 5 (.lst (rowsD s L)) (sd_rows (ns := ns) hl hL) _ _ (.inl rfl) (.inl rfl)
  unfold d__law_yields b__law_yields rollD
  generalize d__law_same 5 = g1 at *
  generalize rowsD s L = RR at *
  simp [dSeq, dAsg, dAsgG, dDrop, dRet, dIfS, dFor, dBreak, dCont, dNever, dNext, dC, dVar, dOp, dUn, dNil, dCons, dCB, dFrz, dTup, dLst, dNone, dSome, dSl, dTest, dtAnd, dtOr, dtNot, dAndV, dOrV, dNotV, dIf, dChain, dLc, dMut, dMutR, dFz, fzAll, fzE, dSetI, dAug, dM1, dCall, diSeq, diR1, diR2, diEnum, noStr, ofX, enumD, dgName, dgNil, dgCons, dgTup, RE.bind, RE.stm, RS.seq, rd, rds, opt, optS, optE, OD.toD, frz, frzs, setSl, X.slot, setI, slotOf, passX, passXs, slots, temps, wb, wr, hideE, unhide, unhid, RS.map, fnM, finR, backP, retX, Sl.par, pAdd, pSub, pMul, pDiv, pMod, pPow, pNeg, pCmp, pIx, pSl, pRev, pLen, pInt, pTuple, pList, pIsi, pAll, pAny, pSum, pMax, pMin, pAugAdd, mApp, mExt, mIns, mPopAt, mPop, OD.isL, OD.isD, isS, D.isNon, pIsN, pNotN, D.tyN, lcEnd, ixN, dMakeF, makeD, dMakeStar, makeStarD, starA, imsX, dMake0, dFldF, rcvA, recvX, dSetF, putFD, pRevL, dMakeF0, RE.calm, List.lookup, dMethF, callD, dOpS, gInO, RE.bl, gBinO, dUnO, dConF, dCvF, pIsiO, dSupM, dCallI, gOp, dNewT, dNewK, dGetD, dSetD, setD, diKs, pListO, pLenO, imX, isDic, dArr, arr, freeSl, wipeE, restE, lcGo, forGo, pEq, pNe, pEqB, D.scal, L2.scal, rowsO, h1, h2]
theorem ord_len {ns : List Str} {rs : List Rw} {L : List (List Str)} (h : IsOrd ns (sumOf rs) L) (hr : RwsOk ns rs) : ∀ b ∈ L, b.length ≤ ns.length := fun b hb => by
  obtain ⟨q, hq, rfl⟩ := List.mem_map.mp (sumOf_mem ((h.2 b).mp hb))
  exact (hr q hq).1.len
theorem plain (is : List Int) (hl : is.length ≤ 63) (hb : ∀ z ∈ is, Builtin.Int.intBits z ≤ 1048576) : ∃ e, d_law [.im (.scr is)] = .ok (.im (.bl true)) e := by
  obtain ⟨p0, a1, a2⟩ := pool_int hb (k := 0) (by decide) (by decide)
  obtain ⟨ns, p0', b1, b2, b3, b4, b5, b6⟩ := names_spec (lo := 1) (hi := 5) a2 (by decide) (by decide) (by decide) (by decide)
  have n1 : 1 ≤ ns.length := by omega
  have n5 : ns.length ≤ 5 := by omega
  obtain ⟨p1, c1, c2⟩ := pool_int hb (k := 1) (by decide) (by decide)
  obtain ⟨R1, p1', d1, d2, d3, d4⟩ := many_rows_spec (ns := ns) c2 (by decide) (by omega)
  obtain ⟨p2, e1, e2⟩ := pool_int hb (k := 2) (by decide) (by decide)
  obtain ⟨R2, p2', f1, f2, f3, f4⟩ := many_rows_spec (ns := ns) e2 (by decide) (by omega)
  obtain ⟨M1, g1, g2, g3⟩ := ordered_spec b3 (by omega) d4 (by omega) (.inl rfl)
  obtain ⟨M2, h1, h2, h3⟩ := ordered_spec b3 (by omega) f4 (by omega) (.inl rfl)
  have mk : ∀ {rs : List Rw} {s2 : Sl} {s : List Str → Int} {L : List (List Str)}, RwsOk ns rs → rs.length ≤ 1000 → RdR s2 (rs.map rowD) → (∀ b, sumOf rs b = s b) → IsOrd ns s L → d_Roll___init__ [.ow true (.ob "Roll" []), .im (bD ns), s2, .im (.int 1000000000000)] = .ok (.im .non) [.ow true (rollO ns s L), .im (bD ns), s2, .im (.int 1000000000000)] := fun {rs s2 s L} q1 q2 q3 q4 q5 => by
    obtain ⟨L', r1, r2, r3⟩ := roll_init b3 b4 n1 n5 q1 q2 q3
    have e : sumOf rs = s := funext q4
    subst e
    rw [r1.uniq q5] at r3
    exact r3
  have i1 := mk (s2 := .ow true (.lst (R1.map rowD))) d4 (by omega) (.inr (.inl rfl)) (fun _ => rfl) g1
  have i2 := mk (s2 := .im (.tup (R2.map rowD))) f4 (by omega) (.inr (.inr rfl)) (fun _ => rfl) h1
  have i3 := mk (s2 := .im (.tup [])) (rs := []) (s := sumOf []) (L := []) (fun r hr => nomatch hr) (by simp) (.inr (.inr rfl)) (fun _ => rfl) ⟨.nil, fun b => by simp [sumOf_nil]⟩
  have i4 := mk (s2 := .im (.lst (R1.reverse.map rowD))) (rs := R1.reverse) (fun r hr => d4 r (List.mem_reverse.mp hr)) (by simp; omega) (.inl rfl) (fun b => sumOf_rev b R1) g1
  have hdb : ∀ b, sumOf (R1 ++ R1) b = 2 * sumOf R1 b := fun b => by rw [sumOf_app]; omega
  have i5 := mk (s2 := .im (.lst ((R1 ++ R1).map rowD))) (rs := R1 ++ R1) (s := fun b => 2 * sumOf R1 b) (fun r hr => (List.mem_append.mp hr).elim (d4 r) (d4 r)) (by simp; omega) (.inl rfl) hdb (g1.same fun b => by omega)
  have l1 : ∀ b ∈ M1, b.length ≤ 1000 := fun b hb => by have := ord_len g1 d4 b hb; omega
  have l2 : ∀ b ∈ M2, b.length ≤ 1000 := fun b hb => by have := ord_len h1 f4 b hb; omega
  have y1 := yields_spec (ns := ns) (s := sumOf R1) (by omega) (by omega) l1
  have y2 := yields_spec (ns := ns) (s := sumOf R2) (by omega) (by omega) l2
  have y3 := yields_spec (ns := ns) (s := sumOf []) (L := []) (by omega) (by simp) (by simp)
  have y5 := yields_spec (ns := ns) (s := fun b => 2 * sumOf R1 b) (L := M1) (by omega) (by omega) l1
  have sR : SD 5 (.lst (R1.map rowD)) := by
    refine ⟨by simp; omega, fun d hd => ?_⟩
    obtain ⟨r, hr, rfl⟩ := List.mem_map.mp hd
    refine ⟨by simp, fun d hd => ?_⟩
    rcases List.mem_cons.mp hd with rfl | hd
    · exact sd_strs 1 r.1 (by have := (d4 r hr).1.len; omega)
    · rw [List.mem_singleton.mp hd]
      trivial
  have z1 := same_ok 5 _ sR (.ow true (.lst (R1.map rowD))) (.im (.lst (R1.map rowD))) (.inr ⟨_, rfl, rfl⟩) (.inl rfl)
  have comp : ∀ s8 s7 s6 s5 s3 : Sl, lcGo (dgTup 2 (dgCons (dgName 9) (dgCons (dgName 10) dgNil))) (fun env => .ok true env) c_law_E1 [9, 10] (rowsD (sumOf R1) M1) [.im (.scr is), .im (bD ns), .im (.lst (R1.map rowD)), s3, .im (.lst (rowsD (sumOf R1) M1)), s5, s6, s7, s8, .no, .no] [] = .ok (rowsD (fun b => 2 * sumOf R1 b) M1) [.im (.scr is), .im (bD ns), .im (.lst (R1.map rowD)), s3, .im (.lst (rowsD (sumOf R1) M1)), s5, s6, s7, s8, .no, .no] := fun s8 s7 s6 s5 s3 => by
    have e : rowsD (sumOf R1) M1 = M1.map fun b => rowD (b, sumOf R1 b) := rfl
    generalize rowsD (sumOf R1) M1 = RR at *
    rw [e, lc_map (fun b => rowD (b, sumOf R1 b)) (fun _ => true) (fun b => rowD (b, 2 * sumOf R1 b)) M1 [] ?_ (by simp; omega)]
    · rw [filt_true]
      rfl
    · intro b hb
      refine ⟨[.im (.scr is), .im (bD ns), .im (.lst (R1.map rowD)), s3, .im (.lst (M1.map fun b => rowD (b, sumOf R1 b))), s5, s6, s7, s8, .im (bD b), .im (.int (sumOf R1 b))], by simp [dSeq, dAsg, dAsgG, dDrop, dRet, dIfS, dFor, dBreak, dCont, dNever, dNext, dC, dVar, dOp, dUn, dNil, dCons, dCB, dFrz, dTup, dLst, dNone, dSome, dSl, dTest, dtAnd, dtOr, dtNot, dAndV, dOrV, dNotV, dIf, dChain, dLc, dMut, dMutR, dFz, fzAll, fzE, dSetI, dAug, dM1, dCall, diSeq, diR1, diR2, diEnum, noStr, ofX, enumD, dgName, dgNil, dgCons, dgTup, RE.bind, RE.stm, RS.seq, rd, rds, opt, optS, optE, OD.toD, frz, frzs, setSl, X.slot, setI, slotOf, passX, passXs, slots, temps, wb, wr, hideE, unhide, unhid, RS.map, fnM, finR, backP, retX, Sl.par, pAdd, pSub, pMul, pDiv, pMod, pPow, pNeg, pCmp, pIx, pSl, pRev, pLen, pInt, pTuple, pList, pIsi, pAll, pAny, pSum, pMax, pMin, pAugAdd, mApp, mExt, mIns, mPopAt, mPop, OD.isL, OD.isD, isS, D.isNon, pIsN, pNotN, D.tyN, lcEnd, ixN, dMakeF, makeD, dMakeStar, makeStarD, starA, imsX, dMake0, dFldF, rcvA, recvX, dSetF, putFD, pRevL, dMakeF0, RE.calm, List.lookup, dMethF, callD, dOpS, gInO, RE.bl, gBinO, dUnO, dConF, dCvF, pIsiO, dSupM, dCallI, gOp, dNewT, dNewK, dGetD, dSetD, setD, diKs, pListO, pLenO, imX, isDic, dArr, arr, freeSl, wipeE, restE, lcGo, forGo, pEq, pNe, pEqB, D.scal, L2.scal, rowD], rfl, fun _ => ⟨.im (rowD (b, 2 * sumOf R1 b)), ?_, rfl⟩, by simp [wipeE]⟩
      have hm : mulFit 2 (sumOf R1 b) = true := by
        have q1 := sumOf_le (rs := R1) b fun r hr => (d4 r hr).2
        have q2 := sumOf_nonneg (rs := R1) (fun r hr => (d4 r hr).2.1) b
        exact mulFit_by (a := 2) (b := 62) (by decide) (by omega) (by decide)
      have hf2 : fit 2 = true := by decide
      simp [c_law_E1, dSeq, dAsg, dAsgG, dDrop, dRet, dIfS, dFor, dBreak, dCont, dNever, dNext, dC, dVar, dOp, dUn, dNil, dCons, dCB, dFrz, dTup, dLst, dNone, dSome, dSl, dTest, dtAnd, dtOr, dtNot, dAndV, dOrV, dNotV, dIf, dChain, dLc, dMut, dMutR, dFz, fzAll, fzE, dSetI, dAug, dM1, dCall, diSeq, diR1, diR2, diEnum, noStr, ofX, enumD, dgName, dgNil, dgCons, dgTup, RE.bind, RE.stm, RS.seq, rd, rds, opt, optS, optE, OD.toD, frz, frzs, setSl, X.slot, setI, slotOf, passX, passXs, slots, temps, wb, wr, hideE, unhide, unhid, RS.map, fnM, finR, backP, retX, Sl.par, pAdd, pSub, pMul, pDiv, pMod, pPow, pNeg, pCmp, pIx, pSl, pRev, pLen, pInt, pTuple, pList, pIsi, pAll, pAny, pSum, pMax, pMin, pAugAdd, mApp, mExt, mIns, mPopAt, mPop, OD.isL, OD.isD, isS, D.isNon, pIsN, pNotN, D.tyN, lcEnd, ixN, dMakeF, makeD, dMakeStar, makeStarD, starA, imsX, dMake0, dFldF, rcvA, recvX, dSetF, putFD, pRevL, dMakeF0, RE.calm, List.lookup, dMethF, callD, dOpS, gInO, RE.bl, gBinO, dUnO, dConF, dCvF, pIsiO, dSupM, dCallI, gOp, dNewT, dNewK, dGetD, dSetD, setD, diKs, pListO, pLenO, imX, isDic, dArr, arr, freeSl, wipeE, restE, lcGo, forGo, pEq, pNe, pEqB, D.scal, L2.scal, rowD, hm, hf2]
  have f0 : fit 0 = true := by decide
  have f2 : fit 2 = true := by decide
  have f5 : fit (R1.length + 1) = true := fit_s (by omega)
  have fdb : fit (R1.length + R1.length) = true := fit_s (by omega)
  have hrev : (R1.map rowD).reverse = R1.reverse.map rowD := List.map_reverse.symm
  have happ : R1.map rowD ++ R1.map rowD = (R1 ++ R1).map rowD := List.map_append.symm
  have hlen : (R1.map rowD).length = R1.length := by simp
  rw [← hrev] at i4
  rw [← happ] at i5
  rw [← hlen] at f5 fdb
  have key : ∃ e, b_law ([.im (.scr is)] ++ List.replicate 10 .no) = .rt (.im (.bl true)) e := by
    generalize hO1 : rowsD (sumOf R1) M1 = O1 at *
    generalize hO2 : rowsD (sumOf R2) M2 = O2 at *
    generalize hG1 : R1.map rowD = G1 at *
    generalize hG2 : R2.map rowD = G2 at *
    generalize hW1 : rollD ns (sumOf R1) M1 = W1 at *
    generalize hW2 : rollD ns (sumOf R2) M2 = W2 at *
    generalize hW3 : rollD ns (sumOf []) [] = W3 at *
    generalize hW5 : rollD ns (fun b => 2 * sumOf R1 b) M1 = W5 at *
    have t1 : (rollO ns (sumOf R1) M1).toD = some W1 := by rw [← hW1]; rfl
    have t2 : (rollO ns (sumOf R2) M2).toD = some W2 := by rw [← hW2]; rfl
    have t3 : (rollO ns (sumOf []) []).toD = some W3 := by rw [← hW3]; rfl
    have t5 : (rollO ns (fun b => 2 * sumOf R1 b) M1).toD = some W5 := by rw [← hW5]; rfl
    generalize rollO ns (sumOf R1) M1 = V1 at *
    generalize rollO ns (sumOf R2) M2 = V2 at *
    generalize rollO ns (sumOf []) [] = V3 at *
    generalize rollO ns (fun b => 2 * sumOf R1 b) M1 = V5 at *
    have y3' : d__law_yields [.im W3, .im (bD ns), .im (.lst [])] = .ok (.im (.bl true)) [.im W3, .im (bD ns), .im (.lst [])] := y3
    unfold b_law
    rw [seq_nx (e1 := [.im (.scr is), .im (bD ns), .no, .no, .no, .no, .no, .no, .no, .no, .no]) (by simp [dSeq, dAsg, dAsgG, dDrop, dRet, dIfS, dFor, dBreak, dCont, dNever, dNext, dC, dVar, dOp, dUn, dNil, dCons, dCB, dFrz, dTup, dLst, dNone, dSome, dSl, dTest, dtAnd, dtOr, dtNot, dAndV, dOrV, dNotV, dIf, dChain, dLc, dMut, dMutR, dFz, fzAll, fzE, dSetI, dAug, dM1, dCall, diSeq, diR1, diR2, diEnum, noStr, ofX, enumD, dgName, dgNil, dgCons, dgTup, RE.bind, RE.stm, RS.seq, rd, rds, opt, optS, optE, OD.toD, frz, frzs, setSl, X.slot, setI, slotOf, passX, passXs, slots, temps, wb, wr, hideE, unhide, unhid, RS.map, fnM, finR, backP, retX, Sl.par, pAdd, pSub, pMul, pDiv, pMod, pPow, pNeg, pCmp, pIx, pSl, pRev, pLen, pInt, pTuple, pList, pIsi, pAll, pAny, pSum, pMax, pMin, pAugAdd, mApp, mExt, mIns, mPopAt, mPop, OD.isL, OD.isD, isS, D.isNon, pIsN, pNotN, D.tyN, lcEnd, ixN, dMakeF, makeD, dMakeStar, makeStarD, starA, imsX, dMake0, dFldF, rcvA, recvX, dSetF, putFD, pRevL, dMakeF0, RE.calm, List.lookup, dMethF, callD, dOpS, gInO, RE.bl, gBinO, dUnO, dConF, dCvF, pIsiO, dSupM, dCallI, gOp, dNewT, dNewK, dGetD, dSetD, setD, diKs, pListO, pLenO, imX, isDic, dArr, arr, freeSl, wipeE, restE, lcGo, forGo, pEq, pNe, pEqB, D.scal, L2.scal, a1, b1])]
    rw [seq_nx (e1 := [.im (.scr is), .im (bD ns), .im (.lst G1), .no, .no, .no, .no, .no, .no, .no, .no]) (by simp [dSeq, dAsg, dAsgG, dDrop, dRet, dIfS, dFor, dBreak, dCont, dNever, dNext, dC, dVar, dOp, dUn, dNil, dCons, dCB, dFrz, dTup, dLst, dNone, dSome, dSl, dTest, dtAnd, dtOr, dtNot, dAndV, dOrV, dNotV, dIf, dChain, dLc, dMut, dMutR, dFz, fzAll, fzE, dSetI, dAug, dM1, dCall, diSeq, diR1, diR2, diEnum, noStr, ofX, enumD, dgName, dgNil, dgCons, dgTup, RE.bind, RE.stm, RS.seq, rd, rds, opt, optS, optE, OD.toD, frz, frzs, setSl, X.slot, setI, slotOf, passX, passXs, slots, temps, wb, wr, hideE, unhide, unhid, RS.map, fnM, finR, backP, retX, Sl.par, pAdd, pSub, pMul, pDiv, pMod, pPow, pNeg, pCmp, pIx, pSl, pRev, pLen, pInt, pTuple, pList, pIsi, pAll, pAny, pSum, pMax, pMin, pAugAdd, mApp, mExt, mIns, mPopAt, mPop, OD.isL, OD.isD, isS, D.isNon, pIsN, pNotN, D.tyN, lcEnd, ixN, dMakeF, makeD, dMakeStar, makeStarD, starA, imsX, dMake0, dFldF, rcvA, recvX, dSetF, putFD, pRevL, dMakeF0, RE.calm, List.lookup, dMethF, callD, dOpS, gInO, RE.bl, gBinO, dUnO, dConF, dCvF, pIsiO, dSupM, dCallI, gOp, dNewT, dNewK, dGetD, dSetD, setD, diKs, pListO, pLenO, imX, isDic, dArr, arr, freeSl, wipeE, restE, lcGo, forGo, pEq, pNe, pEqB, D.scal, L2.scal, c1, d1])]
    rw [seq_nx (e1 := [.im (.scr is), .im (bD ns), .im (.lst G1), .im (.lst G2), .no, .no, .no, .no, .no, .no, .no]) (by simp [dSeq, dAsg, dAsgG, dDrop, dRet, dIfS, dFor, dBreak, dCont, dNever, dNext, dC, dVar, dOp, dUn, dNil, dCons, dCB, dFrz, dTup, dLst, dNone, dSome, dSl, dTest, dtAnd, dtOr, dtNot, dAndV, dOrV, dNotV, dIf, dChain, dLc, dMut, dMutR, dFz, fzAll, fzE, dSetI, dAug, dM1, dCall, diSeq, diR1, diR2, diEnum, noStr, ofX, enumD, dgName, dgNil, dgCons, dgTup, RE.bind, RE.stm, RS.seq, rd, rds, opt, optS, optE, OD.toD, frz, frzs, setSl, X.slot, setI, slotOf, passX, passXs, slots, temps, wb, wr, hideE, unhide, unhid, RS.map, fnM, finR, backP, retX, Sl.par, pAdd, pSub, pMul, pDiv, pMod, pPow, pNeg, pCmp, pIx, pSl, pRev, pLen, pInt, pTuple, pList, pIsi, pAll, pAny, pSum, pMax, pMin, pAugAdd, mApp, mExt, mIns, mPopAt, mPop, OD.isL, OD.isD, isS, D.isNon, pIsN, pNotN, D.tyN, lcEnd, ixN, dMakeF, makeD, dMakeStar, makeStarD, starA, imsX, dMake0, dFldF, rcvA, recvX, dSetF, putFD, pRevL, dMakeF0, RE.calm, List.lookup, dMethF, callD, dOpS, gInO, RE.bl, gBinO, dUnO, dConF, dCvF, pIsiO, dSupM, dCallI, gOp, dNewT, dNewK, dGetD, dSetD, setD, diKs, pListO, pLenO, imX, isDic, dArr, arr, freeSl, wipeE, restE, lcGo, forGo, pEq, pNe, pEqB, D.scal, L2.scal, e1, f1])]
    rw [seq_nx (e1 := [.im (.scr is), .im (bD ns), .im (.lst G1), .im (.lst G2), .im (.lst O1), .no, .no, .no, .no, .no, .no]) (by simp [dSeq, dAsg, dAsgG, dDrop, dRet, dIfS, dFor, dBreak, dCont, dNever, dNext, dC, dVar, dOp, dUn, dNil, dCons, dCB, dFrz, dTup, dLst, dNone, dSome, dSl, dTest, dtAnd, dtOr, dtNot, dAndV, dOrV, dNotV, dIf, dChain, dLc, dMut, dMutR, dFz, fzAll, fzE, dSetI, dAug, dM1, dCall, diSeq, diR1, diR2, diEnum, noStr, ofX, enumD, dgName, dgNil, dgCons, dgTup, RE.bind, RE.stm, RS.seq, rd, rds, opt, optS, optE, OD.toD, frz, frzs, setSl, X.slot, setI, slotOf, passX, passXs, slots, temps, wb, wr, hideE, unhide, unhid, RS.map, fnM, finR, backP, retX, Sl.par, pAdd, pSub, pMul, pDiv, pMod, pPow, pNeg, pCmp, pIx, pSl, pRev, pLen, pInt, pTuple, pList, pIsi, pAll, pAny, pSum, pMax, pMin, pAugAdd, mApp, mExt, mIns, mPopAt, mPop, OD.isL, OD.isD, isS, D.isNon, pIsN, pNotN, D.tyN, lcEnd, ixN, dMakeF, makeD, dMakeStar, makeStarD, starA, imsX, dMake0, dFldF, rcvA, recvX, dSetF, putFD, pRevL, dMakeF0, RE.calm, List.lookup, dMethF, callD, dOpS, gInO, RE.bl, gBinO, dUnO, dConF, dCvF, pIsiO, dSupM, dCallI, gOp, dNewT, dNewK, dGetD, dSetD, setD, diKs, pListO, pLenO, imX, isDic, dArr, arr, freeSl, wipeE, restE, lcGo, forGo, pEq, pNe, pEqB, D.scal, L2.scal, g2])]
    rw [seq_nx (e1 := [.im (.scr is), .im (bD ns), .im (.lst G1), .im (.lst G2), .im (.lst O1), .im (.lst O2), .no, .no, .no, .no, .no]) (by simp [dSeq, dAsg, dAsgG, dDrop, dRet, dIfS, dFor, dBreak, dCont, dNever, dNext, dC, dVar, dOp, dUn, dNil, dCons, dCB, dFrz, dTup, dLst, dNone, dSome, dSl, dTest, dtAnd, dtOr, dtNot, dAndV, dOrV, dNotV, dIf, dChain, dLc, dMut, dMutR, dFz, fzAll, fzE, dSetI, dAug, dM1, dCall, diSeq, diR1, diR2, diEnum, noStr, ofX, enumD, dgName, dgNil, dgCons, dgTup, RE.bind, RE.stm, RS.seq, rd, rds, opt, optS, optE, OD.toD, frz, frzs, setSl, X.slot, setI, slotOf, passX, passXs, slots, temps, wb, wr, hideE, unhide, unhid, RS.map, fnM, finR, backP, retX, Sl.par, pAdd, pSub, pMul, pDiv, pMod, pPow, pNeg, pCmp, pIx, pSl, pRev, pLen, pInt, pTuple, pList, pIsi, pAll, pAny, pSum, pMax, pMin, pAugAdd, mApp, mExt, mIns, mPopAt, mPop, OD.isL, OD.isD, isS, D.isNon, pIsN, pNotN, D.tyN, lcEnd, ixN, dMakeF, makeD, dMakeStar, makeStarD, starA, imsX, dMake0, dFldF, rcvA, recvX, dSetF, putFD, pRevL, dMakeF0, RE.calm, List.lookup, dMethF, callD, dOpS, gInO, RE.bl, gBinO, dUnO, dConF, dCvF, pIsiO, dSupM, dCallI, gOp, dNewT, dNewK, dGetD, dSetD, setD, diKs, pListO, pLenO, imX, isDic, dArr, arr, freeSl, wipeE, restE, lcGo, forGo, pEq, pNe, pEqB, D.scal, L2.scal, h2])]
    rw [seq_nx (e1 := [.im (.scr is), .im (bD ns), .im (.lst G1), .im (.lst G2), .im (.lst O1), .im (.lst O2), .ow false (.lst G1), .no, .no, .no, .no]) (by simp [dSeq, dAsg, dAsgG, dDrop, dRet, dIfS, dFor, dBreak, dCont, dNever, dNext, dC, dVar, dOp, dUn, dNil, dCons, dCB, dFrz, dTup, dLst, dNone, dSome, dSl, dTest, dtAnd, dtOr, dtNot, dAndV, dOrV, dNotV, dIf, dChain, dLc, dMut, dMutR, dFz, fzAll, fzE, dSetI, dAug, dM1, dCall, diSeq, diR1, diR2, diEnum, noStr, ofX, enumD, dgName, dgNil, dgCons, dgTup, RE.bind, RE.stm, RS.seq, rd, rds, opt, optS, optE, OD.toD, frz, frzs, setSl, X.slot, setI, slotOf, passX, passXs, slots, temps, wb, wr, hideE, unhide, unhid, RS.map, fnM, finR, backP, retX, Sl.par, pAdd, pSub, pMul, pDiv, pMod, pPow, pNeg, pCmp, pIx, pSl, pRev, pLen, pInt, pTuple, pList, pIsi, pAll, pAny, pSum, pMax, pMin, pAugAdd, mApp, mExt, mIns, mPopAt, mPop, OD.isL, OD.isD, isS, D.isNon, pIsN, pNotN, D.tyN, lcEnd, ixN, dMakeF, makeD, dMakeStar, makeStarD, starA, imsX, dMake0, dFldF, rcvA, recvX, dSetF, putFD, pRevL, dMakeF0, RE.calm, List.lookup, dMethF, callD, dOpS, gInO, RE.bl, gBinO, dUnO, dConF, dCvF, pIsiO, dSupM, dCallI, gOp, dNewT, dNewK, dGetD, dSetD, setD, diKs, pListO, pLenO, imX, isDic, dArr, arr, freeSl, wipeE, restE, lcGo, forGo, pEq, pNe, pEqB, D.scal, L2.scal])]
    rw [seq_nx (e1 := [.im (.scr is), .im (bD ns), .im (.lst G1), .im (.lst G2), .im (.lst O1), .im (.lst O2), .ow false (.lst G1), .im W1, .no, .no, .no]) (by generalize d_Roll___init__ = x1 at *; simp [dSeq, dAsg, dAsgG, dDrop, dRet, dIfS, dFor, dBreak, dCont, dNever, dNext, dC, dVar, dOp, dUn, dNil, dCons, dCB, dFrz, dTup, dLst, dNone, dSome, dSl, dTest, dtAnd, dtOr, dtNot, dAndV, dOrV, dNotV, dIf, dChain, dLc, dMut, dMutR, dFz, fzAll, fzE, dSetI, dAug, dM1, dCall, diSeq, diR1, diR2, diEnum, noStr, ofX, enumD, dgName, dgNil, dgCons, dgTup, RE.bind, RE.stm, RS.seq, rd, rds, opt, optS, optE, frz, frzs, setSl, X.slot, setI, slotOf, passX, passXs, slots, temps, wb, wr, hideE, unhide, unhid, RS.map, fnM, finR, backP, retX, Sl.par, pAdd, pSub, pMul, pDiv, pMod, pPow, pNeg, pCmp, pIx, pSl, pRev, pLen, pInt, pTuple, pList, pIsi, pAll, pAny, pSum, pMax, pMin, pAugAdd, mApp, mExt, mIns, mPopAt, mPop, OD.isL, OD.isD, isS, D.isNon, pIsN, pNotN, D.tyN, lcEnd, ixN, dMakeF, makeD, dMakeStar, makeStarD, starA, imsX, dMake0, dFldF, rcvA, recvX, dSetF, putFD, pRevL, dMakeF0, RE.calm, List.lookup, dMethF, callD, dOpS, gInO, RE.bl, gBinO, dUnO, dConF, dCvF, pIsiO, dSupM, dCallI, gOp, dNewT, dNewK, dGetD, dSetD, setD, diKs, pListO, pLenO, imX, isDic, dArr, arr, freeSl, wipeE, restE, lcGo, forGo, pEq, pNe, pEqB, D.scal, L2.scal, i1, t1])]
    rw [seq_nx (e1 := [.im (.scr is), .im (bD ns), .im (.lst G1), .im (.lst G2), .im (.lst O1), .im (.lst O2), .ow false (.lst G1), .im W1, .im W2, .no, .no]) (by generalize d_Roll___init__ = x1 at *; simp [dSeq, dAsg, dAsgG, dDrop, dRet, dIfS, dFor, dBreak, dCont, dNever, dNext, dC, dVar, dOp, dUn, dNil, dCons, dCB, dFrz, dTup, dLst, dNone, dSome, dSl, dTest, dtAnd, dtOr, dtNot, dAndV, dOrV, dNotV, dIf, dChain, dLc, dMut, dMutR, dFz, fzAll, fzE, dSetI, dAug, dM1, dCall, diSeq, diR1, diR2, diEnum, noStr, ofX, enumD, dgName, dgNil, dgCons, dgTup, RE.bind, RE.stm, RS.seq, rd, rds, opt, optS, optE, frz, frzs, setSl, X.slot, setI, slotOf, passX, passXs, slots, temps, wb, wr, hideE, unhide, unhid, RS.map, fnM, finR, backP, retX, Sl.par, pAdd, pSub, pMul, pDiv, pMod, pPow, pNeg, pCmp, pIx, pSl, pRev, pLen, pInt, pTuple, pList, pIsi, pAll, pAny, pSum, pMax, pMin, pAugAdd, mApp, mExt, mIns, mPopAt, mPop, OD.isL, OD.isD, isS, D.isNon, pIsN, pNotN, D.tyN, lcEnd, ixN, dMakeF, makeD, dMakeStar, makeStarD, starA, imsX, dMake0, dFldF, rcvA, recvX, dSetF, putFD, pRevL, dMakeF0, RE.calm, List.lookup, dMethF, callD, dOpS, gInO, RE.bl, gBinO, dUnO, dConF, dCvF, pIsiO, dSupM, dCallI, gOp, dNewT, dNewK, dGetD, dSetD, setD, diKs, pListO, pLenO, imX, isDic, dArr, arr, freeSl, wipeE, restE, lcGo, forGo, pEq, pNe, pEqB, D.scal, L2.scal, i2, t2])]
    generalize d_Roll___init__ = x1 at *
    generalize d__law_same 5 = x2 at *
    generalize d__law_yields = x3 at *
    rw [seq_same (by simp [dSeq, dAsg, dAsgG, dDrop, dRet, dIfS, dFor, dBreak, dCont, dNever, dNext, dC, dVar, dOp, dUn, dNil, dCons, dCB, dFrz, dTup, dLst, dNone, dSome, dSl, dTest, dtAnd, dtOr, dtNot, dAndV, dOrV, dNotV, dIf, dChain, dLc, dMut, dMutR, dFz, fzAll, fzE, dSetI, dAug, dM1, dCall, diSeq, diR1, diR2, diEnum, noStr, ofX, enumD, dgName, dgNil, dgCons, dgTup, RE.bind, RE.stm, RS.seq, rd, rds, opt, optS, optE, frz, frzs, setSl, X.slot, setI, slotOf, passX, passXs, slots, temps, wb, wr, hideE, unhide, unhid, RS.map, fnM, finR, backP, retX, Sl.par, pAdd, pSub, pMul, pDiv, pMod, pPow, pNeg, pCmp, pIx, pSl, pRev, pLen, pInt, pTuple, pList, pIsi, pAll, pAny, pSum, pMax, pMin, pAugAdd, mApp, mExt, mIns, mPopAt, mPop, OD.isL, OD.isD, isS, D.isNon, pIsN, pNotN, D.tyN, lcEnd, ixN, dMakeF, makeD, dMakeStar, makeStarD, starA, imsX, dMake0, dFldF, rcvA, recvX, dSetF, putFD, pRevL, dMakeF0, RE.calm, List.lookup, dMethF, callD, dOpS, gInO, RE.bl, gBinO, dUnO, dConF, dCvF, pIsiO, dSupM, dCallI, gOp, dNewT, dNewK, dGetD, dSetD, setD, diKs, pListO, pLenO, imX, isDic, dArr, arr, freeSl, wipeE, restE, lcGo, forGo, pEq, pNe, pEqB, D.scal, L2.scal, f0, z1, i3, t3, y3', toD_lst])]
    rw [seq_same (by simp [dSeq, dAsg, dAsgG, dDrop, dRet, dIfS, dFor, dBreak, dCont, dNever, dNext, dC, dVar, dOp, dUn, dNil, dCons, dCB, dFrz, dTup, dLst, dNone, dSome, dSl, dTest, dtAnd, dtOr, dtNot, dAndV, dOrV, dNotV, dIf, dChain, dLc, dMut, dMutR, dFz, fzAll, fzE, dSetI, dAug, dM1, dCall, diSeq, diR1, diR2, diEnum, noStr, ofX, enumD, dgName, dgNil, dgCons, dgTup, RE.bind, RE.stm, RS.seq, rd, rds, opt, optS, optE, OD.toD, frz, frzs, setSl, X.slot, setI, slotOf, passX, passXs, slots, temps, wb, wr, hideE, unhide, unhid, RS.map, fnM, finR, backP, retX, Sl.par, pAdd, pSub, pMul, pDiv, pMod, pPow, pNeg, pCmp, pIx, pSl, pRev, pLen, pInt, pTuple, pList, pIsi, pAll, pAny, pSum, pMax, pMin, pAugAdd, mApp, mExt, mIns, mPopAt, mPop, OD.isL, OD.isD, isS, D.isNon, pIsN, pNotN, D.tyN, lcEnd, ixN, dMakeF, makeD, dMakeStar, makeStarD, starA, imsX, dMake0, dFldF, rcvA, recvX, dSetF, putFD, pRevL, dMakeF0, RE.calm, List.lookup, dMethF, callD, dOpS, gInO, RE.bl, gBinO, dUnO, dConF, dCvF, pIsiO, dSupM, dCallI, gOp, dNewT, dNewK, dGetD, dSetD, setD, diKs, pListO, pLenO, imX, isDic, dArr, arr, freeSl, wipeE, restE, lcGo, forGo, pEq, pNe, pEqB, D.scal, L2.scal, y1, y2])]
    rw [seq_same (by simp [dSeq, dAsg, dAsgG, dDrop, dRet, dIfS, dFor, dBreak, dCont, dNever, dNext, dC, dVar, dOp, dUn, dNil, dCons, dCB, dFrz, dTup, dLst, dNone, dSome, dSl, dTest, dtAnd, dtOr, dtNot, dAndV, dOrV, dNotV, dIf, dChain, dLc, dMut, dMutR, dFz, fzAll, fzE, dSetI, dAug, dM1, dCall, diSeq, diR1, diR2, diEnum, noStr, ofX, enumD, dgName, dgNil, dgCons, dgTup, RE.bind, RE.stm, RS.seq, rd, rds, opt, optS, optE, frz, frzs, setSl, X.slot, setI, slotOf, passX, passXs, slots, temps, wb, wr, hideE, unhide, unhid, RS.map, fnM, finR, backP, retX, Sl.par, pAdd, pSub, pMul, pDiv, pMod, pPow, pNeg, pCmp, pIx, pSl, pRev, pLen, pInt, pTuple, pList, pIsi, pAll, pAny, pSum, pMax, pMin, pAugAdd, mApp, mExt, mIns, mPopAt, mPop, OD.isL, OD.isD, isS, D.isNon, pIsN, pNotN, D.tyN, lcEnd, ixN, dMakeF, makeD, dMakeStar, makeStarD, starA, imsX, dMake0, dFldF, rcvA, recvX, dSetF, putFD, pRevL, dMakeF0, RE.calm, List.lookup, dMethF, callD, dOpS, gInO, RE.bl, gBinO, dUnO, dConF, dCvF, pIsiO, dSupM, dCallI, gOp, dNewT, dNewK, dGetD, dSetD, setD, diKs, pListO, pLenO, imX, isDic, dArr, arr, freeSl, wipeE, restE, lcGo, forGo, pEq, pNe, pEqB, D.scal, L2.scal, i4, t1, y1, toD_lst])]
    rw [seq_same (by simp [dSeq, dAsg, dAsgG, dDrop, dRet, dIfS, dFor, dBreak, dCont, dNever, dNext, dC, dVar, dOp, dUn, dNil, dCons, dCB, dFrz, dTup, dLst, dNone, dSome, dSl, dTest, dtAnd, dtOr, dtNot, dAndV, dOrV, dNotV, dIf, dChain, dLc, dMut, dMutR, dFz, fzAll, fzE, dSetI, dAug, dM1, dCall, diSeq, diR1, diR2, diEnum, noStr, ofX, enumD, dgName, dgNil, dgCons, dgTup, RE.bind, RE.stm, RS.seq, rd, rds, opt, optS, optE, frz, frzs, setSl, X.slot, setI, slotOf, passX, passXs, slots, temps, wb, wr, hideE, unhide, unhid, RS.map, fnM, finR, backP, retX, Sl.par, pAdd, pSub, pMul, pDiv, pMod, pPow, pNeg, pCmp, pIx, pSl, pRev, pLen, pInt, pTuple, pList, pIsi, pAll, pAny, pSum, pMax, pMin, pAugAdd, mApp, mExt, mIns, mPopAt, mPop, OD.isL, OD.isD, isS, D.isNon, pIsN, pNotN, D.tyN, lcEnd, ixN, dMakeF, makeD, dMakeStar, makeStarD, starA, imsX, dMake0, dFldF, rcvA, recvX, dSetF, putFD, pRevL, dMakeF0, RE.calm, List.lookup, dMethF, callD, dOpS, gInO, RE.bl, gBinO, dUnO, dConF, dCvF, pIsiO, dSupM, dCallI, gOp, dNewT, dNewK, dGetD, dSetD, setD, diKs, pListO, pLenO, imX, isDic, dArr, arr, freeSl, wipeE, restE, forGo, pEq, pNe, pEqB, D.scal, L2.scal, fdb, i5, t5, y5, comp, toD_lst])]
    rw [seq_nx (e1 := [.im (.scr is), .im (bD ns), .im (.lst G1), .im (.lst G2), .im (.lst O1), .im (.lst O2), .ow false (.lst (G1 ++ [.tup [bD ns, .int 5]])), .im W1, .im W2, .no, .no]) (by simp [dSeq, dAsg, dAsgG, dDrop, dRet, dIfS, dFor, dBreak, dCont, dNever, dNext, dC, dVar, dOp, dUn, dNil, dCons, dCB, dFrz, dTup, dLst, dNone, dSome, dSl, dTest, dtAnd, dtOr, dtNot, dAndV, dOrV, dNotV, dIf, dChain, dLc, dMut, dMutR, dFz, fzAll, fzE, dSetI, dAug, dM1, dCall, diSeq, diR1, diR2, diEnum, noStr, ofX, enumD, dgName, dgNil, dgCons, dgTup, RE.bind, RE.stm, RS.seq, rd, rds, opt, optS, optE, OD.toD, frz, frzs, setSl, X.slot, setI, slotOf, passX, passXs, slots, temps, wb, wr, hideE, unhide, unhid, RS.map, fnM, finR, backP, retX, Sl.par, pAdd, pSub, pMul, pDiv, pMod, pPow, pNeg, pCmp, pIx, pSl, pRev, pLen, pInt, pTuple, pList, pIsi, pAll, pAny, pSum, pMax, pMin, pAugAdd, mApp, mExt, mIns, mPopAt, mPop, OD.isL, OD.isD, isS, D.isNon, pIsN, pNotN, D.tyN, lcEnd, ixN, dMakeF, makeD, dMakeStar, makeStarD, starA, imsX, dMake0, dFldF, rcvA, recvX, dSetF, putFD, pRevL, dMakeF0, RE.calm, List.lookup, dMethF, callD, dOpS, gInO, RE.bl, gBinO, dUnO, dConF, dCvF, pIsiO, dSupM, dCallI, gOp, dNewT, dNewK, dGetD, dSetD, setD, diKs, pListO, pLenO, imX, isDic, dArr, arr, freeSl, wipeE, restE, lcGo, forGo, pEq, pNe, pEqB, D.scal, L2.scal, f2, f5])]
    have hset : setI [.tup [.tup [], .int 7], .int 0] (false, .lst (G1 ++ [D.tup [bD ns, .int 5]])) = some (.lst ((G1 ++ [D.tup [bD ns, .int 5]]).set 0 (.tup [.tup [], .int 7]))) := by
      have h1 : 0 < (G1 ++ [D.tup [bD ns, .int 5]]).length := by simp
      generalize G1 ++ [D.tup [bD ns, .int 5]] = GG at *
      have : ixN GG.length 0 = some 0 := by
        rw [ixN, if_pos (by omega), if_pos (by omega)]
        rfl
      simp [setI, this]
    rw [seq_nx (e1 := [.im (.scr is), .im (bD ns), .im (.lst G1), .im (.lst G2), .im (.lst O1), .im (.lst O2), .ow false (.lst ((G1 ++ [D.tup [bD ns, .int 5]]).set 0 (.tup [.tup [], .int 7]))), .im W1, .im W2, .no, .no]) (by simp [dSeq, dAsg, dAsgG, dDrop, dRet, dIfS, dFor, dBreak, dCont, dNever, dNext, dC, dVar, dOp, dUn, dNil, dCons, dCB, dFrz, dTup, dLst, dNone, dSome, dSl, dTest, dtAnd, dtOr, dtNot, dAndV, dOrV, dNotV, dIf, dChain, dLc, dMut, dMutR, dFz, fzAll, fzE, dSetI, dAug, dM1, dCall, diSeq, diR1, diR2, diEnum, noStr, ofX, enumD, dgName, dgNil, dgCons, dgTup, RE.bind, RE.stm, RS.seq, rd, rds, opt, optS, optE, OD.toD, frz, frzs, setSl, X.slot, slotOf, passX, passXs, slots, temps, wb, wr, hideE, unhide, unhid, RS.map, fnM, finR, backP, retX, Sl.par, pAdd, pSub, pMul, pDiv, pMod, pPow, pNeg, pCmp, pIx, pSl, pRev, pLen, pInt, pTuple, pList, pIsi, pAll, pAny, pSum, pMax, pMin, pAugAdd, mApp, mExt, mIns, mPopAt, mPop, OD.isL, OD.isD, isS, D.isNon, pIsN, pNotN, D.tyN, lcEnd, ixN, dMakeF, makeD, dMakeStar, makeStarD, starA, imsX, dMake0, dFldF, rcvA, recvX, dSetF, putFD, pRevL, dMakeF0, RE.calm, List.lookup, dMethF, callD, dOpS, gInO, RE.bl, gBinO, dUnO, dConF, dCvF, pIsiO, dSupM, dCallI, gOp, dNewT, dNewK, dGetD, dSetD, setD, diKs, pListO, pLenO, imX, isDic, dArr, arr, freeSl, wipeE, restE, lcGo, forGo, pEq, pNe, pEqB, D.scal, L2.scal, f0, f2, hset])]
    exact ⟨_, by simp [dSeq, dAsg, dAsgG, dDrop, dRet, dIfS, dFor, dBreak, dCont, dNever, dNext, dC, dVar, dOp, dUn, dNil, dCons, dCB, dFrz, dTup, dLst, dNone, dSome, dSl, dTest, dtAnd, dtOr, dtNot, dAndV, dOrV, dNotV, dIf, dChain, dLc, dMut, dMutR, dFz, fzAll, fzE, dSetI, dAug, dM1, dCall, diSeq, diR1, diR2, diEnum, noStr, ofX, enumD, dgName, dgNil, dgCons, dgTup, RE.bind, RE.stm, RS.seq, rd, rds, opt, optS, optE, OD.toD, frz, frzs, setSl, X.slot, setI, slotOf, passX, passXs, slots, temps, wb, wr, hideE, unhide, unhid, RS.map, fnM, finR, backP, retX, Sl.par, pAdd, pSub, pMul, pDiv, pMod, pPow, pNeg, pCmp, pIx, pSl, pRev, pLen, pInt, pTuple, pList, pIsi, pAll, pAny, pSum, pMax, pMin, pAugAdd, mApp, mExt, mIns, mPopAt, mPop, OD.isL, OD.isD, isS, D.isNon, pIsN, pNotN, D.tyN, lcEnd, ixN, dMakeF, makeD, dMakeStar, makeStarD, starA, imsX, dMake0, dFldF, rcvA, recvX, dSetF, putFD, pRevL, dMakeF0, RE.calm, List.lookup, dMethF, callD, dOpS, gInO, RE.bl, gBinO, dUnO, dConF, dCvF, pIsiO, dSupM, dCallI, gOp, dNewT, dNewK, dGetD, dSetD, setD, diKs, pListO, pLenO, imX, isDic, dArr, arr, freeSl, wipeE, restE, lcGo, forGo, pEq, pNe, pEqB, D.scal, L2.scal, y1, y2]; exact rfl⟩
  obtain ⟨e, he⟩ := key
  exact ⟨_, fn_rt (by simp [Sl.par]) he⟩
end Wk

namespace Wk
open PySem PySem.Spec PyProof.Rows L2 Dn
def dd__law_mix : He.DefD := ⟨("_law_mix", none), "_law_mix", "_law_mix", defArgs s__law_mix, defBody s__law_mix, defScope s__law_mix, [], []⟩
def dd__law_draw : He.DefD := ⟨("_law_draw", none), "_law_draw", "_law_draw", defArgs s__law_draw, defBody s__law_draw, defScope s__law_draw, [], []⟩
def dd__law_word : He.DefD := ⟨("_law_word", none), "_law_word", "_law_word", defArgs s__law_word, defBody s__law_word, defScope s__law_word, [], []⟩
def dd__law_names : He.DefD := ⟨("_law_names", none), "_law_names", "_law_names", defArgs s__law_names, defBody s__law_names, defScope s__law_names, [], []⟩
def dd__law_cell : He.DefD := ⟨("_law_cell", none), "_law_cell", "_law_cell", defArgs s__law_cell, defBody s__law_cell, defScope s__law_cell, [], []⟩
def dd__law_pool : He.DefD := ⟨("_law_pool", none), "_law_pool", "_law_pool", defArgs s__law_pool, defBody s__law_pool, defScope s__law_pool, [], []⟩
def dd__law_choice : He.DefD := ⟨("_law_choice", none), "_law_choice", "_law_choice", defArgs s__law_choice, defBody s__law_choice, defScope s__law_choice, [], []⟩
def dd__law_ballot : He.DefD := ⟨("_law_ballot", none), "_law_ballot", "_law_ballot", defArgs s__law_ballot, defBody s__law_ballot, defScope s__law_ballot, [], []⟩
def dd__law_times : He.DefD := ⟨("_law_times", none), "_law_times", "_law_times", defArgs s__law_times, defBody s__law_times, defScope s__law_times, [], []⟩
def dd__law_many_rows : He.DefD := ⟨("_law_many_rows", none), "_law_many_rows", "_law_many_rows", defArgs s__law_many_rows, defBody s__law_many_rows, defScope s__law_many_rows, [], []⟩
def dd__law_sum_of : He.DefD := ⟨("_law_sum_of", none), "_law_sum_of", "_law_sum_of", defArgs s__law_sum_of, defBody s__law_sum_of, defScope s__law_sum_of, [], []⟩
def dd__law_ahead : He.DefD := ⟨("_law_ahead", none), "_law_ahead", "_law_ahead", defArgs s__law_ahead, defBody s__law_ahead, defScope s__law_ahead, [], []⟩
def dd__law_ordered : He.DefD := ⟨("_law_ordered", none), "_law_ordered", "_law_ordered", defArgs s__law_ordered, defBody s__law_ordered, defScope s__law_ordered, [], []⟩
def dd_is_name : He.DefD := ⟨("is_name", none), "is_name", "is_name", defArgs s_is_name, defBody s_is_name, defScope s_is_name, [], []⟩
def dd_checked_names : He.DefD := ⟨("checked_names", none), "checked_names", "checked_names", defArgs s_checked_names, defBody s_checked_names, defScope s_checked_names, [], []⟩
def dd_checked_ballot : He.DefD := ⟨("checked_ballot", none), "checked_ballot", "checked_ballot", defArgs s_checked_ballot, defBody s_checked_ballot, defScope s_checked_ballot, [], []⟩
def dd_sorted_rows : He.DefD := ⟨("sorted_rows", none), "sorted_rows", "sorted_rows", defArgs s_sorted_rows, defBody s_sorted_rows, defScope s_sorted_rows, [], []⟩
def dd__law_same : He.DefD := ⟨("_law_same", none), "_law_same", "_law_same", defArgs s__law_same, defBody s__law_same, defScope s__law_same, [], []⟩
def dd__law_yields : He.DefD := ⟨("_law_yields", none), "_law_yields", "_law_yields", defArgs s__law_yields, defBody s__law_yields, defScope s__law_yields, [], []⟩
def dd_law : He.DefD := ⟨("law", none), "law", "law", defArgs s_law, defBody s_law, defScope s_law, [], []⟩
def dd_Roll___init__ : He.DefD := ⟨("Roll", some "__init__"), "__init__", "Roll.__init__", defArgs s_Roll___init__, defBody s_Roll___init__, defScope s_Roll___init__, [(.adr (He.dflAt ("Roll", some "__init__") 0))], [("largest", (.int 1000000000000))]⟩
def dd_Roll___iter__ : He.DefD := ⟨("Roll", some "__iter__"), "__iter__", "Roll.__iter__", defArgs s_Roll___iter__, defBody s_Roll___iter__, defScope s_Roll___iter__, [], []⟩
def dd_Roll___len__ : He.DefD := ⟨("Roll", some "__len__"), "__len__", "Roll.__len__", defArgs s_Roll___len__, defBody s_Roll___len__, defScope s_Roll___len__, [], []⟩
def fnL : List He.DefD := [dd__law_mix, dd__law_draw, dd__law_word, dd__law_names, dd__law_cell, dd__law_pool, dd__law_choice, dd__law_ballot, dd__law_times, dd__law_many_rows, dd__law_sum_of, dd__law_ahead, dd__law_ordered, dd_is_name, dd_checked_names, dd_checked_ballot, dd_sorted_rows, dd__law_same, dd__law_yields, dd_law, dd_Roll___init__, dd_Roll___iter__, dd_Roll___len__]
def faL : List He.Fa := [.glo "_law_mix", .glo "_law_draw", .glo "_law_word", .glo "_law_names", .glo "_law_cell", .glo "_law_pool", .glo "_law_choice", .glo "_law_ballot", .glo "_law_times", .glo "_law_many_rows", .glo "_law_sum_of", .glo "_law_ahead", .glo "_law_ordered", .glo "is_name", .glo "checked_names", .glo "checked_ballot", .glo "sorted_rows", .glo "_law_same", .glo "_law_yields", .glo "law", .free "all", .free "bool", .free "enumerate", .free "int", .free "isinstance", .free "iter", .free "len", .free "list", .free "min", .free "range", .free "sorted", .free "str", .free "sum", .free "tuple", .str "LETTERS" "abcdefghijklmnopqrstuvwxyz", .int "LONGEST_NAME" 12, .int "MOST_NAMES" 5, .glo "Roll", .free "super"]
abbrev RR : PySem.W.OpenRow := PySem.W.OpenLaw.row PySem.Challenge.rw_ballotturns_k06_roll_rows
abbrev rcL : List Str := []
def fx0 : List Fx := (exT.map fun p => Fx.exm p.1.1 p.1.2 p.2)
def fx1 : List Fx := (kiT.map fun p => Fx.kit p.1.1 p.1.2 p.2)
def fx2 : List Fx := (ktT.map fun p => Fx.kitT p.1.1 p.1.2 p.2)
def fx3 : List Fx := rcL.map Fx.exc
def fx4 : List Fx := oexL.map Fx.oex
def fx5 : List Fx := oexL.map Fx.ini
def fx6 : List Fx := []
def fb_dv_Roll___init___rows : Fg → Bool := (fun K => tupB K (He.dflAt ("Roll", some "__init__") 0 K) [])
def fb_mk_Roll : Fg → Bool := (fun K => (He.Fa.mkr "Roll").ok K)
def fb_fd_names : Fg → Bool := (fun K => fldB K "names" fl_names)
def fb_fd__rows : Fg → Bool := (fun K => fldB K "_rows" fl__rows)
def fb_cl_Roll : Fg → Bool := (fun K => clsB K "Roll")
def fb_fi_Roll_iter : Fg → Bool := (fun K => fndB K (.ref (He.ga K "Roll")) "__iter__" (some (.ref (He.ma K (He.ga K "Roll") "__iter__"))))
def fb_ff_Roll_iter : Fg → Bool := (fun K => PySem.W.isFn K (.ref (He.ma K (He.ga K "Roll") "__iter__")))
def fb_fi_Roll_len : Fg → Bool := (fun K => fndB K (.ref (He.ga K "Roll")) "__len__" (some (.ref (He.ma K (He.ga K "Roll") "__len__"))))
def fb_ff_Roll_len : Fg → Bool := (fun K => PySem.W.isFn K (.ref (He.ma K (He.ga K "Roll") "__len__")))
def fb_ois : Fg → Bool := (fun K => kisB K oiT oiU)
def fxN : List Fx := [.any fb_dv_Roll___init___rows, .any fb_mk_Roll, .any fb_fd_names, .any fb_fd__rows, .any fb_cl_Roll, .any fb_fi_Roll_iter, .any fb_ff_Roll_iter, .any fb_fi_Roll_len, .any fb_ff_Roll_len, .any fb_ois]
def fxL : List Fx := fxN ++ (fx0 ++ (fx1 ++ (fx2 ++ (fx3 ++ (fx4 ++ (fx5 ++ fx6))))))
def fsL : List FnS := []
abbrev hk : PySem.W.Hook := hookX 5 mfP faL fnL fxL fsL
def ob (s : PySem.W.SharedT) : AlX := obsXG 5 mfP faL fnL fxL fsL (HandSHeadRun.getT s)
theorem ob_eq (s : PySem.W.SharedT) : ob s = hk.obs s.abs := obsXG_eq (HandSHeadRun.getT_eq s)
def looseL : List Str := (["_wall", "TurnError", "BadName", "SameName", "UnknownName", "TwiceRanked", "BadNumber", "OtherNames", "Missing", "BadLine", "is_name", "checked_names", "checked_ballot", "is_number", "is_ballot_text", "ballot_of", "ballot_text", "read_line", "read_rows", "write_rows", "sorted_rows", "Roll", "_law_cell", "_law_mix", "_law_pool", "_law_draw", "_law_word", "_law_names", "_law_choice", "_law_ballot"] : List Str) ++ (["_law_times", "_law_same", "_law_ahead", "_law_sum_of", "_law_ordered", "_law_many_rows", "_law_yields", "LETTERS", "LONGEST_NAME", "MOST_NAMES", "LARGEST_COUNT", "DIGITS", "MOST_DIGITS"] : List Str)
theorem run (w : World) : HandSHeadRun.RunEq RR (PySem.W.view RR.prog [48]) hk ob 6400 looseL w := by
  intro os
  kernel_rfl
theorem kiS : ∀ p ∈ kiT, p.1.1 ∈ rcL := by decide
theorem ktS : ∀ p ∈ ktT, p.1.1 ∈ rcL := by decide
theorem facts {K : Fg} [WD K] {w : World} {h : Heap} {mg : Str → Option Value} (X : K.In h) (G : h.Ns mainGlobals mg) (x : SaysX mfP faL fnL fxL fsL K) (hw : WD.P K = PySem.Challenge.pw_ballotturns_k06_roll_rows ∧ WD.w K = w) : TX PySem.Challenge.pw_ballotturns_k06_roll_rows w K mg :=
  have c := x.dd
  ⟨hw,
  c.def_ 0 (d := dd__law_mix) rfl,
  He.glo_ok X G (c.fact 0 (f := .glo "_law_mix") rfl),
  c.def_ 1 (d := dd__law_draw) rfl,
  He.glo_ok X G (c.fact 1 (f := .glo "_law_draw") rfl),
  c.def_ 2 (d := dd__law_word) rfl,
  He.glo_ok X G (c.fact 2 (f := .glo "_law_word") rfl),
  c.def_ 3 (d := dd__law_names) rfl,
  He.glo_ok X G (c.fact 3 (f := .glo "_law_names") rfl),
  c.def_ 4 (d := dd__law_cell) rfl,
  He.glo_ok X G (c.fact 4 (f := .glo "_law_cell") rfl),
  c.def_ 5 (d := dd__law_pool) rfl,
  He.glo_ok X G (c.fact 5 (f := .glo "_law_pool") rfl),
  c.def_ 6 (d := dd__law_choice) rfl,
  He.glo_ok X G (c.fact 6 (f := .glo "_law_choice") rfl),
  c.def_ 7 (d := dd__law_ballot) rfl,
  He.glo_ok X G (c.fact 7 (f := .glo "_law_ballot") rfl),
  c.def_ 8 (d := dd__law_times) rfl,
  He.glo_ok X G (c.fact 8 (f := .glo "_law_times") rfl),
  c.def_ 9 (d := dd__law_many_rows) rfl,
  He.glo_ok X G (c.fact 9 (f := .glo "_law_many_rows") rfl),
  c.def_ 10 (d := dd__law_sum_of) rfl,
  He.glo_ok X G (c.fact 10 (f := .glo "_law_sum_of") rfl),
  c.def_ 11 (d := dd__law_ahead) rfl,
  He.glo_ok X G (c.fact 11 (f := .glo "_law_ahead") rfl),
  c.def_ 12 (d := dd__law_ordered) rfl,
  He.glo_ok X G (c.fact 12 (f := .glo "_law_ordered") rfl),
  c.def_ 13 (d := dd_is_name) rfl,
  He.glo_ok X G (c.fact 13 (f := .glo "is_name") rfl),
  c.def_ 14 (d := dd_checked_names) rfl,
  He.glo_ok X G (c.fact 14 (f := .glo "checked_names") rfl),
  c.def_ 15 (d := dd_checked_ballot) rfl,
  He.glo_ok X G (c.fact 15 (f := .glo "checked_ballot") rfl),
  c.def_ 16 (d := dd_sorted_rows) rfl,
  He.glo_ok X G (c.fact 16 (f := .glo "sorted_rows") rfl),
  c.def_ 17 (d := dd__law_same) rfl,
  He.glo_ok X G (c.fact 17 (f := .glo "_law_same") rfl),
  c.def_ 18 (d := dd__law_yields) rfl,
  He.glo_ok X G (c.fact 18 (f := .glo "_law_yields") rfl),
  c.def_ 19 (d := dd_law) rfl,
  He.glo_ok X G (c.fact 19 (f := .glo "law") rfl),
  c.def_ 20 (d := dd_Roll___init__) rfl,
  c.def_ 21 (d := dd_Roll___iter__) rfl,
  c.def_ 22 (d := dd_Roll___len__) rfl,
  He.free_ok X G (c.fact 20 (f := .free "all") rfl),
  He.free_ok X G (c.fact 21 (f := .free "bool") rfl),
  He.free_ok X G (c.fact 22 (f := .free "enumerate") rfl),
  He.free_ok X G (c.fact 23 (f := .free "int") rfl),
  He.free_ok X G (c.fact 24 (f := .free "isinstance") rfl),
  He.free_ok X G (c.fact 25 (f := .free "iter") rfl),
  He.free_ok X G (c.fact 26 (f := .free "len") rfl),
  He.free_ok X G (c.fact 27 (f := .free "list") rfl),
  He.free_ok X G (c.fact 28 (f := .free "min") rfl),
  He.free_ok X G (c.fact 29 (f := .free "range") rfl),
  He.free_ok X G (c.fact 30 (f := .free "sorted") rfl),
  He.free_ok X G (c.fact 31 (f := .free "str") rfl),
  He.free_ok X G (c.fact 32 (f := .free "sum") rfl),
  He.free_ok X G (c.fact 33 (f := .free "tuple") rfl),
  He.glo_ok X G (c.fact 37 (f := .glo "Roll") rfl),
  (tupB_ok (x.fact 0 (f := .any fb_dv_Roll___init___rows) rfl)),
  (He.mkr_ok (x.fact 1 (f := .any fb_mk_Roll) rfl)),
  (fldB_ok (x.fact 2 (f := .any fb_fd_names) rfl)),
  (fldB_ok (x.fact 3 (f := .any fb_fd__rows) rfl)),
  (He.cls_ok (x.fact 4 (f := .any fb_cl_Roll) rfl)),
  (fndB_ok (x.fact 5 (f := .any fb_fi_Roll_iter) rfl)),
  ((x.fact 6 (f := .any fb_ff_Roll_iter) rfl)),
  (fndB_ok (x.fact 7 (f := .any fb_fi_Roll_len) rfl)),
  ((x.fact 8 (f := .any fb_ff_Roll_len) rfl)),
  (kisB_ok (x.fact 9 (f := .any fb_ois) rfl)),
  (have ⟨t, e⟩ := He.str_ok X G (c.fact 34 (f := .str "LETTERS" "abcdefghijklmnopqrstuvwxyz") rfl); ⟨_, e, t, rfl⟩),
  (have ⟨t, e⟩ := He.int_ok X G (c.fact 35 (f := .int "LONGEST_NAME" 12) rfl); ⟨_, e, t, rfl⟩),
  (have ⟨t, e⟩ := He.int_ok X G (c.fact 36 (f := .int "MOST_NAMES" 5) rfl); ⟨_, e, t, rfl⟩),
  beq_self_eq_true _,
  by kernel_rfl,
  He.free_ok X G (c.fact 38 (f := .free "super") rfl),
  fun p hp => of_decide_eq_true (x.mem (List.mem_append_right _ (List.mem_append_left _ (List.mem_map_of_mem (f := fun p : (Str × Str) × Bool => Fx.exm p.1.1 p.1.2 p.2) hp)))),
  fun p hp => ⟨(excCB_ok (x.mem (List.mem_append_right _ (List.mem_append_right _ (List.mem_append_right _ (List.mem_append_right _ (List.mem_append_left _ (List.mem_map_of_mem (f := Fx.exc) (kiS p hp))))))))).1, of_decide_eq_true (x.mem (List.mem_append_right _ (List.mem_append_right _ (List.mem_append_left _ (List.mem_map_of_mem (f := fun p : (Str × Str) × Bool => Fx.kit p.1.1 p.1.2 p.2) hp)))))⟩,
  fun p hp => ⟨(excCB_ok (x.mem (List.mem_append_right _ (List.mem_append_right _ (List.mem_append_right _ (List.mem_append_right _ (List.mem_append_left _ (List.mem_map_of_mem (f := Fx.exc) (ktS p hp))))))))).1, of_decide_eq_true (x.mem (List.mem_append_right _ (List.mem_append_right _ (List.mem_append_right _ (List.mem_append_left _ (List.mem_map_of_mem (f := fun p : (Str × String) × Bool => Fx.kitT p.1.1 p.1.2 p.2) hp))))))⟩,
  fun p hp => oexSB_ok (x.mem (List.mem_append_right _ (List.mem_append_right _ (List.mem_append_right _ (List.mem_append_right _ (List.mem_append_right _ (List.mem_append_left _ (List.mem_map_of_mem (f := Fx.oex) hp)))))))),
  fun p hp => (fun z => ⟨of_decide_eq_true (He.ba z).1, of_decide_eq_true (He.ba z).2⟩) (x.mem (List.mem_append_right _ (List.mem_append_right _ (List.mem_append_right _ (List.mem_append_right _ (List.mem_append_right _ (List.mem_append_right _ (List.mem_append_left _ (List.mem_map_of_mem (f := Fx.ini) hp)))))))))⟩
end Wk
open PySem PySem.W PySem.Calls PyProof.Rows
theorem PySem.Challenge.cw_ballotturns_k06_roll_rows_holds : PySem.Challenge.rw_ballotturns_k06_roll_rows.Holds := by
  w_on; o_law
  refine HandSHeadRun.head_any (r := OpenLaw.row PySem.Challenge.rw_ballotturns_k06_roll_rows) (q := view (OpenLaw.row PySem.Challenge.rw_ballotturns_k06_roll_rows).prog [48]) (H := Wk.hk) (ob := Wk.ob) (M := 6400) (loose := Wk.looseL) (d := HandSHeadRun.topDef (OpenLaw.row PySem.Challenge.rw_ballotturns_k06_roll_rows).prog 48) (kwd := []) Wk.ob_eq
    (by kernel_rfl) (fun s => by kernel_rfl) Wk.run (by kernel_rfl) (by kernel_rfl) (by kernel_rfl) (by rfl) (by first | assumption | decide +kernel) (by decide +kernel) ⟨rfl, rfl, rfl, rfl, rfl, by decide +kernel⟩ ?hw ?hc
  case hw => w_witness2
  case hc =>
    refine Dn.walk_ofEB (l := PySem.Challenge.rw_ballotturns_k06_roll_rows) (n := 63) (k := 10) (x := "_law_script") (CX := L2.CX0) rfl (by decide) (by kernel_rfl) ⟨rfl, by decide, by decide⟩ ?F (fun _ _ _ _ z => z)
    intro w mg fa h Y G hmg0
    obtain ⟨K, KX, c⟩ := Y
    have hmg : mg ("law" : PySem.Str) = some (.ref fa) := by
      have e : (HandSHeadRun.topDef (OpenLaw.row PySem.Challenge.rw_ballotturns_k06_roll_rows).prog 48).name = ("law" : PySem.Str) := by kernel_rfl
      rw [← e]
      exact hmg0
    letI : Dn.WD K := ⟨(PySem.Challenge.rw_ballotturns_k06_roll_rows).prog, w⟩
    have T := Wk.facts KX G c ⟨rfl, rfl⟩
    obtain ⟨fd, F⟩ := T.F_law
    have eg := hmg.symm.trans T.g_law
    cases eg
    have b := L2.FunD.bindsA (ps := ["_law_script"]) F fun _ _ _ _ _ _ us hl => match us, hl with | [_], _ => rfl
    refine ⟨K, fd, Dn.spD K Wk.d_law, KX, fun s v => b s [v] rfl, fun H a ns hl hb _ hS => Dn.law_spD hS (Wk.plain ns hl hb).choose_spec, fun base _ _ => Wk.ok_law (P := (PySem.Challenge.rw_ballotturns_k06_roll_rows).prog) (w := w) (base := base) T F⟩
