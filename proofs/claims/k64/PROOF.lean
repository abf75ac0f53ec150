import PyProof.Rows.All
import Wide.All
import OpenK.AllK
import Wide.FinOn
import HandS.Base
import HandS.Call
import HandS.List
import HandS.Comp
import HandS.Ends
import HandS.Dict
import HandS.Iter
import HandS.Text
import HandS.Words
import HandS.Exc
import HandS.HeadHook1
import HandS.TupAny
import HandS.IsInst
import PyProof.ListStr
import PyProof.StrOps2
import PyProof.NoPylong
import PyProof.Fits
import Flt.Len
import HandS.Deep
import HandS.Defaults
import HandS.EndBits
import HandS.Head0
import HandS.Head1
import HandS.Head2
import HandS.HeadEnd
import HandS.HeadHook2
import KE.GoesMore
import KE.KRevSl
import HandS.More
import HandS.Nested
import HandS.ExcInit
import HandS.ExcField
import HandS.ExcIs
import HandS.TryMany
import HandS.Property
import KE.KExcSuper
import KE.KSuper
import HandS.WordsExc
import HandS.Small
import HandS.CallSlots
import HandS.Strs
import HandS.Star
import HandS.OwnEq
import KE.KOpsOwn
import KE.KCallOwn
import HandS.ClsMeth
import HandS.Style
import HandS.MakeKw
import HandS.MakeKwOnly
import HandS.Gcd
import KE.KMathGC
import HandS.Flow
import KE.SortData
import HandS.OwnIter
import HandS.IterVal
import PyProof.WalksMore
import PyProof.CollectWalk
import HandS.Zip
import HandS.DictComp
import HandS.FStr
import HandS.SortKw
import HandS.GenCall
import PyProof.GenComp
import HandS.GenList
import PyProof.TupleOfGen
import KE.DatumOrd
import KE.DataMinMax
import KE.KxField
import KE.KUnpackStar
import HandS.HeadHook3
import KE.KTupSum
import HandS.DictTup
import HandS.Finally
import HandS.HotCalls
import KE.KWithOwn
import KE.KUnpack
import PyProof.RulesMatchSeq
import PyProof.Rows.MatchSeqLen
import HandS.SetKeys
import HandS.NoneIn
import KE.KStateDown
import KE.IntTextLaws
import PySem.Challenge.RW_ballotturns_k64_whole_paper_texts_there
section
set_option Elab.async false
set_option linter.all false
set_option maxRecDepth 100000
set_option maxHeartbeats 4000000
namespace Dn
open PySem PySem.Spec PyProof.Rows L2
abbrev Fg:=PySem.W.Frag
inductive D where
  | non | bl (b:Bool) | int (i:Int) | str (x:Str)
  | tup (xs:List D) | lst (xs:List D) | obj (c:Str) (fs:List (Str×D))
  | scr (ns:List Int) | ty (n:String) | cls (c:Str)
  | exn (c:Str) (fs:List (Str×D)) | dk (kvs:List (Key×D)) | dt (kvs:List (List Key×D))
  | tupW (xs:List D)
def SqN (K:Fg) (H:Hp) (a:Addr) (xs:List V):Prop:=
  (∃ o:Obj,H a=some (.frz o (.tup xs))∧o.dict=none)∨∃ (o:Obj) (its:Array Value) (n:Nat),K.lookup a=some o∧o.cls=.type "tuple"∧o.dict=none∧o.data=.seq its n∧its.size≤sizeLine∧Vals xs its.toList
theorem SqN.t {K:Fg} {H:Hp} {a:Addr} {xs:List V} (h:SqN K H a xs):SqT K H a xs:=by
  rcases h with ⟨o,h,_⟩ | ⟨o,its,n,h1,h2,_,h3,h4,h5⟩
  · exact .inl (.inr ⟨o,h⟩)
  · exact .inr ⟨o,its,n,h1,h2,h3,h4,h5⟩
theorem SqN.mono {K:Fg} {H H':Hp} {a:Addr} {xs:List V} (e:Same H H') (h:SqN K H a xs):SqN K H' a xs:=by
  rcases h with ⟨o,h,z⟩ | h
  · exact .inl ⟨o,e _ _ h,z⟩
  · exact .inr h
def exw (a:Addr) (cls:Value) (d:Option Addr):HO:=.ext fun h=>∃ (oe:Obj) (vs:Array Value),h.get? a=some oe∧oe.cls=cls∧oe.dict=d∧oe.data=.fields vs
class WD (K:Fg) where
  P:Program
  w:World
abbrev kK (K:Fg) [WD K]:KeyKind (WD.P K) (WD.w K) Key:=mixKind (WD.P K) (WD.w K)
def obO (a:Addr) (o:Obj):HO:=.ext fun h=>h.get? a=some o
def DkF (K:Fg) [WD K] (a:Addr) (o:Obj) (vs:List (Key×Value)):Prop:=vs.length≤sizeLine∧(a == sysModules)=false∧o.ExactDict∧∃ es ep,o.data=.dict es ep∧PySem.KeysOf (kK K) es∧Pairs (kK K) es.toList vs∧(vs.map (·.1)).Nodup
def DtF (K:Fg) [WD K] (a:Addr) (o:Obj) (xs:List (List Key×Addr×Value)):Prop:=xs.length≤sizeLine∧(a == sysModules)=false∧o.ExactDict∧∃ es ep,o.data=.dict es ep∧es.toList=xs.map (entryOfKey (tupleKind (kK K)))∧(xs.map (·.1)).Nodup
mutual
def Rep (K:Fg) [WD K] (M:Hp):D→V→Prop
  | .non,v=>v=.non
  | .bl b,v=>v=.bl b
  | .int i,v=>v=.int i
  | .str x,v=>v=.str x
  | .tup xs,v=>∃ a vs,v=.ref a∧SqN K M a vs∧Reps K M xs vs
  | .lst xs,v=>∃ a vs,v=.ref a∧M a=some (.lst vs)∧Reps K M xs vs
  | .scr ns,v=>∃ a,v=.ref a∧SqL K M a (ns.map V.int)
  | .ty n,v=>v=.ty n
  | .cls c,v=>v=.ref (He.ga K c)
  | .obj c fs,v=>∃ a dx fvs,v=.ref a∧M a=some (.ins (He.ga K c) dx fvs)∧RepF K M fs fvs
  | .exn c fs,v=>∃ (a:Addr) (d:Option Addr),v=.ref a∧M a=some (exw a (.ref (He.ga K c)) d)∧((fs=[]∧d=none)∨(fs≠[]∧∃ dx fvs,d=some dx∧M dx=some (.xd fvs)∧RepF K M fs fvs))
  | .dk kvs,v=>∃ a o vs,v=.ref a∧M a=some (obO a o)∧DkF K a o vs∧RepG K M kvs vs
  | .dt kvs,v=>∃ a o vs,v=.ref a∧M a=some (obO a o)∧DtF K a o vs∧RepH K M kvs vs
  | .tupW xs,v=>∃ a vs,v=.ref a∧SqT K M a vs∧Reps K M xs vs
def Reps (K:Fg) [WD K] (M:Hp):List D→List V→Prop
  | [],vs=>vs=[]
  | x :: xs,vs=>∃ v r,vs=v :: r∧Rep K M x v∧Reps K M xs r
def RepF (K:Fg) [WD K] (M:Hp):List (Str×D)→List (Str×V)→Prop
  | [],vs=>vs=[]
  | (k,x) :: xs,vs=>∃ v r,vs=(k,v) :: r∧Rep K M x v∧RepF K M xs r
def RepG (K:Fg) [WD K] (M:Hp):List (Key×D)→List (Key×Value)→Prop
  | [],vs=>vs=[]
  | (k,x) :: xs,vs=>∃ u v r,vs=(k,u) :: r∧RelV v u∧Rep K M x v∧RepG K M xs r
def RepH (K:Fg) [WD K] (M:Hp):List (List Key×D)→List (List Key×Addr×Value)→Prop
  | [],vs=>vs=[]
  | (k,x) :: xs,vs=>∃ b u v r,vs=(k,b,u) :: r∧SqN K M b (k.map kV)∧RelV v u∧Rep K M x v∧RepH K M xs r
end
theorem aa2 {K:Fg} {H H':Hp} {a:Addr} {xs:List V} (e:Same H H') (h:SqT K H a xs):SqT K H' a xs:=by
  rcases h with (h | ⟨o,h⟩) | h
  · exact .inl (.inl (e _ _ h))
  · exact .inl (.inr ⟨o,e _ _ h⟩)
  · exact .inr h
mutual
theorem Rep.mono {K:Fg} [WD K] {M M':Hp} (e:Same M M'):∀ (d:D) (v:V),Rep K M d v→Rep K M' d v
  | .non,_,h=>by simpa [Rep] using h
  | .bl _,_,h=>by simpa [Rep] using h
  | .int _,_,h=>by simpa [Rep] using h
  | .str _,_,h=>by simpa [Rep] using h
  | .tup xs,v,h=>by
    simp only [Rep] at h ⊢
    obtain ⟨a,vs,h1,h2,h3⟩:=h
    exact ⟨a,vs,h1,h2.mono e,Reps.mono e xs vs h3⟩
  | .lst xs,v,h=>by
    simp only [Rep] at h ⊢
    obtain ⟨a,vs,h1,h2,h3⟩:=h
    exact ⟨a,vs,h1,e _ _ h2,Reps.mono e xs vs h3⟩
  | .scr ns,v,h=>by
    simp only [Rep] at h ⊢
    obtain ⟨a,h1,h2⟩:=h
    exact ⟨a,h1,e.seq h2⟩
  | .ty _,_,h=>by simpa [Rep] using h
  | .cls _,_,h=>by simpa [Rep] using h
  | .obj c fs,v,h=>by
    simp only [Rep] at h ⊢
    obtain ⟨a,dx,fvs,h1,h2,h3⟩:=h
    exact ⟨a,dx,fvs,h1,e _ _ h2,RepF.mono e fs fvs h3⟩
  | .exn c fs,v,h=>by
    simp only [Rep] at h ⊢
    obtain ⟨a,d,h1,h2,h3⟩:=h
    refine ⟨a,d,h1,e _ _ h2,?_⟩
    rcases h3 with h3 | ⟨h3,dx,fvs,h4,h5,h6⟩
    · exact .inl h3
    · exact .inr ⟨h3,dx,fvs,h4,e _ _ h5,RepF.mono e fs fvs h6⟩
  | .dk kvs,v,h=>by
    simp only [Rep] at h ⊢
    obtain ⟨a,o,vs,h1,h2,h4,h3⟩:=h
    exact ⟨a,o,vs,h1,e _ _ h2,h4,RepG.mono e kvs vs h3⟩
  | .dt kvs,v,h=>by
    simp only [Rep] at h ⊢
    obtain ⟨a,o,vs,h1,h2,h4,h3⟩:=h
    exact ⟨a,o,vs,h1,e _ _ h2,h4,RepH.mono e kvs vs h3⟩
  | .tupW xs,v,h=>by
    simp only [Rep] at h ⊢
    obtain ⟨a,vs,h1,h2,h3⟩:=h
    exact ⟨a,vs,h1,aa2 e h2,Reps.mono e xs vs h3⟩
theorem Reps.mono {K:Fg} [WD K] {M M':Hp} (e:Same M M'):∀ (xs:List D) (vs:List V),Reps K M xs vs→Reps K M' xs vs
  | [],_,h=>by simpa [Reps] using h
  | x :: xs,vs,h=>by
    simp only [Reps] at h ⊢
    obtain ⟨v,r,h1,h2,h3⟩:=h
    exact ⟨v,r,h1,Rep.mono e x v h2,Reps.mono e xs r h3⟩
theorem RepF.mono {K:Fg} [WD K] {M M':Hp} (e:Same M M'):∀ (xs:List (Str×D)) (vs:List (Str×V)),RepF K M xs vs→RepF K M' xs vs
  | [],_,h=>by simpa [RepF] using h
  | (k,x) :: xs,vs,h=>by
    simp only [RepF] at h ⊢
    obtain ⟨v,r,h1,h2,h3⟩:=h
    exact ⟨v,r,h1,Rep.mono e x v h2,RepF.mono e xs r h3⟩
theorem RepG.mono {K:Fg} [WD K] {M M':Hp} (e:Same M M'):∀ (xs:List (Key×D)) (vs:List (Key×Value)),RepG K M xs vs→RepG K M' xs vs
  | [],_,h=>by simpa [RepG] using h
  | (k,x) :: xs,vs,h=>by
    simp only [RepG] at h ⊢
    obtain ⟨u,v,r,h1,h3,h4,h5⟩:=h
    exact ⟨u,v,r,h1,h3,Rep.mono e x v h4,RepG.mono e xs r h5⟩
theorem RepH.mono {K:Fg} [WD K] {M M':Hp} (e:Same M M'):∀ (xs:List (List Key×D)) (vs:List (List Key×Addr×Value)),RepH K M xs vs→RepH K M' xs vs
  | [],_,h=>by simpa [RepH] using h
  | (k,x) :: xs,vs,h=>by
    simp only [RepH] at h ⊢
    obtain ⟨b,u,v,r,h1,h2,h3,h4,h5⟩:=h
    exact ⟨b,u,v,r,h1,h2.mono e,h3,Rep.mono e x v h4,RepH.mono e xs r h5⟩
end
theorem ahW {K:Fg} [WD K] {M:Hp}:∀ {xs:List D} {vs:List V},Reps K M xs vs↔Paired (Rep K M) xs vs
  | [],vs=>by
    simp only [Reps]
    exact ⟨fun h=>h▸.nil,fun h=>by cases h; rfl⟩
  | x :: xs,vs=>by
    simp only [Reps]
    constructor
    · rintro ⟨v,r,rfl,h1,h2⟩
      exact .cons h1 (ahW.mp h2)
    · intro h
      cases h with
      | cons h1 h2=>exact ⟨_,_,rfl,h1,ahW.mpr h2⟩
theorem Reps.nil {K:Fg} [WD K] {M:Hp}:Reps K M [] []:=by simp [Reps]
theorem Reps.cons {K:Fg} [WD K] {M:Hp} {x:D} {xs:List D} {v:V} {vs:List V} (h:Rep K M x v) (hs:Reps K M xs vs):Reps K M (x :: xs) (v :: vs):=by
  simp only [Reps]
  exact ⟨v,vs,rfl,h,hs⟩
theorem Reps.length {K:Fg} [WD K] {M:Hp} {xs:List D} {vs:List V} (h:Reps K M xs vs):xs.length=vs.length:=Paired.length (ahW.mp h)
theorem Reps.get {K:Fg} [WD K] {M:Hp}:∀ {xs:List D} {vs:List V} {i:Nat} {x:D},Reps K M xs vs→xs[i]?=some x→∃ v,vs[i]?=some v∧Rep K M x v
  | [],vs,i,x,_,e=>by simp at e
  | y :: xs,vs,0,x,h,e=>by
    simp only [Reps] at h
    obtain ⟨v,r,rfl,h1,h2⟩:=h
    simp at e; subst e
    exact ⟨v,rfl,h1⟩
  | y :: xs,vs,i+1,x,h,e=>by
    simp only [Reps] at h
    obtain ⟨v,r,rfl,h1,h2⟩:=h
    simp at e
    obtain ⟨u,h3,h4⟩:=Reps.get (i:=i) h2 e
    exact ⟨u,by simpa using h3,h4⟩
theorem Reps.take {K:Fg} [WD K] {M:Hp}:∀ (n:Nat) {xs:List D} {vs:List V},Reps K M xs vs→Reps K M (xs.take n) (vs.take n)
  | 0,xs,vs,_=>by simpa using Reps.nil
  | n+1,[],vs,h=>by
    simp only [Reps] at h
    subst h
    simpa using Reps.nil
  | n+1,x :: xs,vs,h=>by
    simp only [Reps] at h
    obtain ⟨v,r,rfl,h1,h2⟩:=h
    exact Reps.cons h1 (Reps.take n h2)
theorem Reps.drop {K:Fg} [WD K] {M:Hp}:∀ (n:Nat) {xs:List D} {vs:List V},Reps K M xs vs→Reps K M (xs.drop n) (vs.drop n)
  | 0,xs,vs,h=>h
  | n+1,[],vs,h=>by
    simp only [Reps] at h
    subst h
    simpa using Reps.nil
  | n+1,x :: xs,vs,h=>by
    simp only [Reps] at h
    obtain ⟨v,r,rfl,h1,h2⟩:=h
    exact Reps.drop n h2
theorem Reps.set {K:Fg} [WD K] {M:Hp} {y:D} {u:V} (hy:Rep K M y u):∀ (n:Nat) {xs:List D} {vs:List V},Reps K M xs vs→Reps K M (xs.set n y) (vs.set n u)
  | _,[],vs,h=>by
    simp only [Reps] at h
    subst h
    simpa using Reps.nil
  | 0,x :: xs,vs,h=>by
    simp only [Reps] at h
    obtain ⟨v,r,rfl,h1,h2⟩:=h
    simpa using Reps.cons hy h2
  | n+1,x :: xs,vs,h=>by
    simp only [Reps] at h
    obtain ⟨v,r,rfl,h1,h2⟩:=h
    simpa using Reps.cons h1 (Reps.set hy n h2)
def RowK (K:Fg) [WD K] (M:Hp) (p:Key×D) (q:Key×Value):Prop:=p.1=q.1∧∃ v,RelV v q.2∧Rep K M p.2 v
theorem aeg {K:Fg} [WD K] {M:Hp}:∀ {xs:List (Key×D)} {vs:List (Key×Value)},RepG K M xs vs↔Paired (RowK K M) xs vs
  | [],vs=>by
    simp only [RepG]
    exact ⟨fun h=>h▸.nil,fun h=>by cases h; rfl⟩
  | (k,x) :: xs,vs=>by
    simp only [RepG]
    constructor
    · rintro ⟨u,v,r,rfl,h2,h3,h4⟩
      exact .cons ⟨rfl,v,h2,h3⟩ (aeg.mp h4)
    · intro h
      cases h with
      | cons h1 h2=>
        rename_i q _
        obtain ⟨k',u⟩:=q
        obtain ⟨e,v,h3,h4⟩:=h1
        cases e
        exact ⟨u,v,_,rfl,h3,h4,aeg.mpr h2⟩
def RowT (K:Fg) [WD K] (M:Hp) (p:List Key×D) (q:List Key×Addr×Value):Prop:=p.1=q.1∧SqN K M q.2.1 (p.1.map kV)∧∃ v,RelV v q.2.2∧Rep K M p.2 v
theorem aeh {K:Fg} [WD K] {M:Hp}:∀ {xs:List (List Key×D)} {vs:List (List Key×Addr×Value)},RepH K M xs vs↔Paired (RowT K M) xs vs
  | [],vs=>by
    simp only [RepH]
    exact ⟨fun h=>h▸.nil,fun h=>by cases h; rfl⟩
  | (k,x) :: xs,vs=>by
    simp only [RepH]
    constructor
    · rintro ⟨b,u,v,r,rfl,h1,h2,h3,h4⟩
      exact .cons ⟨rfl,h1,v,h2,h3⟩ (aeh.mp h4)
    · intro h
      cases h with
      | cons h1 h2=>
        rename_i q _
        obtain ⟨k',b,u⟩:=q
        obtain ⟨e,h1,v,h3,h4⟩:=h1
        cases e
        exact ⟨b,u,v,_,rfl,h1,h3,h4,aeh.mpr h2⟩
inductive OD where
  | lst (xs:List D) | ob (c:Str) (fs:List (Str×D)) | dk (kvs:List (Key×D)) | dt (kvs:List (List Key×D))
theorem Paired.imp {α β:Type} {F G:α→β→Prop} (f:∀ a b,F a b→G a b):∀ {xs:List α} {ys:List β},Paired F xs ys→Paired G xs ys
  | _,_,.nil=>.nil
  | _,_,.cons h t=>.cons (f _ _ h) (Paired.imp f t)
abbrev RepK (K:Fg) [WD K] (M:Hp) (kvs:List (Key×D)) (vs:List (Key×Value)):Prop:=Paired (RowK K M) kvs vs
theorem RepK.mono {K:Fg} [WD K] {M M':Hp} {kvs:List (Key×D)} {vs:List (Key×Value)} (e:Same M M') (h:RepK K M kvs vs):RepK K M' kvs vs:=Paired.imp (fun _ _ ⟨a,v,c,d⟩=>⟨a,v,c,Rep.mono e _ _ d⟩) h
abbrev RepT (K:Fg) [WD K] (M:Hp) (kvs:List (List Key×D)) (vs:List (List Key×Addr×Value)):Prop:=Paired (RowT K M) kvs vs
theorem RepT.mono {K:Fg} [WD K] {M M':Hp} {kvs:List (List Key×D)} {vs:List (List Key×Addr×Value)} (e:Same M M') (h:RepT K M kvs vs):RepT K M' kvs vs:=Paired.imp (fun _ _ ⟨a,b,v,c,d⟩=>⟨a,b.mono e,v,c,Rep.mono e _ _ d⟩) h
def At (K:Fg) [WD K] (M H:Hp) (l:Addr):OD→Prop
  | .lst xs=>∃ vs,H l=some (.lst vs)∧Reps K M xs vs
  | .ob c fs=>∃ dx fvs,H l=some (.ins (He.ga K c) dx fvs)∧RepF K M fs fvs
  | .dk kvs=>∃ o vs,H l=some (obO l o)∧DkF K l o vs∧RepK K M kvs vs
  | .dt kvs=>∃ o vs,H l=some (obO l o)∧DtF K l o vs∧RepT K M kvs vs
theorem At.mono {K:Fg} [WD K] {M M' H H':Hp} {l:Addr} {o:OD} (h:At K M H l o) (e:Same M M') (f:∀ u,H l=some u→H' l=some u):At K M' H' l o:=by
  cases o with
  | lst xs=>obtain ⟨vs,e1,e2⟩:=h; exact ⟨vs,f _ e1,Reps.mono e _ _ e2⟩
  | ob c fs=>obtain ⟨dx,vs,e1,e2⟩:=h; exact ⟨dx,vs,f _ e1,RepF.mono e _ _ e2⟩
  | dk xs=>obtain ⟨o,vs,e1,e3,e2⟩:=h; exact ⟨o,vs,f _ e1,e3,e2.mono e⟩
  | dt xs=>obtain ⟨o,vs,e1,e3,e2⟩:=h; exact ⟨o,vs,f _ e1,e3,e2.mono e⟩
inductive Sl where
  | no | im (d:D) | ow (pin:Bool) (o:OD)
  | hid
def Sl.kind:Sl→Sl
  | .ow p _=>.ow p (.lst [])
  | s=>s
def Sl.pinned:Sl→Bool
  | .ow p _=>p
  | .hid=>true
  | _=>false
abbrev Ev:=List Sl
def SlOk (K:Fg) [WD K] (M H:Hp) (v:Option (Option V)):Sl→Prop
  | .no=>True
  | .hid=>True
  | .im d=>∃ u,v=some (some u)∧Rep K M d u
  | .ow _ o=>∃ l,v=some (some (V.ref l))∧At K M H l o∧M l=none
def Own (env:Ev) (σ:L2.St) (l:Addr):Prop:=∃ (i:Nat) (p:Bool) (o:OD),env[i]?=some (Sl.ow p o)∧σ[i]?=some (some (V.ref l))
structure Holds (K:Fg) [WD K] (M:Hp) (env:Ev) (σ:L2.St) (H:Hp):Prop where
  ex:Same M H
  len:σ.length=env.length
  slot:∀ (i:Nat) s,env[i]?=some s→SlOk K M H σ[i]? s
  dj:∀ (i j:Nat) (l:Addr) (p:Bool) (o:OD) (p':Bool) (o':OD),i≠j→env[i]?=some (Sl.ow p o)→env[j]?=some (Sl.ow p' o')→σ[i]?=some (some (V.ref l))→σ[j]?=some (some (V.ref l))→False
structure Grow (M:Hp) (env:Ev) (σ:L2.St) (H:Hp) (M':Hp) (env':Ev) (σ':L2.St) (H':Hp):Prop where
  exM:Same M M'
  fr:∀ l o,H l=some o→¬ Own env σ l→H' l=some o
  new:∀ l o,M' l=some o→M l=some o∨H l=none∨Own env σ l
  own:∀ l,Own env' σ' l→Own env σ l∨H l=none
  pin:∀ (i:Nat) s,env[i]?=some s→s.pinned=true→σ'[i]?=σ[i]?∧∃ s',env'[i]?=some s'∧s'.kind=s.kind
  dom:∀ l,H' l=none→H l=none
  len:env'.length=env.length
section
variable {K:Fg} [WD K] {M M1 M2:Hp} {env env1 env2:Ev} {σ σ1 σ2:L2.St} {H H1 H2:Hp}
theorem ahX {s s':Sl} (h:s'.kind=s.kind):s'.pinned=s.pinned:=by
  cases s <;> cases s' <;> simp [Sl.kind,Sl.pinned] at h ⊢ <;> exact h
theorem Grow.refl:Grow M env σ H M env σ H:=⟨Same.refl M,fun _ _ h _=>h,fun _ _ h=>.inl h,fun _ h=>.inl h,fun _ s h _=>⟨rfl,s,h,rfl⟩,fun _ h=>h,rfl⟩
theorem Grow.trans (h:Holds K M env σ H) (a:Grow M env σ H M1 env1 σ1 H1) (b:Grow M1 env1 σ1 H1 M2 env2 σ2 H2):Grow M env σ H M2 env2 σ2 H2 where
  exM:=a.exM.trans b.exM
  fr:=fun l o e n=>b.fr l o (a.fr l o e n) fun z=>by
    rcases a.own l z with q | q
    · exact n q
    · rw [e] at q; cases q
  new:=fun l o e=>by
    rcases b.new l o e with q | q | q
    · exact a.new l o q
    · exact .inr (.inl (a.dom l q))
    · rcases a.own l q with q | q
      · exact .inr (.inr q)
      · exact .inr (.inl q)
  own:=fun l z=>by
    rcases b.own l z with q | q
    · exact a.own l q
    · exact .inr (a.dom l q)
  pin:=fun i s e p=>by
    obtain ⟨e1,s1,e2,k1⟩:=a.pin i s e p
    obtain ⟨e3,s2,e4,k2⟩:=b.pin i s1 e2 ((ahX k1).trans p)
    exact ⟨e3.trans e1,s2,e4,k2.trans k1⟩
  dom:=fun l e=>a.dom l (b.dom l e)
  len:=b.len.trans a.len
structure Ext (M H M' H':Hp):Prop where
  exM:Same M M'
  exH:Same H H'
  new:∀ l o,M' l=some o→M l=some o∨H l=none
  inn:Same M' H'
theorem Ext.refl (e:Same M H):Ext M H M H:=⟨Same.refl _,Same.refl _,fun _ _ h=>.inl h,e⟩
theorem Ext.trans (a:Ext M H M1 H1) (b:Ext M1 H1 M2 H2):Ext M H M2 H2:=
  ⟨a.exM.trans b.exM,a.exH.trans b.exH,fun l o e=>by
    rcases b.new l o e with q | q
    · exact a.new l o q
    · exact .inr (a.exH.free q),b.inn⟩
end
end Dn
namespace Dn
open PySem PySem.Spec PyProof.Rows L2
inductive X where
  | im (d:D) | sl (i:Nat) | ow (o:OD)
abbrev Xn:=Str×List (Str×D)
inductive RE (α:Type) where
  | ok (x:α) (env:Ev) | exc (e:Xn) (env:Ev) | bad
def Shape (env env':Ev):Prop:=env'.map Sl.kind=env.map Sl.kind
theorem Shape.refl (env:Ev):Shape env env:=rfl
theorem Shape.trans {a b c:Ev} (h:Shape a b) (h':Shape b c):Shape a c:=Eq.trans h' h
theorem Shape.ow {a b:Ev} (h:Shape a b) {i:Nat} {p:Bool} {o:OD} (e:a[i]?=some (Sl.ow p o)):∃ o',b[i]?=some (Sl.ow p o'):=by
  have h1:(b.map Sl.kind)[i]?=(a.map Sl.kind)[i]?:=by rw [show b.map Sl.kind=a.map Sl.kind from h]
  rw [List.getElem?_map,List.getElem?_map,e] at h1
  cases q:b[i]? with
  | none=>rw [q] at h1; cases h1
  | some s=>
    rw [q] at h1
    cases s with
    | no=>cases h1
    | hid=>cases h1
    | im d=>cases h1
    | ow p' o'=>
      simp only [Option.map_some,Sl.kind,Option.some.injEq,Sl.ow.injEq,and_true] at h1
      subst h1
      exact ⟨o',rfl⟩
def RepX (K:Fg) [WD K] (M H:Hp) (env:Ev) (σ:L2.St):X→V→Prop
  | .im d,v=>Rep K M d v
  | .sl i,v=>(∃ p o,env[i]?=some (Sl.ow p o))∧σ[i]?=some (some v)
  | .ow o,v=>∃ l,v=V.ref l∧At K M H l o∧M l=none∧¬ Own env σ l
def RepN (K:Fg) [WD K] (M H:Hp):X→V→Prop
  | .im d,v=>Rep K M d v
  | .sl _,_=>False
  | .ow o,v=>∃ l,v=V.ref l∧At K M H l o∧M l=none
def RepE (K:Fg) [WD K] (M H:Hp) (e:Xn) (cls:Value) (d:Option Addr):Prop:=
  cls=.ref (He.ga K e.1)∧((e.2=[]∧d=none)∨(e.2≠[]∧∃ dx fvs,d=some dx∧M dx=some (.xd fvs)∧RepF K M e.2 fvs))
abbrev WS:=L2.St→XK
def Sat {α β:Type} (K:Fg) [WD K] (W:WS) (M:Hp) (σ:L2.St) (H:Hp) (env:Ev) (r:RE α) (R:Hp→Hp→Hp→Ev→α→β→Prop) (t:(β→Hp→Prop)→Prop):Prop:=match r with
  | .ok x env'=>∀ Q:β→Hp→Prop,(∀ v M' H',Grow M env σ H M' env' σ H'→Shape env env'→Holds K M' env' σ H'→R H M' H' env' x v→Q v H')→t Q
  | .exc e env'=>∀ Q:β→Hp→Prop,(∀ cls d M' H',Grow M env σ H M' env' σ H'→Shape env env'→Holds K M' env' σ H'→RepE K M' H' e cls d→W σ cls d H')→t Q
  | .bad=>True
def NewX (H0:Hp) (x:X) (v:V):Prop:=∀ o,x=.ow o→∀ l,v=V.ref l→H0 l=none
def Back {α β:Type} (R:Hp→Hp→Hp→Ev→α→β→Prop):Prop:=∀ H0 H1 M' H' env' x v,(∀ l,H1 l=none→H0 l=none)→R H1 M' H' env' x v→R H0 M' H' env' x v
def RX (K:Fg) [WD K] (σ:L2.St):Hp→Hp→Hp→Ev→X→V→Prop:=fun H0 M' H' env' x v=>RepX K M' H' env' σ x v∧NewX H0 x v
section
variable {K:Fg} [WD K] {W:WS} {M M' M1 M2:Hp} {env env' env1 env2:Ev} {σ:L2.St} {H H' H1 H2:Hp} {x y:X} {v u:V}
def OD.toD:OD→Option D
  | .lst xs=>some (.lst xs)
  | .ob c fs=>some (.obj c fs)
  | .dk kvs=>some (.dk kvs)
  | .dt kvs=>some (.dt kvs)
def Rd2 (K:Fg) [WD K] (M H:Hp) (d:D) (v:V):Prop:=Rep K M d v∨∃ l o,v=V.ref l∧At K M H l o∧o.toD=some d
def rd (env:Ev):X→Option D
  | .im d=>some d
  | .sl i=>match env[i]? with
    | some (.ow _ o)=>o.toD
    | _=>none
  | .ow o=>o.toD
def Fin (K:Fg) [WD K] (M H:Hp) (x:X) (Q:VK):Prop:=∀ z M' H',Ext M H M' H'→(∀ o,x=.ow o→∀ l,z=V.ref l→H l=none)→RepN K M' H' x z→Q z H'
theorem Fin.im {d:D} {Q:VK} (q:Fin K M H (.im d) Q) {z:V} {M' H':Hp} (e:Ext M H M' H') (r:Rep K M' d z):Q z H':=q z M' H' e (fun _ z=>nomatch z) r
theorem aiY (h:Same M H) {p:Addr} {o:HO} (n:H p=none):Ext M H (upd M p o) (upd H p o) where
  exM:=fun a u q=>by rw [upd_ne (ne_of_none q (h.free n))]; exact q
  exH:=fun a u q=>by rw [upd_ne (ne_of_none q n)]; exact q
  new:=fun l u q=>by
    by_cases e:l=p
    · exact .inr (e▸n)
    · rw [upd_ne e] at q; exact .inl q
  inn:=fun a u q=>by
    by_cases e:a=p
    · subst e; rw [upd_same] at q ⊢; exact q
    · rw [upd_ne e] at q ⊢; exact h a u q
theorem amE (h:Same M H) {p:Addr} {o:HO} (n:H p=none):Ext M H M (upd H p o) where
  exM:=Same.refl M
  exH:=fun a u q=>by rw [upd_ne (ne_of_none q n)]; exact q
  new:=fun l u q=>.inl q
  inn:=fun a u q=>by rw [upd_ne (ne_of_none (h a u q) n)]; exact h a u q
theorem Fin.tup {xs:List D} {vs:List V} {Q:VK} (q:Fin K M H (.im (.tup xs)) Q) (h:Same M H) (r:Reps K M xs vs) {p:Addr} {o:Obj} (n:H p=none) (hd:o.dict=none):Q (.ref p) (upd H p (.frz o (.tup vs))):=by
  have e:=aiY h (o:=.frz o (.tup vs)) n
  refine q.im e ?_
  simp only [Rep]
  exact ⟨p,vs,rfl,.inl ⟨o,upd_same,hd⟩,Reps.mono e.exM _ _ r⟩
theorem Fin.lst {xs:List D} {vs:List V} {Q:VK} (q:Fin K M H (.ow (.lst xs)) Q) (h:Same M H) (r:Reps K M xs vs) {p:Addr} (n:H p=none):Q (.ref p) (upd H p (.lst vs)):=by
  have e:=amE h (o:=.lst vs) n
  refine q (.ref p) M _ e (fun _ _ l z=>by cases z; exact n) ⟨p,rfl,⟨vs,upd_same,r⟩,h.free n⟩
theorem Rd2.int {i:Int} (h:Rd2 K M H (.int i) v):v=.int i:=by
  rcases h with h | ⟨l,o,_,_,e⟩
  · simpa [Rep] using h
  · cases o <;> cases e
theorem Rd2.str {i:Str} (h:Rd2 K M H (.str i) v):v=.str i:=by
  rcases h with h | ⟨l,o,_,_,e⟩
  · simpa [Rep] using h
  · cases o <;> cases e
theorem Rd2.bl {i:Bool} (h:Rd2 K M H (.bl i) v):v=.bl i:=by
  rcases h with h | ⟨l,o,_,_,e⟩
  · simpa [Rep] using h
  · cases o <;> cases e
theorem Rd2.non (h:Rd2 K M H .non v):v=.non:=by
  rcases h with h | ⟨l,o,_,_,e⟩
  · simpa [Rep] using h
  · cases o <;> cases e
theorem Rd2.tupN {xs:List D} (h:Rd2 K M H (.tup xs) v) (s:Same M H):∃ a vs,v=.ref a∧SqN K H a vs∧Reps K M xs vs:=by
  rcases h with h | ⟨l,o,_,_,e⟩
  · simp only [Rep] at h
    obtain ⟨a,vs,h1,h2,h3⟩:=h
    exact ⟨a,vs,h1,h2.mono s,h3⟩
  · cases o <;> cases e
theorem Rd2.tup {xs:List D} (h:Rd2 K M H (.tup xs) v) (s:Same M H):∃ a vs,v=.ref a∧SqT K H a vs∧Reps K M xs vs:=by
  obtain ⟨a,vs,h1,h2,h3⟩:=h.tupN s
  exact ⟨a,vs,h1,h2.t,h3⟩
theorem Rd2.lst {xs:List D} (h:Rd2 K M H (.lst xs) v) (s:Same M H):∃ a vs,v=.ref a∧H a=some (.lst vs)∧Reps K M xs vs:=by
  rcases h with h | ⟨l,o,e1,a,e⟩
  · simp only [Rep] at h
    obtain ⟨a,vs,h1,h2,h3⟩:=h
    exact ⟨a,vs,h1,s _ _ h2,h3⟩
  · cases o with
    | lst ys=>
      cases e
      obtain ⟨vs,e2,r⟩:=a
      exact ⟨l,vs,e1,e2,r⟩
    | _=>cases e
theorem Rd2.scr {ns:List Int} (h:Rd2 K M H (.scr ns) v) (s:Same M H):∃ a,v=.ref a∧SqL K H a (ns.map V.int):=by
  rcases h with h | ⟨l,o,_,_,e⟩
  · simp only [Rep] at h
    obtain ⟨a,h1,h2⟩:=h
    exact ⟨a,h1,s.seq h2⟩
  · cases o <;> cases e
theorem Rd2.ty {n:String} (h:Rd2 K M H (.ty n) v):v=.ty n:=by
  rcases h with h | ⟨l,o,_,_,e⟩
  · simpa [Rep] using h
  · cases o <;> cases e
theorem Rd2.cls {c:Str} (h:Rd2 K M H (.cls c) v):v=.ref (He.ga K c):=by
  rcases h with h | ⟨l,o,_,_,e⟩
  · simpa [Rep] using h
  · cases o <;> cases e
theorem Rd2.obj {c:Str} {fs:List (Str×D)} (h:Rd2 K M H (.obj c fs) v) (s:Same M H):∃ a dx fvs,v=.ref a∧H a=some (.ins (He.ga K c) dx fvs)∧RepF K M fs fvs:=by
  rcases h with h | ⟨l,o,e1,a,e⟩
  · simp only [Rep] at h
    obtain ⟨a,dx,fvs,h1,h2,h3⟩:=h
    exact ⟨a,dx,fvs,h1,s _ _ h2,h3⟩
  · cases o with
    | ob c' fs'=>
      cases e
      obtain ⟨dx,fvs,e2,r⟩:=a
      exact ⟨l,dx,fvs,e1,e2,r⟩
    | _=>cases e
end
def dC (d:D):Ev→RE X:=fun env=>.ok (.im d) env
def j6 (i:Nat):Ev→RE X:=fun env=>match env[i]? with
  | some (.im d)=>.ok (.im d) env
  | some (.ow _ _)=>.ok (.sl i) env
  | _=>.bad
def RE.bind {α β:Type} (r:RE α) (f:α→Ev→RE β):RE β:=match r with
  | .ok x env=>f x env
  | .exc e env=>.exc e env
  | .bad=>.bad
def opt {α:Type} (o:Option α) (env:Ev):RE α:=match o with
  | some x=>.ok x env
  | none=>.bad
def dOp (f:D→D→Option X) (da db:Ev→RE X):Ev→RE X:=fun env=>(da env).bind fun x e1=>(db e1).bind fun y e2=>opt ((rd e2 x).bind fun dx=>(rd e2 y).bind fun dy=>f dx dy) e2
def o7:Ev→RE (List X):=fun env=>.ok [] env
def d9 (da:Ev→RE X) (dr:Ev→RE (List X)):Ev→RE (List X):=fun env=>(da env).bind fun x e1=>(dr e1).bind fun xs e2=>.ok (x :: xs) e2
def rds (env:Ev):List X→Option (List D)
  | []=>some []
  | x :: xs=>(rd env x).bind fun d=>(rds env xs).bind fun ds=>some (d :: ds)
def dCB (f:List D→Option X) (da:Ev→RE (List X)):Ev→RE X:=fun env=>(da env).bind fun xs e1=>opt ((rds e1 xs).bind f) e1
section
variable {K:Fg} [WD K] {W:WS} {M M' M1 M2:Hp} {env env' env1 env2:Ev} {σ:L2.St} {H H' H1 H2:Hp} {x y:X} {v u:V} {ta tb:TE} {da db:Ev→RE X}
theorem Sat.bind {α β γ δ:Type} {r:RE α} {f:α→Ev→RE γ} {R:Hp→Hp→Hp→Ev→α→β→Prop} {R':Hp→Hp→Hp→Ev→γ→δ→Prop} {t:(β→Hp→Prop)→Prop} {t':(δ→Hp→Prop)→Prop} {c:β→Hp→(δ→Hp→Prop)→Prop}
    (bk:Back R') (hh:Holds K M env σ H) (h:Sat K W M σ H env r R t) (ht:∀ Q,t (fun v H1=>c v H1 Q)→t' Q)
    (hf:∀ M1 H1 env1 x v,Grow M env σ H M1 env1 σ H1→Shape env env1→Holds K M1 env1 σ H1→R H M1 H1 env1 x v→Sat K W M1 σ H1 env1 (f x env1) R' (c v H1)):Sat K W M σ H env (r.bind f) R' t':=by
  cases r with
  | bad=>trivial
  | exc e env1=>exact fun Q k=>ht Q (h _ k)
  | ok x env1=>
    show Sat K W M σ H env (f x env1) R' t'
    cases e2:f x env1 with
    | bad=>trivial
    | exc e env2=>
      refine fun Q k=>ht Q (h _ fun v M1 H1 g1 s1 hh1 r1=>?_)
      have h2:=hf M1 H1 env1 x v g1 s1 hh1 r1
      rw [e2] at h2
      exact h2 Q fun cls d M' H' g2 s2 hh2 r2=>k cls d M' H' (g1.trans hh g2) (s1.trans s2) hh2 r2
    | ok y env2=>
      refine fun Q k=>ht Q (h _ fun v M1 H1 g1 s1 hh1 r1=>?_)
      have h2:=hf M1 H1 env1 x v g1 s1 hh1 r1
      rw [e2] at h2
      exact h2 Q fun v M' H' g2 s2 hh2 r2=>k v M' H' (g1.trans hh g2) (s1.trans s2) hh2 (bk _ _ _ _ _ _ _ g1.dom r2)
theorem Sat.imp {α β:Type} {r:RE α} {R:Hp→Hp→Hp→Ev→α→β→Prop} {t t':(β→Hp→Prop)→Prop} (h:Sat K W M σ H env r R t) (ht:∀ Q,t Q→t' Q):Sat K W M σ H env r R t':=by
  cases r with
  | bad=>trivial
  | exc e env1=>exact fun Q k=>ht Q (h Q k)
  | ok x env1=>exact fun Q k=>ht Q (h Q k)
end
end Dn
namespace Dn
open PySem PySem.Spec PyProof.Rows L2
def fit (n:Nat):Bool:=decide (n.log2 < 24)
def pAdd:D→D→Option X
  | .int i,.int j=>some (.im (.int (i+j)))
  | .str i,.str j=>if fit (i.length+j.length) then some (.im (.str (i++j))) else none
  | .tup xs,.tup ys=>if fit (xs.length+ys.length) then some (.im (.tup (xs++ys))) else none
  | .lst xs,.lst ys=>if fit (xs.length+ys.length) then some (.ow (.lst (xs++ys))) else none
  | _,_=>none
def pMod:D→D→Option X
  | .int i,.int j=>if 0 < j then some (.im (.int (i % j))) else none
  | _,_=>none
section
variable {K:Fg} [WD K]
theorem aoF {M:Hp} {a:Addr} {xs:List D} {vs:List V} (h:SqT K M a vs) (r:Reps K M xs vs):Rep K M (.tupW xs) (.ref a):=by
  simp only [Rep]
  exact ⟨a,vs,rfl,h,r⟩
def pCmp (p:Int→Int→Bool):D→D→Option X
  | .int i,.int j=>some (.im (.bl (p i j)))
  | _,_=>none
end
mutual
def D.py:D→Option PyData
  | .non=>some .none
  | .bl b=>some (.bool b)
  | .int i=>some (.int i)
  | .str x=>some (.str x)
  | .tup xs=>(pys xs).map .tuple
  | .lst xs=>(pys xs).map .list
  | _=>none
def pys:List D→Option (List PyData)
  | []=>some []
  | x :: xs=>x.py.bind fun d=>(pys xs).bind fun ds=>some (d :: ds)
end
def D.scal:D→Option V
  | .non=>some .non
  | .bl b=>some (.bl b)
  | .int i=>some (.int i)
  | .str x=>some (.str x)
  | _=>none
def pEqB (x y:D):Option Bool:=match x.scal,y.scal with
  | some a,some b=>if L2.scal a b then some (decide (a=b)) else none
  | _,_=>match x.py,y.py with
    | some a,some b=>if SeqAt.shaped a&&SeqAt.shaped b then some (PyData.eqv a b) else none
    | _,_=>none
def pEq (x y:D):Option X:=(pEqB x y).map fun b=>.im (.bl b)
def pNe (x y:D):Option X:=(pEqB x y).map fun b=>.im (.bl (!b))
section
variable {K:Fg} [WD K]
def D.isNon:D→Bool
  | .non=>true
  | _=>false
end
end Dn
namespace Dn
open PySem PySem.Spec PyProof.Rows L2
def scals:List D→Option (List V)
  | []=>some []
  | x :: xs=>x.scal.bind fun v=>(scals xs).bind fun vs=>some (v :: vs)
def pInB (x y:D):Option Bool:=match y with
  | .str z=>match x with
    | .str c=>if c.cps.size=1 then some (decide (c.cps.getD 0 0∈z.cps.toList)) else none
    | _=>none
  | .lst ys=>match x.scal,scals ys with
    | some a,some vs=>some (inV a vs)
    | _,_=>match x.py,pys ys with
      | some d,some ds=>if SeqAt.shaped d&&SeqAt.shaped (.list ds) then some (ds.any fun z=>PyData.eqv z d) else none
      | _,_=>none
  | .tup ys=>match x.scal,scals ys with
    | some a,some vs=>some (inV a vs)
    | _,_=>none
  | _=>none
def pIn (x y:D):Option X:=(pInB x y).map fun b=>.im (.bl b)
def pIx:D→D→Option X
  | .lst xs,.int i=>(atI xs i).map X.im
  | .tup xs,.int i=>(atI xs i).map X.im
  | .scr ns,.int i=>(atI ns i).map fun n=>X.im (.int n)
  | .str z,.int i=>if fit z.length then (atI z.cps.toList i).map fun c=>X.im (.str ⟨#[c]⟩) else none
  | _,_=>none
def cutD {α:Type} (xs:List α) (lo hi:Option Int):List α:=(xs.drop (HT.sIx xs.length 0 lo)).take (HT.sIx xs.length xs.length hi - HT.sIx xs.length 0 lo)
def pSl:D→Option Int→Option Int→Option X
  | .lst xs,lo,hi=>some (.ow (.lst (cutD xs lo hi)))
  | .tup xs,lo,hi=>some (.im (.tup (cutD xs lo hi)))
  | .str z,lo,hi=>if fit z.length then some (.im (.str (cutS z lo hi))) else none
  | _,_,_=>none
end Dn
namespace Dn
open PySem PySem.Spec PyProof.Rows L2
def frz:X→Option D
  | .im d=>some d
  | .ow o=>o.toD
  | .sl _=>none
def frzs:List X→Option (List D)
  | []=>some []
  | x :: xs=>(frz x).bind fun d=>(frzs xs).bind fun ds=>some (d :: ds)
section
variable {K:Fg} [WD K] {W:WS} {M M' M1 M2:Hp} {env env' env1 env2:Ev} {σ σ':L2.St} {H H' H1 H2:Hp} {x y:X} {v u:V} {ta tb tc te:TE} {da db dc de:Ev→RE X}
def dFrz (de:Ev→RE X):Ev→RE X:=fun env=>(de env).bind fun x e1=>opt ((frz x).map X.im) e1
def dTup (da:Ev→RE (List X)):Ev→RE X:=fun env=>(da env).bind fun xs e1=>opt ((frzs xs).bind fun ds=>if fit ds.length then some (X.im (.tup ds)) else none) e1
def dSome (de:Ev→RE X):Ev→RE (Option Int):=fun env=>(de env).bind fun x e1=>match rd e1 x with
  | some (.int i)=>.ok (some i) e1
  | _=>.bad
def dSl (da:Ev→RE X) (dl dh:Ev→RE (Option Int)):Ev→RE X:=fun env=>(da env).bind fun x e1=>(dl e1).bind fun lo e2=>(dh e2).bind fun hi e3=>opt ((rd e3 x).bind fun d=>pSl d lo hi) e3
variable {tt tu:TT} {dt du:Ev→RE Bool}
def K8 (de:Ev→RE X):Ev→RE Bool:=fun env=>(de env).bind fun x e1=>match rd e1 x with
  | some (.bl b)=>.ok b e1
  | _=>.bad
def dtOr (a b:Ev→RE Bool):Ev→RE Bool:=fun env=>(a env).bind fun c e1=>if c=true then .ok true e1 else b e1
def dtNot (a:Ev→RE Bool):Ev→RE Bool:=fun env=>(a env).bind fun c e1=>.ok (!c) e1
def dAndV (da db:Ev→RE X):Ev→RE X:=fun env=>(K8 da env).bind fun c e1=>if c=true then db e1 else .ok (.im (.bl false)) e1
def dOrV (da db:Ev→RE X):Ev→RE X:=fun env=>(K8 da env).bind fun c e1=>if c=true then .ok (.im (.bl true)) e1 else db e1
def dChain (p q:Int→Int→Bool) (da db dc:Ev→RE X):Ev→RE X:=fun env=>(da env).bind fun x e1=>(db e1).bind fun y e2=>match rd e2 x,rd e2 y with
  | some (.int i),some (.int j)=>if p i j=true then (dc e2).bind fun z e3=>match rd e3 z with
      | some (.int k)=>.ok (.im (.bl (q j k))) e3
      | _=>.bad
    else .ok (.im (.bl false)) e2
  | _,_=>.bad
end
end Dn
namespace Dn
open PySem PySem.Spec PyProof.Rows L2
inductive RS where
  | nx (env:Ev) | rt (x:X) (env:Ev) | bk (env:Ev) | ct (env:Ev) | exc (e:Xn) (env:Ev) | bad
def SatS (K:Fg) [WD K] (W:WS) (M:Hp) (σ:L2.St) (H:Hp) (env:Ev) (r:RS) (t:Ends→Prop):Prop:=match r with
  | .nx env'=>∀ D:Ends,(∀ σ' M' H',Grow M env σ H M' env' σ' H'→Holds K M' env' σ' H'→D.nx σ' H')→t D
  | .rt x env'=>∀ D:Ends,(∀ v σ' M' H',Grow M env σ H M' env' σ' H'→Holds K M' env' σ' H'→RX K σ' H M' H' env' x v→D.rt v H')→t D
  | .bk env'=>∀ D:Ends,(∀ σ' M' H',Grow M env σ H M' env' σ' H'→Holds K M' env' σ' H'→D.bk σ' H')→t D
  | .ct env'=>∀ D:Ends,(∀ σ' M' H',Grow M env σ H M' env' σ' H'→Holds K M' env' σ' H'→D.ct σ' H')→t D
  | .exc e env'=>∀ D:Ends,(∀ cls d σ' M' H',Grow M env σ H M' env' σ' H'→Holds K M' env' σ' H'→RepE K M' H' e cls d→W σ' cls d H')→t D
  | .bad=>True
def RE.stm {α:Type} (r:RE α) (f:α→Ev→RS):RS:=match r with
  | .ok x env=>f x env
  | .exc e env=>.exc e env
  | .bad=>.bad
def RS.seq (r:RS) (f:Ev→RS):RS:=match r with
  | .nx env=>f env
  | r=>r
section
variable {K:Fg} [WD K] {W:WS} {M M' M1 M2:Hp} {env env' env1 env2:Ev} {σ σ' σ1:L2.St} {H H' H1 H2:Hp} {x y:X} {v u:V} {ta tb tc te:TE} {da db dc de:Ev→RE X} {ts tu:TS} {ds du:Ev→RS} {tt:TT} {dt:Ev→RE Bool}
theorem SatS.imp {r:RS} {t t':Ends→Prop} (h:SatS K W M σ H env r t) (i:∀ D,t D→t' D):SatS K W M σ H env r t':=by
  cases r with
  | bad=>trivial
  | nx env'=>exact fun D k=>i D (h D k)
  | bk env'=>exact fun D k=>i D (h D k)
  | ct env'=>exact fun D k=>i D (h D k)
  | rt x env'=>exact fun D k=>i D (h D k)
  | exc e env'=>exact fun D k=>i D (h D k)
theorem Sat.stm {α β:Type} {r:RE α} {R:Hp→Hp→Hp→Ev→α→β→Prop} {f:α→Ev→RS} {t:(β→Hp→Prop)→Prop} {t':Ends→Prop} {c:β→Hp→Ends→Prop} (hh:Holds K M env σ H) (h:Sat K W M σ H env r R t)
    (ht:∀ D,t (fun v H1=>c v H1 D)→t' D) (hf:∀ M1 H1 env1 x v,Grow M env σ H M1 env1 σ H1→Shape env env1→Holds K M1 env1 σ H1→R H M1 H1 env1 x v→SatS K W M σ H env (f x env1) (c v H1)):SatS K W M σ H env (r.stm f) t':=by
  cases r with
  | bad=>trivial
  | exc e env1=>exact fun D k=>ht D (h _ fun cls d M' H' g s hh' r=>k cls d σ M' H' g hh' r)
  | ok x env1=>
    show SatS K W M σ H env (f x env1) t'
    have key:∀ (r2:RS) (e2:f x env1=r2),(∀ D,(∀ v H1,(SatS K W M σ H env r2 (c v H1))→c v H1 D)→t' D)→True:=fun _ _ _=>trivial
    cases e2:f x env1 with
    | bad=>trivial
    | nx env'=>exact fun D k=>ht D (h _ fun v M' H' g s hh' r=>(by have:=hf M' H' env1 x v g s hh' r; rw [e2] at this; exact this D k))
    | bk env'=>exact fun D k=>ht D (h _ fun v M' H' g s hh' r=>(by have:=hf M' H' env1 x v g s hh' r; rw [e2] at this; exact this D k))
    | ct env'=>exact fun D k=>ht D (h _ fun v M' H' g s hh' r=>(by have:=hf M' H' env1 x v g s hh' r; rw [e2] at this; exact this D k))
    | rt y env'=>exact fun D k=>ht D (h _ fun v M' H' g s hh' r=>(by have:=hf M' H' env1 x v g s hh' r; rw [e2] at this; exact this D k))
    | exc e env'=>exact fun D k=>ht D (h _ fun v M' H' g s hh' r=>(by have:=hf M' H' env1 x v g s hh' r; rw [e2] at this; exact this D k))
def O5:Ev→RS:=fun env=>.nx env
def t8 (a b:Ev→RS):Ev→RS:=fun env=>(a env).seq b
def X.slot:X→Option Sl
  | .im d=>some (.im d)
  | .ow o=>some (.ow false o)
  | .sl _=>none
def setSl (i:Nat) (x:X) (env:Ev):Option Ev:=match env[i]? with
  | none=>none
  | some (.ow true _)=>none
  | some .hid=>none
  | some _=>x.slot.map fun s=>env.set i s
def optS (o:Option Ev):RS:=match o with
  | some env=>.nx env
  | none=>.bad
def dAsg (i:Nat) (de:Ev→RE X):Ev→RS:=fun env=>(de env).stm fun x e1=>optS (setSl i x e1)
def M5 (de:Ev→RE X):Ev→RS:=fun env=>(de env).stm fun x e1=>.rt x e1
def dIfS (dt:Ev→RE Bool) (a b:Ev→RS):Ev→RS:=fun env=>(dt env).stm fun c e1=>if c=true then a e1 else b e1
def dNever:Ev→RS:=fun _=>.bad
def N7 (i:Nat):D→Ev→Option Ev:=fun d env=>setSl i (.im d) env
def dgNil:List D→Ev→Option Ev:=fun ds env=>match ds with
  | []=>some env
  | _=>none
def T8 (a:D→Ev→Option Ev) (b:List D→Ev→Option Ev):List D→Ev→Option Ev:=fun ds env=>match ds with
  | d :: r=>(a d env).bind (b r)
  | _=>none
end
end Dn
namespace Dn
open PySem PySem.Spec PyProof.Rows L2
abbrev Its:=List D×Option Nat
def hideE (h:Option Nat) (env:Ev):Ev:=match h with
  | none=>env
  | some j=>env.set j .hid
def forGo (dg:D→Ev→Option Ev) (db:Ev→RS):List D→Ev→RS
  | [],env=>.nx env
  | x :: xs,env=>match dg x env with
    | none=>.bad
    | some e1=>match db e1 with
      | .nx e2=>forGo dg db xs e2
      | .ct e2=>forGo dg db xs e2
      | .bk e2=>.nx e2
      | r=>r
def RS.map (r:RS) (f:Ev→Ev):RS:=match r with
  | .nx e=>.nx (f e)
  | .rt x e=>.rt x (f e)
  | .bk e=>.bk (f e)
  | .ct e=>.ct (f e)
  | .exc x e=>.exc x (f e)
  | .bad=>.bad
def unhide (h:Option Nat) (e1:Ev) (r:RS):RS:=match h with
  | none=>r
  | some j=>r.map fun e=>e.set j (e1.getD j .no)
def dFor (di:Ev→RE Its) (dg:D→Ev→Option Ev) (db:Ev→RS):Ev→RS:=fun env=>(di env).stm fun xh e1=>unhide xh.2 e1 (forGo dg db xh.1 (hideE xh.2 e1))
end Dn
namespace Dn
open PySem PySem.Spec PyProof.Rows L2
def sv (vs:List V):L2.St:=vs.map some
def Post (K:Fg) [WD K] (M:Hp) (ps:Ev) (vs:List V) (H:Hp) (Q:VK) (E:XK):RE X→Prop
  | .ok x ps'=>∀ v M' H',Grow M ps (sv vs) H M' ps' (sv vs) H'→Shape ps ps'→Holds K M' ps' (sv vs) H'→RX K (sv vs) H M' H' ps' x v→Q v H'
  | .exc e ps'=>∀ cls d M' H',Grow M ps (sv vs) H M' ps' (sv vs) H'→Shape ps ps'→Holds K M' ps' (sv vs) H'→RepE K M' H' e cls d→E cls d H'
  | .bad=>False
def spD (K:Fg) [WD K] (m:Ev→RE X):Sp:=fun vs H Q E=>∃ M ps,Holds K M ps (sv vs) H∧Post K M ps vs H Q E (m ps)
def Sl.par:Sl→Bool
  | .im _=>true
  | .ow p _=>p
  | _=>false
def backP (ps env:Ev):Ev:=List.zipWith (fun p e=>match p with | .ow _ _=>e | _=>p) ps env
def retX (n:Nat) (env:Ev):X→Option X
  | .im d=>some (.im d)
  | .ow o=>some (.ow o)
  | .sl i=>if i < n then none else match env[i]? with
    | some (.ow _ o)=>some (.ow o)
    | _=>none
def finR (n:Nat) (ps:Ev):RS→RE X
  | .rt x env=>opt (retX n env x) (backP ps env)
  | .nx env=>.ok (.im .non) (backP ps env)
  | .exc e env=>.exc e (backP ps env)
  | _=>.bad
def fnM (N n:Nat) (ds:Ev→RS):Ev→RE X:=fun ps=>if ps.length=n∧n≤N∧ps.all Sl.par=true then finR n ps (ds (ps++List.replicate (N - n) .no)) else .bad
def passX (env:Ev):X→Option Sl
  | .im d=>some (.im d)
  | .ow o=>some (.ow true o)
  | .sl i=>match env[i]? with
    | some (.ow _ o)=>some (.ow true o)
    | _=>none
def passXs (env:Ev):List X→Option Ev
  | []=>some []
  | x :: xs=>(passX env x).bind fun s=>(passXs env xs).bind fun ss=>some (s :: ss)
def slots:List X→List Nat
  | []=>[]
  | .sl i :: xs=>i :: slots xs
  | _ :: xs=>slots xs
def temps:List X→Nat
  | []=>0
  | .ow _ :: xs=>temps xs+1
  | _ :: xs=>temps xs
def wr (i:Nat) (o:OD) (env:Ev):Ev:=match env[i]? with
  | some (.ow p _)=>env.set i (.ow p o)
  | _=>env
def wb:List X→Ev→Ev→Ev
  | .sl i :: xs,.ow _ o :: ps,env=>wb xs ps (wr i o env)
  | _ :: xs,_ :: ps,env=>wb xs ps env
  | _,_,env=>env
def dCall (m:Ev→RE X) (da:Ev→RE (List X)):Ev→RE X:=fun env=>(da env).bind fun xs e1=>match passXs e1 xs with
  | none=>.bad
  | some ps=>if (slots xs).Nodup∧temps xs≤1 then match m ps with
      | .ok y ps'=>.ok y (wb xs ps' e1)
      | .exc e ps'=>.exc e (wb xs ps' e1)
      | .bad=>.bad
    else .bad
section
variable {K:Fg} [WD K] {W:WS} {M M' M1 M2:Hp} {env env' env1 env2 ps:Ev} {σ σ' σ1:L2.St} {H H' H1 H2:Hp} {x y:X} {v u:V} {vs:List V}
def NoSl (m:Ev→RE X):Prop:=∀ ps y ps',m ps=.ok y ps'→∀ i,y≠.sl i
end
end Dn
namespace Dn
open PySem PySem.Spec PyProof.Rows L2
def O4 (env:Ev):List Nat→Ev
  | []=>env
  | v :: vs=>(O4 env vs).set v .no
def restE (e1:Ev) (e:Ev):List Nat→Ev
  | []=>e
  | v :: vs=>(restE e1 e vs).set v (e1.getD v .no)
def freeSl (e1:Ev) (v:Nat):Bool:=match e1[v]? with
  | some .no=>true
  | some (.im _)=>true
  | _=>false
def lcGo (dg:D→Ev→Option Ev) (dt:Ev→RE Bool) (de:Ev→RE X) (vs:List Nat):List D→Ev→List D→RE (List D)
  | [],e,acc=>.ok acc e
  | x :: xs,e,acc=>match dg x e with
    | none=>.bad
    | some e2=>match dt e2 with
      | .ok true e3=>match de e3 with
        | .ok y e4=>match frz y with
          | some d=>if fit (acc.length+1) then lcGo dg dt de vs xs (O4 e4 vs) (acc++[d]) else .bad
          | none=>.bad
        | _=>.bad
      | .ok false e3=>lcGo dg dt de vs xs (O4 e3 vs) acc
      | _=>.bad
def unhid (h:Option Nat) (e1 e:Ev):Ev:=match h with
  | none=>e
  | some j=>e.set j (e1.getD j .no)
def lcEnd (h:Option Nat) (e1:Ev) (vs:List Nat):RE (List D)→RE X
  | .ok ds e=>.ok (.ow (.lst ds)) (unhid h e1 (restE (hideE h e1) e vs))
  | _=>.bad
def dLc (di:Ev→RE Its) (dg:D→Ev→Option Ev) (dt:Ev→RE Bool) (de:Ev→RE X) (vs:List Nat):Ev→RE X:=fun env=>(di env).bind fun xh e1=>if vs.all (freeSl (hideE xh.2 e1))=true then lcEnd xh.2 e1 vs (lcGo dg dt de vs xh.1 (O4 (hideE xh.2 e1) vs) []) else .bad
end Dn
namespace Dn
open PySem PySem.Spec PyProof.Rows L2
def ofX (env:Ev):X→Option Dn.Its
  | .im (.lst xs)=>some (xs,none)
  | .im (.tup xs)=>some (xs,none)
  | .im (.tupW xs)=>some (xs,none)
  | .im (.scr ns)=>some (ns.map D.int,none)
  | .im (.str z)=>some (z.cps.toList.map fun c=>D.str ⟨#[c]⟩,none)
  | .ow (.lst xs)=>some (xs,none)
  | .sl j=>match env[j]? with
    | some (.ow _ (.lst xs))=>some (xs,some j)
    | _=>none
  | _=>none
def diSeq (de:Ev→RE X):Ev→RE Dn.Its:=fun env=>(de env).bind fun x e1=>opt (ofX e1 x) e1
def rgOk (j:Int):Bool:=decide (j.natAbs.log2 < 62)
section
variable {K:Fg} [WD K] {W:WS} {M M' M1 M2:Hp} {env env' env1 env2:Ev} {σ σ' σ1:L2.St} {H H' H1 H2:Hp} {x y:X} {v u:V} {te:TE} {de:Ev→RE X} {ta:TA} {da:Ev→RE (List X)}
def pLen:List D→Option X
  | [.lst xs]=>some (.im (.int xs.length))
  | [.tup xs]=>some (.im (.int xs.length))
  | [.scr xs]=>some (.im (.int xs.length))
  | [.str z]=>if fit z.length then some (.im (.int z.length)) else none
  | _=>none
def pTuple:List D→Option X
  | [.lst xs]=>some (.im (.tup xs))
  | [.tup xs]=>some (.im (.tup xs))
  | _=>none
def isS:D→Bool
  | .str _=>true
  | _=>false
def dM1 (f:D→D→Option X) (da db:Ev→RE X):Ev→RE X:=fun env=>(da env).bind fun x e1=>if ((rd e1 x).map isS)=some true then (db e1).bind fun y e2=>opt ((rd e2 x).bind fun dx=>(rd e2 y).bind fun dy=>f dx dy) e2 else .bad
end
end Dn
namespace Dn
open PySem PySem.Spec PyProof.Rows L2
def CallF (CX:CXT) (P:Program) (w:World) (K:Fg) [WD K] (mg:Str→Option Value) (base:Heap) (k:Nat) (x:Str) (ps:List Str) (m:Ev→RE X):Prop:=
  ∃ f fd,mg x=some (.ref f)∧PySem.W.keepIn K (.ref f)=true∧Binds K fd ps []∧FnOk P w K mg base CX k f fd ps (spD K m)
theorem CallF.mono {CX:CXT} {P:Program} {w:World} {K:Fg} [WD K] {mg:Str→Option Value} {base:Heap} {j k:Nat} {x:Str} {ps:List Str} {m:Ev→RE X} (c:CallF CX P w K mg base j x ps m) (h:j≤k):CallF CX P w K mg base k x ps m:=by
  obtain ⟨f,fd,a,b,d,e⟩:=c
  exact ⟨f,fd,a,b,d,e.mono h⟩
end Dn
namespace Dn
open PySem PySem.Spec PyProof.Rows L2 TL
theorem aii {α:Type} {xs:List α} {i:Int} (h:0≤i):atI xs i=xs[i.toNat]?:=by
  unfold atI ixN
  rw [if_pos h]
  by_cases q:i < xs.length
  · rw [if_pos q]; rfl
  · rw [if_neg q,List.getElem?_eq_none (by omega)]; rfl
def LowS (w:Str):Prop:=∀ c∈w.cps.toList,97≤c∧c≤122
def WordS (w:Str):Prop:=1≤w.length∧w.length≤12∧LowS w
end Dn
namespace PySem
open Sem (wp)
open AutoSeq1 (wpAny_loadPart')
end PySem
namespace L2
open PySem PySem.Spec PyProof.Rows
end L2
namespace L2
open PySem PySem.Spec PyProof.Rows
end L2
namespace Dn
open PySem PySem.Spec PyProof.Rows L2
section
open Dn
variable {K:Fg} [WD K] {W:WS} {M M' M1 M2:Hp} {env env' env1 env2:Ev} {σ σ' σ1:L2.St} {H H' H1 H2:Hp} {x y:X} {v u:V} {te:TE} {de:Ev→RE X} {ta:TA} {da:Ev→RE (List X)}
def blsD:List D→Option (List Bool)
  | []=>some []
  | .bl b :: r=>(blsD r).map (b :: ·)
  | _ :: _=>none
def pAll:List D→Option X
  | [.lst xs]=>(blsD xs).map fun bs=>.im (.bl (bs.all id))
  | _=>none
end
end Dn
namespace Dn
open PySem PySem.Spec PyProof.Rows L2
def fzE (i:Nat) (env:Ev):Option Ev:=match env[i]? with
  | some (.im _)=>some env
  | some (.ow false o)=>o.toD.map fun d=>env.set i (.im d)
  | some .no=>some env
  | _=>none
def fzAll:List Nat→Ev→Option Ev
  | [],env=>some env
  | i :: is,env=>(fzE i env).bind (fzAll is)
def dFz (is:List Nat) (ds:Ev→RS):Ev→RS:=fun env=>match fzAll is env with
  | some e=>ds e
  | none=>.bad
end Dn
namespace Dn
open PySem PySem.Spec PyProof.Rows L2 NdefX
def PSsC (X:Cx) (c:Code) (st:List Stmt) (t:TS):Prop:=∀ (pins:List (Addr×Obj)) (s:Shared) (σ:L2.St) (H:Hp) (D:Ends),Inv X pins σ H s→t D σ H→_root_.PySem.wpAt (model X.prog X.w) X.A c (execs st X.env) (SP X pins D) X.xe s
structure FunC (K:Fg) (mf:Str) (D:Addr) (name qual:Str) (params:Arguments) (body:List Stmt) (scope:Scope) (f:Addr) (fd:FuncData):Prop where
  ex:∃ (oc cl:Value) (od cld:Option Addr) (kV doc pm:Value) (an:Option Addr) (ct:Value) (osl csl:Array (Option Value)) (cc cda:Addr) (cvs:Array Value) (ccl:Value) (cdd:Option Addr) (ccs:Array (Option Value)) (tf:Tok),
    fd=PySem.W.fnX name qual params body scope [("__class__",cc)] .none kV doc pm an (.ref cda) ct∧K.lookup f=some ⟨oc,od,.func fd,osl⟩∧PySem.W.codeIn K (.ref cda) qual=true∧
    K.lookup cc=some ⟨cl,cld,.cell (some (.ref D)),csl⟩∧K.lookup cda=some ⟨ccl,cdd,.fields cvs,ccs⟩∧cvs[2]?=some (.str mf tf)
  kp:PySem.W.keepIn K (.ref f)=true
abbrev nfC (name qual:Str) (params:Arguments) (body:List Stmt) (scope:Scope) (cc cda:Addr):NF:=⟨name,qual,params,body,scope,[("__class__",cc)],cda⟩
section
variable {CX:CXT} {P:Program} {w:World} {K:Fg} [WD K] {mg:Str→Option Value} {base:Heap} {N ps:List Str} {mf:Str} {D:Addr} {name qual:Str} {params:Arguments} {body:List Stmt} {scope:Scope} {f:Addr} {fd:FuncData} {k:Nat} {sp:Sp}
theorem FunC.ok (F:FunC K mf D name qual params body scope f fd) (S:NScope N ps ["__class__"] scope) (len:∀ vs H Q E,sp vs H Q E→vs.length=ps.length)
    (hbody:∀ (cc cda:Addr) (A:Around) (outer:List Env) (s:Shared) (H:Hp) (vs:List V) (Q:VK) (E:XK),Room k (A.deeper (envF (nfC name qual params body scope cc cda) f s.heap.objs.size))→sp vs H Q E→
      (∃ oc od osl kV doc pm an ct,K.lookup f=some ⟨oc,od,.func (PySem.W.fnX name qual params body scope [("__class__",cc)] .none kV doc pm an (.ref cda) ct),osl⟩)→(∃ cl cld csl,K.lookup cc=some ⟨cl,cld,.cell (some (.ref D)),csl⟩)→
      (∃ ccl cdd cvs ccs tf,K.lookup cda=some ⟨ccl,cdd,.fields cvs,ccs⟩∧cvs[2]?=some (.str mf tf))→
      ∃ t,PSsC (ncx CX P w K mg base N (nfC name qual params body scope cc cda) f A outer s H E) (.func body (envF (nfC name qual params body scope cc cda) f s.heap.objs.size)) body t∧t { nx:=fun _ H'=>Q .non H',rt:=Q } (startF N vs [some (.ref D)]) H):
    FnOk P w K mg base CX (k+1) f fd ps sp:=by
  obtain ⟨oc,cl,od,cld,kV,doc,pm,an,ct,osl,csl,cc,cda,cvs,ccl,cdd,ccs,tf,rfl,lk,hcd,hcell,hcda,hmf⟩:=F.ex
  refine ⟨len,fun A outer s H args us vs Q E hr e0 hb r hsp=>?_⟩
  have hl:=len _ _ _ _ hsp
  have KX:K.In s.heap:=e0.mod.kin.keeps fun b o e=>(e0.bs b o e).1
  have lim:s.heap.NoLimit:=e0.mod.nolimit.keeps fun b o e=>(e0.bs b o e).1
  refine codeAny_call_function hr.depth (KX _ _ lk) rfl S.co S.gen rfl (PySem.W.codeRec_of KX hcd) (hb _ _ _ _ ?_)
  refine wpAny_newFunctionEnv S.nocell (fun ⟨n,_⟩ hy=>S.par n (List.of_mem_zip hy).1) (fun h₁ hns hsb=>⟨lim.fresh _ hsb,?_⟩) S.kind
  have kp:∀ b o,s.heap.get? b=some o→h₁.get? b=some o:=fun b o e=>hsb.extBut b o (Nat.ne_of_lt (Heap.lt_size e)) (Heap.get?_push_of_some _ e)
  have hcc:base.get? cc=some ⟨cl,cld,.cell (some (.ref D)),csl⟩:=e0.mod.kin _ _ hcell
  have C:CellsAt [("__class__",cc)] ["__class__"] [some (.ref D)] s.heap H:=by
    refine ⟨rfl,fun y c e=>?_,fun x y c e1 e2=>?_,fun i y e=>?_⟩
    · have:c=cc:=by
        simp only [List.lookup] at e
        split at e <;> simp at e
        exact e.symm
      subst this
      exact ⟨(e0.bs _ _ hcc).2,_,_,(e0.bs _ _ hcc).1,rfl⟩
    · have f:∀ z,List.lookup z [(("__class__":Str),cc)]=some c→z="__class__":=fun z h=>by
        simp only [List.lookup] at h
        split at h
        · rename_i q; exact beq_iff_eq.mp q
        · simp at h
      rw [f x e1,f y e2]
    · cases i with
      | zero=>
        simp at e
        subst e
        exact ⟨cc,rfl,fun v hv=>by simp at hv; subst hv; exact ⟨.ref D,rfl,_,(e0.bs _ _ hcc).1,rfl⟩⟩
      | succ i=>simp at e
  obtain ⟨t,ht,hq⟩:=hbody cc cda A outer s H vs Q E (hr.deeper _) hsp ⟨_,_,_,_,_,_,_,_,lk⟩ ⟨_,_,_,hcell⟩ ⟨_,_,_,_,_,hcda,hmf⟩
  show codeAny _ _ (.func body (envF (nfC name qual params body scope cc cda) f s.heap.objs.size)) _ _
  have I:Inv (ncx CX P w K mg base N (nfC name qual params body scope cc cda) f A outer s H E) [] (startF N vs [some (.ref D)]) H { s with heap:=h₁,toks:=s.toks+(ps.zip us).length }:=inv_startN S hr.hd e0 hl r C hns kp
  refine ks_codeAny_funcAt (ks_wpAt_mono (ht [] _ _ H _ I hq) (fun fl s' hs=>?_) fun e s' hs=>hs)
  have fin:∀ {σ':L2.St} {H':Hp} {v:V} {u:Value},Inv (ncx CX P w K mg base N (nfC name qual params body scope cc cda) f A outer s H E) [] σ' H' s'→L2.RelV v u→Q v H'→CE outer P w H s Q u s':=
    fun {σ' H' v u} J rv q=>⟨v,H',J.os,J.bare,J.base,J.hok,rv,q⟩
  cases fl with
  | ret u=>
    obtain ⟨v,σ',H',J,rv,q⟩:=hs
    exact fin J rv q
  | next=>
    obtain ⟨σ',H',J,q⟩:=hs
    exact fin (v:=V.non) (u:=Value.none) J rfl q
  | brk=>
    obtain ⟨_,_,_,q⟩:=hs
    exact False.elim q
  | cont=>
    obtain ⟨_,_,_,q⟩:=hs
    exact False.elim q
end
end Dn
namespace Dn
open PySem PySem.Spec PyProof.Rows L2 NdefX
end Dn
namespace Dn
open PySem PySem.Spec PyProof.Rows L2 NdefX
def RE.calm {α:Type}:RE α→RE α
  | .exc _ _=>.bad
  | r=>r
end Dn
namespace Dn
open PySem PySem.Spec PyProof.Rows L2 NdefX
end Dn
namespace Dn
open PySem PySem.Spec PyProof.Rows L2 NdefX
def unSl (i:Nat) (env:Ev):Option Ev:=match env[i]? with
  | none=>none
  | some (.ow true _)=>none
  | some .hid=>none
  | some _=>some (env.set i .no)
def RS.un (oi:Option Nat) (r:RS):RS:=match oi with
  | none=>(match r with
    | .exc _ _=>.bad
    | r=>r)
  | some i=>(match r with
    | .nx e=>optS (unSl i e)
    | .rt x e=>.rt x e
    | .bk e=>(match unSl i e with
      | some e'=>.bk e'
      | none=>.bad)
    | .ct e=>(match unSl i e with
      | some e'=>.ct e'
      | none=>.bad)
    | _=>.bad)
end Dn
namespace Dn
open PySem PySem.Spec PyProof.Rows L2 NdefX
end Dn
namespace PySem.W
open PySem PySem.Spec PySem.Calls PyProof.Rows
end PySem.W
namespace Dn
open PySem PySem.Spec PyProof.Rows L2 NdefX
def fndB (K:Fg) (C:Value) (n:Str) (v:Option Value):Bool:=decide (PySem.W.findIn K C n=some v)
def excCB (K:Fg) (C:Addr):Bool:=fndB K (.ref C) "__getattribute__" (some (.builtin "BaseException.__getattribute__"))&&(fndB K (.ref C) "__getattr__" none&&(decide (PySem.W.subIn K (.ref C) (.type "BaseException")=some true)&&(PySem.W.hasDictIn K C&&(fndB K (.ref C) "__class__" (some (.builtin "object.__class__"))&&
  (decide (PySem.W.specialIn K (.builtin "object.__class__") "__get__"=some (some (.builtin "getset_descriptor.__get__")))&&(decide (PySem.W.takesIn K (.builtin "object.__class__")=some true)&&decide (PySem.W.mroIn K C (.type "object")=some true)))))))
def oexB (K:Fg) (C:Addr):Bool:=(match K.lookup C with
  | some ⟨.type "type",_,.cls cd,sl⟩=>(match cd.mro,sl.toList with
    | .ref C' :: bm,[_,_,_,_,some (.builtin n),_]=>C' == C&&(n == "ValueError.__new__"&&(!cd.hasDel&&(cd.hasDict&&PySem.HandSPX.refsVE bm)))
    | _,_=>false)
  | _=>false)&&(fndB K (.ref C) "__setattr__" (some (.builtin "object.__setattr__"))&&(decide (PySem.W.subIn K (.ref C) (.type "BaseException")=some true)&&(decide (PySem.W.typeIn K (.ref C)=some (.type "type"))&&PySem.W.keepIn K (.ref C))))
def oexSB (K:Fg) (C:Addr):Bool:=oexB K C&&(decide (PySem.W.subIn K (.ref C) (.type "ValueError")=some true)&&(decide (PySem.W.mroIn K C (.ref C)=some true)&&(decide (PySem.W.ks_superIn K C C "__init__"=some (some (.builtin "ValueError.__init__")))&&decide (PySem.W.nsIn K cStatics "thirdparty.any"=some none))))
inductive Fx where
  | oex (c:Str) | exc (c:Str) | noat (c f:Str) | exm (c d:Str) (b:Bool) | kit (c d:Str) (b:Bool) | kitT (c:Str) (n:String) (b:Bool) | ini (c:Str)
  | any (f:Fg→Bool)
def Fx.ok (K:Fg):Fx→Bool
  | .any f=>f K
  | .oex c=>oexSB K (He.ga K c)
  | .exc c=>excCB K (He.ga K c)
  | .noat c f=>fndB K (.ref (He.ga K c)) f none
  | .exm c d b=>decide (PySem.W.exmOne K (.ref (He.ga K c)) (.ref (He.ga K d))=some b)
  | .kit c d b=>decide (PySem.W.kitOne K (.ref (He.ga K c)) (.ref (He.ga K d))=some b)
  | .kitT c n b=>decide (PySem.W.kitOne K (.ref (He.ga K c)) (.type n)=some b)
  | .ini c=>decide (PySem.W.findIn K (.ref (He.ga K c)) "__init__"=some (some (.ref (He.ma K (He.ga K c) "__init__"))))&&decide (PySem.W.typeIn K (.ref (He.ma K (He.ga K c) "__init__"))=some (.type "function"))
structure FnS where
  cls:Str
  name:Str
  qual:Str
  params:Arguments
  body:List Stmt
  scope:Scope
  kind:Nat:=0
  dfl:List He.Dv:=[]
  kwd:List (Str×He.Dv):=[]
def FnS.dvs (K:Fg) (d:FnS):List V:=d.dfl.map (He.Dv.v K)
def FnS.kws (K:Fg) (d:FnS):List (Str×V):=d.kwd.map fun q=>(q.1,q.2.v K)
def dsA (K:Fg) (T:String) (C:Addr) (m:Str):Addr:=match PySem.W.findIn K (.ref C) m with
  | some (some (.ref p))=>(match PySem.W.recIn K p T with
    | some (.ref g :: _)=>g
    | _=>C)
  | _=>C
abbrev pgA (K:Fg) (C:Addr) (m:Str):Addr:=dsA K "property" C m
abbrev cmA (K:Fg) (C:Addr) (m:Str):Addr:=dsA K "classmethod" C m
def psA (K:Fg) (C:Addr) (m:Str):Addr:=match PySem.W.findIn K (.ref C) m with
  | some (some (.ref p))=>(match PySem.W.recIn K p "property" with
    | some (_ :: .ref g :: _)=>g
    | _=>C)
  | _=>C
def FnS.adr (K:Fg) (d:FnS):Addr:=match d.kind with
  | 0=>He.ma K (He.ga K d.cls) d.name
  | 1=>pgA K (He.ga K d.cls) d.name
  | 3=>psA K (He.ga K d.cls) d.name
  | _=>cmA K (He.ga K d.cls) d.name
abbrev FnSV:Type:=Option (Str×Str×Arguments×FuncBody×Scope×Addr×Addr)
def fnS (K:Fg) (d:FnS):FnSV:=match K.lookup (d.adr K) with
  | some ⟨_,_,.func fd,_⟩=>some (fd.name,fd.qualname,fd.params,fd.body,fd.scope,fd.globals,fd.builtins)
  | _=>none
def FnS.val (d:FnS):FnSV:=some (d.name,d.qual,d.params,.stmts d.body,d.scope,mainGlobals,builtinsNs)
def FnS.ok (mf:Str) (K:Fg) (d:FnS):Bool:=PySem.W.keepIn K (.ref (d.adr K))&&(match K.lookup (d.adr K) with
  | some ⟨_,_,.func fd,_⟩=>bif d.kind !=0 then fd.closure.isEmpty&&(PySem.W.codeIn K fd.code d.qual&&(He.dflB K fd.defaults (d.dvs K)&&He.kwdB K fd.kwdefaults (d.kws K))) else (match fd.defaults,fd.closure,fd.code with
    | .none,[(x,cc)],.ref cda=>(x == ("__class__":Str))&&(PySem.W.codeIn K (.ref cda) d.qual&&((match K.lookup cc with
      | some ⟨_,_,.cell (some (.ref D)),_⟩=>D == He.ga K d.cls
      | _=>false)&&(match K.lookup cda with
        | some ⟨_,_,.fields vs,_⟩=>(match vs[2]? with
          | some (Value.str f _)=>decide (f=mf)
          | _=>false)
        | _=>false)))
    | _,_,_=>false)
  | _=>false)
theorem FnS.funC {K:Fg} [WD K] {mf:Str} {d:FnS} (hk:d.kind=0) (e:fnS K d=d.val) (c:d.ok mf K=true):∃ fd,FunC K mf (He.ga K d.cls) d.name d.qual d.params d.body d.scope (He.ma K (He.ga K d.cls) d.name) fd:=by
  obtain ⟨kp,c2⟩:=He.ba c
  have hk2:(d.kind !=0)=false:=by rw [hk]; rfl
  have ha:d.adr K=He.ma K (He.ga K d.cls) d.name:=by unfold FnS.adr; rw [hk]; rfl
  rw [hk2] at c2
  unfold fnS at e
  rw [ha] at kp c2 e
  cases q:K.lookup (He.ma K (He.ga K d.cls) d.name) with
  | none=>
    rw [q] at c2
    cases c2
  | some o=>
    obtain ⟨oc,od,dt,osl⟩:=o
    rw [q] at c2 e
    cases dt with
    | func fd=>
      obtain ⟨n1,n2,n3,n4,n5,n6,n7,n8,n9,n10,n11,n12,n13,n14,n15⟩:=fd
      have e2:(some (n1,n2,n3,n4,n5,n6,n15):FnSV)=some (d.name,d.qual,d.params,.stmts d.body,d.scope,mainGlobals,builtinsNs):=e
      simp only [Option.some.injEq,Prod.mk.injEq] at e2
      obtain ⟨h1,h2,h3,h4,h5,h6,h7⟩:=e2
      subst h1 h2 h3 h4 h5 h6 h7
      dsimp only at c2
      rw [cond_false] at c2
      split at c2
      · rename_i x cc cda
        simp only [Bool.and_eq_true,beq_iff_eq] at c2
        obtain ⟨rfl,k1,k2,k3⟩:=c2
        split at k2
        · rename_i cl cld D csl hcc
          have k2:D=He.ga K d.cls:=by simpa using k2
          subst k2
          split at k3
          · rename_i ccl cdd vs ccs hcda
            split at k3
            · rename_i f tf hv
              have k3:f=mf:=of_decide_eq_true k3
              subst k3
              exact ⟨_,⟨oc,cl,od,cld,n9,n10,n11,n12,n14,osl,csl,cc,cda,vs,ccl,cdd,ccs,tf,rfl,q,k1,hcc,hcda,hv⟩,kp⟩
            · cases k3
          · cases k3
        · cases k2
      · cases c2
    | _=>cases c2
abbrev AlX:Type:=He.AlD×Bool×List FnSV
def obsX (mf:Str) (fa:List He.Fa) (fn:List He.DefD) (fx:List Fx) (fs:List FnS) (K:Fg):AlX:=(He.obsD fa fn K,(fx.all fun f=>f.ok K)&&fs.all fun d=>d.ok mf K,fs.map (fnS K))
def valX (fn:List He.DefD) (fs:List FnS):AlX:=(He.valD fn,true,fs.map FnS.val)
def SaysX (mf:Str) (fa:List He.Fa) (fn:List He.DefD) (fx:List Fx) (fs:List FnS) (K:Fg):Prop:=obsX mf fa fn fx fs K=valX fn fs
section
variable {mf:Str} {fa:List He.Fa} {fn:List He.DefD} {fx:List Fx} {fs:List FnS} {K:Fg} [WD K]
theorem SaysX.mem (c:SaysX mf fa fn fx fs K) {f:Fx} (h:f∈fx):f.ok K=true:=by
  have c1:=(He.ba (show ((fx.all fun f=>f.ok K)&&fs.all fun d=>d.ok mf K)=true from congrArg (fun z:AlX=>z.2.1) c)).1
  exact List.all_eq_true.mp c1 f h
theorem SaysX.meth (c:SaysX mf fa fn fx fs K) (i:Nat) {d:FnS} (h:fs[i]?=some d:=by rfl) (hk:d.kind=0:=by rfl):∃ fd,FunC K mf (He.ga K d.cls) d.name d.qual d.params d.body d.scope (He.ma K (He.ga K d.cls) d.name) fd:=by
  have c2:=(He.ba (show ((fx.all fun f=>f.ok K)&&fs.all fun d=>d.ok mf K)=true from congrArg (fun z:AlX=>z.2.1) c)).2
  have e:fs.map (fnS K)=fs.map FnS.val:=congrArg (fun z:AlX=>z.2.2) c
  have e2:(fs.map (fnS K))[i]?=(fs.map FnS.val)[i]?:=by rw [e]
  rw [List.getElem?_map,List.getElem?_map,h] at e2
  exact FnS.funC hk (Option.some.inj e2) (List.all_eq_true.mp c2 d (List.mem_of_getElem? h))
end
end Dn
namespace Dn
open PySem PySem.Spec PyProof.Rows L2 NdefX
def RS.calm:RS→RS
  | .exc _ _=>.bad
  | r=>r
abbrev XTab:=List ((Str×Str)×Bool)
def XTab.get (t:XTab) (c C:Str):Option Bool:=t.lookup (c,C)
abbrev XTab2:=List ((Str×String)×Bool)
def XTab2.get (t:XTab2) (c:Str) (C:String):Option Bool:=t.lookup (c,C)
theorem lookup_mem {α β:Type} [BEq α] [LawfulBEq α] {a:α} {b:β}:∀ {t:List (α×β)},t.lookup a=some b→(a,b)∈t
  | [],e=>nomatch e
  | (a',b') :: t,e=>by
    rw [List.lookup_cons] at e
    cases q:(a == a') with
    | true=>
      rw [q] at e
      cases e
      rw [eq_of_beq q]
      exact List.mem_cons_self
    | false=>
      rw [q] at e
      exact List.mem_cons_of_mem _ (lookup_mem e)
end Dn
namespace Dn
open PySem PySem.Spec PyProof.Rows L2
end Dn
namespace Dn
open PySem PySem.Spec PyProof.Rows L2 NdefX
def callD (m:Ev→RE X) (xs:List X) (env:Ev):RE X:=match passXs env xs with
  | none=>.bad
  | some ps=>if (slots xs).Nodup∧temps xs≤1 then match m ps with
      | .ok y ps'=>.ok y (wb xs ps' env)
      | .exc e ps'=>.exc e (wb xs ps' env)
      | .bad=>.bad
    else .bad
def KX (K:Fg) [WD K] (E:XK) (M:Hp) (σ:L2.St) (H:Hp) (env:Ev) (Q:VK):RE X→Prop
  | .ok y env2=>∀ v M' H',Grow M env σ H M' env2 σ H'→Shape env env2→Holds K M' env2 σ H'→RX K σ H M' H' env2 y v→Q v H'
  | .exc e env2=>∀ cls d M' H',Grow M env σ H M' env2 σ H'→Shape env env2→Holds K M' env2 σ H'→RepE K M' H' e cls d→E cls d H'
  | .bad=>False
section
variable {K:Fg} [WD K] {W:WS} {E:XK} {M M' M1 M2:Hp} {env env' env1 env2:Ev} {σ σ' σ1:L2.St} {H H' H1 H2:Hp} {x y:X} {v u:V} {xs:List X} {vs:List V} {m:Ev→RE X} {Q:VK}
def recvX (env:Ev):X→Option (Str×List (Str×D))
  | .im (.obj c fs)=>some (c,fs)
  | .sl i=>match env[i]? with
    | some (.ow _ (.ob c fs))=>some (c,fs)
    | _=>none
  | _=>none
def MethF (CX:CXT) (P:Program) (w:World) (K:Fg) [WD K] (mg:Str→Option Value) (base:Heap) (k:Nat) (c m:Str) (den:Ev→RE X):Prop:=
  ∃ f,Cls K (He.ga K c)∧Meth K (He.ga K c) m f∧FnR P w K mg base CX k f (spD K den)∧NoSl den
theorem MethF.mono {CX:CXT} {P:Program} {w:World} {K:Fg} [WD K] {mg:Str→Option Value} {base:Heap} {j k:Nat} {c m:Str} {den:Ev→RE X} (h:MethF CX P w K mg base j c m den) (l:j≤k):MethF CX P w K mg base k c m den:=by
  obtain ⟨f,h1,h2,h4,h5⟩:=h
  exact ⟨f,h1,h2,h4.mono l,h5⟩
abbrev MTab:=List (Str×(Ev→RE X))
def MTab.get (t:MTab) (c:Str):Option (Ev→RE X):=t.lookup c
def dMethF (tab:Str→Option (Ev→RE X)) (m:Str) (do_:Ev→RE X) (da:Ev→RE (List X)):Ev→RE X:=fun env=>(do_ env).bind fun x e1=>match recvX e1 x with
  | none=>.bad
  | some (c,fs)=>match tab c with
    | none=>.bad
    | some den=>if (fs.lookup m).isNone=true then (da e1).bind fun xs e2=>callD den (x :: xs) e2 else .bad
end
end Dn
namespace Dn
open PySem PySem.Spec PyProof.Rows L2 NdefX
def rcvA (env:Ev):X→Option (Str×List (Str×D))
  | .ow (.ob c fs)=>some (c,fs)
  | x=>recvX env x
section
variable {K:Fg} [WD K] {W:WS} {E:XK} {M M' M1 M2:Hp} {env env' env1 env2:Ev} {σ σ' σ1:L2.St} {H H' H1 H2:Hp} {x y:X} {v u:V} {xs:List X} {vs:List V} {m:Ev→RE X} {Q:VK} {te tv:TE} {de dv:Ev→RE X} {T:List Str}
def ad2 (T:List Str) (f:Str) (de:Ev→RE X):Ev→RE X:=fun env=>(de env).bind fun x e1=>match rcvA e1 x with
  | some (c,fs)=>if c∈T then (match fs.lookup f with
    | some d=>.ok (.im d) e1
    | none=>.bad) else .bad
  | none=>.bad
def putFD (f:Str) (v:D):List (Str×D)→List (Str×D)
  | []=>[(f,v)]
  | (g,x) :: r=>if g=f then (g,v) :: r else (g,x) :: putFD f v r
end
end Dn
namespace PySem.W
open PySem PySem.Spec PySem.Calls PyProof.Rows
end PySem.W
namespace Dn
open PySem PySem.Spec PyProof.Rows L2 NdefX
section
variable {K:Fg} [WD K] {W:WS} {E:XK} {M M' M1 M2:Hp} {env env' env1 env2:Ev} {σ σ' σ1:L2.St} {H H' H1 H2:Hp} {x y:X} {v u:V} {xs:List X} {vs:List V} {Q:VK} {ta tb:TE} {da db:Ev→RE X}
def RE.bl (neg:Bool):RE X→RE X
  | .ok (.im (.bl b)) e=>.ok (.im (.bl (if neg then !b else b))) e
  | .exc c e=>.exc c e
  | _=>.bad
end
end Dn
namespace Dn
open PySem PySem.Spec PyProof.Rows L2 NdefX
end Dn
namespace Dn
open PySem PySem.Spec PyProof.Rows L2 NdefX StX
end Dn
namespace Dn
open PySem PySem.Spec PyProof.Rows L2 NdefX
abbrev CTab:=List (Str×D)
def CTab.get (t:CTab) (c:Str):Option D:=t.lookup c
end Dn
namespace Dn
open PySem PySem.Spec PyProof.Rows L2 NdefX
end Dn
namespace Dn
open PySem PySem.Spec PyProof.Rows L2 NdefX
theorem MTab.mem {t:MTab} {c:Str} {den:Ev→RE X} (h:t.get c=some den):(c,den)∈t:=lookup_mem h
def clsB (K:Fg) (c:Str):Bool:=(He.Fa.cls c).ok K
def fldB (K:Fg) (f:Str) (T:List Str):Bool:=T.all fun c=>clsB K c&&fndB K (.ref (He.ga K c)) f none
end Dn
namespace Dn
open PySem PySem.Spec PyProof.Rows L2
end Dn
namespace Dn
open PySem PySem.Spec PyProof.Rows L2
end Dn
namespace Dn
open PySem PySem.Spec PyProof.Rows L2
inductive Src (α:Type) where
  | a (i:Nat) | d (v:α)
def arr {α β:Type} (f:β→α):List (Src β)→List α→Option (List α)
  | [],_=>some []
  | .a i :: r,xs=>(xs[i]?).bind fun x=>(arr f r xs).map (x :: ·)
  | .d v :: r,xs=>(arr f r xs).map (f v :: ·)
def DvR (K:Fg) [WD K] (d:D) (v:V):Prop:=∀ M,Rep K M d v
inductive SrcR (K:Fg) [WD K]:Src D→Src V→Prop where
  | a (i:Nat):SrcR K (.a i) (.a i)
  | d {d:D} {v:V} (h:DvR K d v):SrcR K (.d d) (.d v)
end Dn
namespace Dn
open PySem PySem.Spec PyProof.Rows L2
def CallG (CX:CXT) (P:Program) (w:World) (K:Fg) [WD K] (mg:Str→Option Value) (base:Heap) (k:Nat) (x:Str) (st:Stmt) (dvs:List V) (kws:List (Str×V)) (ps:List Str) (m:Ev→RE X):Prop:=
  ∃ f fd,mg x=some (.ref f)∧PySem.W.keepIn K (.ref f)=true∧FunD K x x (defArgs st) (defBody st) (defScope st) dvs kws f fd∧FnOk P w K mg base CX k f fd ps (spD K m)
section
variable {P:Program} {w:World} {K:Fg} [WD K] {mg:Str→Option Value} {base:Heap} {CX:CXT} {X:Cx} {k n:Nat} {ps ks:List Str} {E:L2.St→XK} {x:Str} {st:Stmt} {dvs:List V} {kds:List (Str×V)} {p pos:Pos} {e:Expr} {es:List Expr} {kws:List Keyword} {t tk:TA} {gV:List V→List V→List V} {m:Ev→RE Dn.X}
theorem CallG.mono {j:Nat} (c:CallG CX P w K mg base j x st dvs kds ps m) (h:j≤k):CallG CX P w K mg base k x st dvs kds ps m:=by
  obtain ⟨f,fd,a,b,d,e⟩:=c
  exact ⟨f,fd,a,b,d,e.mono h⟩
end
end Dn
namespace Dn
open PySem PySem.Spec PyProof.Rows L2
end Dn
namespace Dn
open PySem PySem.Spec PyProof.Rows L2
end Dn
namespace Dn
open PySem PySem.Spec PyProof.Rows L2
end Dn
namespace Dn
open PySem PySem.Spec PyProof.Rows L2
end Dn
namespace Dn
open PySem PySem.Spec PyProof.Rows L2
def Key.toD:Key→D
  | .inl i=>.int i
  | .inr x=>.str x
section
variable {K:Fg} [WD K] {W:WS} {M M' M1 M2:Hp} {env env' env1 env2:Ev} {σ σ' σ1:L2.St} {H H' H1 H2:Hp} {x y:X} {v u:V} {te td ty tx:TE} {de dd dy dx:Ev→RE X}
theorem Rd2.dk {kvs:List (Key×D)} (h:Rd2 K M H (.dk kvs) v) (s:Same M H):∃ a o vs,v=.ref a∧H a=some (obO a o)∧DkF K a o vs∧RepK K M kvs vs:=by
  rcases h with h | ⟨l,o,e1,a,e⟩
  · simp only [Rep] at h
    obtain ⟨a,o,vs,h1,h2,h3,h4⟩:=h
    exact ⟨a,o,vs,h1,s _ _ h2,h3,aeg.mp h4⟩
  · cases o with
    | dk xs=>
      cases e
      obtain ⟨o,vs,h1,h2,h3⟩:=a
      exact ⟨l,o,vs,e1,h1,h2,h3⟩
    | _=>cases e
theorem Rd2.dt {kvs:List (List Key×D)} (h:Rd2 K M H (.dt kvs) v) (s:Same M H):∃ a o vs,v=.ref a∧H a=some (obO a o)∧DtF K a o vs∧RepT K M kvs vs:=by
  rcases h with h | ⟨l,o,e1,a,e⟩
  · simp only [Rep] at h
    obtain ⟨a,o,vs,h1,h2,h3,h4⟩:=h
    exact ⟨a,o,vs,h1,s _ _ h2,h3,aeh.mp h4⟩
  · cases o with
    | dt xs=>
      cases e
      obtain ⟨o,vs,h1,h2,h3⟩:=a
      exact ⟨l,o,vs,e1,h1,h2,h3⟩
    | _=>cases e
end
end Dn
namespace Dn
open PySem PySem.Spec PyProof.Rows L2
end Dn
namespace Dn
open PySem PySem.Spec PyProof.Rows L2
end Dn
namespace Dn
open PySem PySem.Spec PyProof.Rows L2
end Dn
namespace Dn
open PySem PySem.Spec PyProof.Rows L2
end Dn
namespace Dn
open PySem PySem.Spec PyProof.Rows L2
end Dn
namespace Dn
open PySem PySem.Spec PyProof.Rows L2
end Dn
namespace Dn
open PySem PySem.Spec PyProof.Rows L2
end Dn
namespace Dn
open PySem PySem.Spec PyProof.Rows L2 NdefX
section
variable {X:Cx} {CX:CXT} {K:Fg} [WD K] {P:Program} {w:World} {mg:Str→Option Value} {base:Heap} {k:Nat} {tab:Str→Option (Ev→RE Dn.X)} {E:L2.St→XK} {m:Str} {pos:Pos} {o b:Expr} {ta tb:TE} {R:List Str}
def PropF (CX:CXT) (P:Program) (w:World) (K:Fg) [WD K] (mg:Str→Option Value) (base:Heap) (k:Nat) (c m:Str) (den:Ev→RE Dn.X):Prop:=
  ∃ p g,Cls K (He.ga K c)∧PropOf K (He.ga K c) m p g∧FnR P w K mg base CX k g (spD K den)∧NoSl den
theorem PropF.mono {j k:Nat} {c m:Str} {den:Ev→RE Dn.X} (h:PropF CX P w K mg base j c m den) (l:j≤k):PropF CX P w K mg base k c m den:=by
  obtain ⟨p,g,h1,h2,h4,h5⟩:=h
  exact ⟨p,g,h1,h2,h4.mono l,h5⟩
end
end Dn
namespace Dn
open PySem PySem.Spec PyProof.Rows L2
end Dn
namespace Dn
open PySem PySem.Spec PyProof.Rows L2
end Dn
namespace Dn
open PySem PySem.Spec PyProof.Rows L2
end Dn
namespace PySem.W
open PySem PySem.Spec PySem.Calls PyProof.Rows
end PySem.W
namespace Dn
open PySem PySem.Spec PyProof.Rows L2 NdefX
end Dn
namespace Dn
open PySem PySem.Spec PyProof.Rows L2
def wps:List Nat→Ev→Option Ev
  | [],env=>some env
  | i :: is,env=>(unSl i env).bind (wps is)
def RS.wp (is:List Nat):RS→RS
  | .nx e=>optS (wps is e)
  | .bk e=>(match wps is e with
    | some e'=>.bk e'
    | none=>.bad)
  | .ct e=>(match wps is e with
    | some e'=>.ct e'
    | none=>.bad)
  | r=>r
def dWp (is:List Nat) (ds:Ev→RS):Ev→RS:=fun env=>(ds env).wp is
end Dn
namespace Dn
open PySem PySem.Spec PyProof.Rows L2
end Dn
namespace Dn
open PySem PySem.Spec PyProof.Rows L2
end Dn
namespace Dn
open PySem PySem.Spec PyProof.Rows L2
end Dn
namespace Dn
open PySem PySem.Spec PyProof.Rows L2 NdefX
end Dn
namespace Dn
open PySem PySem.Spec PyProof.Rows L2
end Dn
namespace Dn
open PySem PySem.Spec PyProof.Rows L2
def dedB:List Addr→Nat→List Addr×Nat
  | [],s=>([],s)
  | a :: r,s=>bif Nat.beq (Nat.land 1 (Nat.shiftRight s a)) 1 then dedB r s else match dedB r (Nat.lor s (Nat.shiftLeft 1 a)) with
    | (l,t)=>(a :: l,t)
def refG (g:Addr→Option Obj) (a:Addr):List Addr:=match g a with
  | some o=>He.refsD o
  | none=>[]
def goB (g:Addr→Option Obj):Nat→List Addr→Nat→List Addr
  | 0,_,_=>[]
  | n+1,fr,s=>match dedB (fr.flatMap (refG g)) s with
    | (l,t)=>l++goB g n l t
def rootsB (g:Addr→Option Obj) (ns:List Str):List Addr:=match g mainGlobals with
  | some ⟨_,_,.dict es _,_⟩=>es.toList.flatMap fun e=>bif ns.any e.key.isStr then He.refV e.val else []
  | _=>[]
def asY (g:Addr→Option Obj) (ns:List Str) (n:Nat):List Addr:=match dedB (rootsB g ns) (Nat.lor (Nat.shiftLeft 1 mainGlobals) (Nat.shiftLeft 1 cStatics)) with
  | (l,t)=>cStatics :: mainGlobals :: (l++goB g n l t)
def obsYG (ns:List Str) (n:Nat) (mf:Str) (fa:List He.Fa) (fn:List He.DefD) (fx:List Fx) (fs:List FnS) (g:Addr→Option Obj):AlX:=obsX mf fa fn fx fs (He.frG g (asY g ns n))
def hookY (ns:List Str) (n:Nat) (mf:Str) (fa:List He.Fa) (fn:List He.DefD) (fx:List Fx) (fs:List FnS):PySem.W.Hook where
  α:=AlX
  obs:=fun s=>obsYG ns n mf fa fn fx fs s.heap.get?
  val:=fun _=>valX fn fs
  says:=fun _ h=>∃ K:PySem.W.Frag,K.In h∧SaysX mf fa fn fx fs K
  of:=fun _ _ e=>⟨_,He.frG_in,e⟩
  keeps:=fun _ _ _ ⟨K,hK,c⟩ k=>⟨K,PySem.W.Frag.In.keeps hK k,c⟩
end Dn
namespace Dn
open PySem PySem.Spec PyProof.Rows L2
end Dn
namespace Dn
open PySem PySem.Spec PyProof.Rows L2
end Dn
namespace Dn
open PySem PySem.Spec PyProof.Rows L2
end Dn
namespace Dn
open PySem PySem.Spec PyProof.Rows L2
def pSplit:D→D→Option X
  | .str a,.str b=>if (b.length == 0)=false∧fit (a.length+2)=true then some (.ow (.lst ((Txt.split a b).map D.str))) else none
  | _,_=>none
section
variable {K:Fg} [WD K]
theorem Fin.tupW {M H:Hp} {xs:List D} {vs:List V} {Q:VK} (q:Fin K M H (.im (.tupW xs)) Q) (h:Same M H) (r:Reps K M xs vs) {p:Addr} (n:H p=none):Q (.ref p) (upd H p (.tup vs)):=by
  have e:=aiY h (o:=.tup vs) n
  refine q.im e ?_
  exact aoF (.inl (.inl upd_same)) (Reps.mono e.exM _ _ r)
def pIntT:List D→Option X
  | [.str a]=>if a.length≤640 then (PySem.intText? a).map fun n=>.im (.int n) else none
  | _=>none
end
end Dn
namespace Dn
open PySem PySem.Spec PyProof.Rows L2
end Dn
namespace Dn
open PySem PySem.Spec PyProof.Rows L2
end Dn
namespace Dn
open PySem PySem.Spec PyProof.Rows L2 NdefX StX
end Dn
namespace Dn
open PySem PySem.Spec PyProof.Rows L2 GenW
end Dn
namespace Dn
open PySem PySem.Spec PyProof.Rows L2 GenW
end Dn
namespace Dn
open PySem PySem.Spec PyProof.Rows L2 GenW
end Dn
namespace Dn
open PySem PySem.Spec PyProof.Rows L2 NdefX
end Dn
namespace Dn
open PySem PySem.Spec PyProof.Rows L2 NdefX
end Dn
namespace Dn
open PySem PySem.Spec PyProof.Rows L2
end Dn
namespace Dn
open PySem PySem.Spec PyProof.Rows L2
end Dn
namespace Dn
open PySem PySem.Spec PyProof.Rows L2
end Dn
namespace Dn
open PySem PySem.Spec PyProof.Rows L2 StX
end Dn
namespace Dn
open PySem PySem.Spec PyProof.Rows L2 StX
structure DyRow (CX:CXT) (P:Program) (w:World) (K:Fg) [WD K] (mg:Str→Option Value) (base:Heap) (k:Nat) (f:Str) (n:Nat) (src:List (Src D)) (srv:List (Src V)) (m:Ev→RE X):Prop where
  rel:Paired (SrcR K) src srv
  run:∃ gV:List V→List V,(∀ vs,vs.length=n→arr id srv vs=some (gV vs))∧FnR P w K mg base CX k (He.ga K f) (fun vs H Q E=>vs.length=n∧spD K m (gV vs) H Q E)
  ns:NoSl m
  kp:PySem.W.keepIn K (.ref (He.ga K f))=true
theorem DyRow.mono {CX:CXT} {P:Program} {w:World} {K:Fg} [WD K] {mg:Str→Option Value} {base:Heap} {j k:Nat} {f:Str} {n:Nat} {src:List (Src D)} {srv:List (Src V)} {m:Ev→RE X} (h:DyRow CX P w K mg base j f n src srv m) (l:j≤k):DyRow CX P w K mg base k f n src srv m:=by
  obtain ⟨h1,⟨gV,h2,h3⟩,h4,h5⟩:=h
  exact ⟨h1,⟨gV,h2,h3.mono l⟩,h4,h5⟩
end Dn
namespace Dn
open PySem PySem.Spec PyProof.Rows L2 NdefX
def Qt (n:Nat) (env:Ev):Prop:=∀ i s,n≤i→env[i]?=some s→∃ d,s=Sl.im d
structure Sm (n:Nat) (e1:Ev) (σ1:L2.St) (e2:Ev) (σ2:L2.St):Prop where
  e:∀ i,i < n→e1[i]?=e2[i]?
  s:∀ i,i < n→σ1[i]?=σ2[i]?
  q1:Qt n e1
  q2:Qt n e2
theorem Sm.symm {n:Nat} {e1 e2:Ev} {σ1 σ2:L2.St} (h:Sm n e1 σ1 e2 σ2):Sm n e2 σ2 e1 σ1:=⟨fun i hi=>(h.e i hi).symm,fun i hi=>(h.s i hi).symm,h.q2,h.q1⟩
end Dn
namespace Dn
open PySem PySem.Spec PyProof.Rows L2 NdefX
structure SetPr (K:Fg) (C:Addr) (f:Str) (p g:Addr):Prop where
  at_:PySem.W.takerIn K C f=some (some (.ref p))
  ty:PySem.W.typeIn K (.ref p)=some (.type "property")
  rec_:∃ a rest,PySem.W.recIn K p "property"=some (a :: .ref g :: rest)
def SetF (CX:CXT) (P:Program) (w:World) (K:Fg) [WD K] (mg:Str→Option Value) (base:Heap) (k:Nat) (c m:Str) (den:Ev→RE Dn.X):Prop:=
  ∃ p g,Cls K (He.ga K c)∧SetPr K (He.ga K c) m p g∧FnR P w K mg base CX k g (spD K den)∧NoSl den
section
variable {CX:CXT} {P:Program} {w:World} {K:Fg} [WD K] {mg:Str→Option Value} {base:Heap} {X:Cx} {tab:Str→Option (Ev→RE Dn.X)} {E:L2.St→XK} {m:Str} {o value:Expr} {pos pos':Pos} {i j k:Nat}
theorem SetF.mono {j k:Nat} {c m:Str} {den:Ev→RE Dn.X} (h:SetF CX P w K mg base j c m den) (l:j≤k):SetF CX P w K mg base k c m den:=by
  obtain ⟨p,g,h1,h2,h4,h5⟩:=h
  exact ⟨p,g,h1,h2,h4.mono l,h5⟩
end
end Dn
namespace Dn
open PySem PySem.Spec PyProof.Rows L2 NdefX
end Dn
namespace Dn
open PySem PySem.Spec PyProof.Rows L2 NdefX
end Dn
namespace Dn
open PySem PySem.Spec PyProof.Rows L2
end Dn
namespace Dn
open PySem PySem.Spec PyProof.Rows L2
end Dn
namespace Dn
open PySem PySem.Spec PyProof.Rows L2 NdefX PySem.Calls PyProof.V
end Dn
namespace Dn
open PySem PySem.Spec PyProof.Rows L2
end Dn
namespace Dn
open PySem PySem.Spec PyProof.Rows L2
end Dn
namespace Dn
open PySem PySem.Spec PyProof.Rows L2
end Dn
namespace Dn
open PySem PySem.Spec PyProof.Rows L2
end Dn
namespace Dn
end Dn
namespace Dn
open PySem PySem.Spec PyProof.Rows L2
mutual
def noL:D→Bool
  | .non=>true | .bl _=>true | .int _=>true | .str _=>true | .ty _=>true | .cls _=>true
  | .tup xs=>noLs xs
  | .obj _ fs=>noLf fs
  | _=>false
def noLs:List D→Bool
  | []=>true
  | x :: xs=>noL x&&noLs xs
def noLf:List (Str×D)→Bool
  | []=>true
  | (_,x) :: xs=>noL x&&noLf xs
end
end Dn
namespace Dn
open PySem PySem.Spec PyProof.Rows L2
def FnQ (P:Program) (w:World) (K:PySem.W.Frag) (mg:Str→Option Value) (base:Heap) (CX:CXT) (k:Nat) (f:Addr) (sp:Sp):Prop:=
  ∀ (A:Around) (outer:List Env) (s:Shared) (H:Hp) (us:List Value) (vs:List V) (Q:VK) (E:XK),L2H.RoomH k A→Env0 P w K mg base A outer s H→Vals vs us→sp vs H Q E→
    codeAny (model P w) A (.call (.ref f) ⟨us,[]⟩) (CR CX outer P w H s Q E) s
theorem FnQ.mono {P:Program} {w:World} {K:PySem.W.Frag} {mg:Str→Option Value} {base:Heap} {CX:CXT} {j k:Nat} {f:Addr} {sp:Sp} (F:FnQ P w K mg base CX j f sp) (h:j≤k):FnQ P w K mg base CX k f sp:=
  fun A outer s H us vs Q E hr=>F A outer s H us vs Q E (hr.mono h)
end Dn
namespace Dn
open PySem PySem.Spec PyProof.Rows L2
end Dn
namespace Dn
open PySem PySem.Spec PyProof.Rows L2
end Dn
namespace Dn
open PySem PySem.Spec PyProof.Rows L2
end Dn
namespace Dn
open PySem PySem.Spec PyProof.Rows L2
def dAugF (T:List Str) (i:Nat) (f:Str) (n:Int):Ev→RS:=fun env=>match env[i]? with
  | some (.ow p (.ob c fs))=>(match fs.lookup f with
    | some (.int z)=>if c∈T∧fs.length < 900 then .nx (env.set i (.ow p (.ob c (putFD f (.int (z+n)) fs)))) else .bad
    | _=>.bad)
  | _=>.bad
def rgD3 (lo:Int) (n:Nat):List D:=(List.range n).map fun i:Nat=>D.int (lo+(i:Int) * 3)
def rgN3 (i j:Int):Nat:=((j - i+2) / 3).toNat
def diR3 (da:Ev→RE (List X)):Ev→RE Dn.Its:=fun env=>(da env).bind fun xs e1=>match rds e1 xs with
  | some [.int i,.int j,.int c]=>if c=3∧rgOk i=true∧rgOk j=true then .ok (rgD3 i (rgN3 i j),none) e1 else .bad
  | _=>.bad
end Dn
namespace Dn
open PySem PySem.Spec PyProof.Rows L2
def dgLst (n:Nat) (a:List D→Ev→Option Ev):D→Ev→Option Ev:=fun d env=>match d with
  | .lst xs=>if xs.length=n then a xs env else none
  | _=>none
end Dn
namespace Dn
open PySem PySem.Spec PyProof.Rows L2
inductive MI where
  | lit (s:Str) | cap (i:Nat)
structure NmR (X:Cx) (y:Str) (i:Nat):Prop where
  nd:X.N.Nodup
  at_:X.N[i]?=some y
  lc:Loc X.env.scope y
  fn:X.fn y=true∨X.env.scope.names.lookup y=some .local
section
variable {X:Cx} {pins:List (Addr×Obj)} {σ:L2.St} {H:Hp} {D:_root_.L2.Ends}
theorem m9 {y:Str} {i:Nat} {v:V} {u:Value} {s:Shared} {Q:Unit→Shared→Prop} (nm:NmR X y i) (r:RelV v u) (I:Inv X pins σ H s) (k:∀ s',Inv X pins (σ.set i (some v)) H s'→Q () s'):wpAny (model X.prog X.w) X.A (bindName X.env y u) Q X.xe s:=by
  unfold bindName
  refine wpAny_bind (wpAny_holding (wpAny_point ?_))
  refine wpAny_bind (store_ok I nm.nd nm.at_ nm.lc r (fun s' I'=>?_) nm.fn)
  exact wpAny_point (k s' I')
end
def mtD:List MI→List D→Option (List (Nat×D))
  | [],[]=>some []
  | .lit s :: ps,.str z :: xs=>if z=s then mtD ps xs else none
  | .cap i :: ps,x :: xs=>(mtD ps xs).map ((i,x) :: ·)
  | _,_=>none
def setDs:List (Nat×D)→Ev→Option Ev
  | [],env=>some env
  | (i,d) :: r,env=>(setSl i (.im d) env).bind (setDs r)
def isStrD:D→Bool
  | .str _=>true
  | _=>false
def dMC (ps:List MI) (st:Option Nat) (xs:List D) (d e:Ev→RS):Ev→RS:=fun env=>match st with
  | none=>(match mtD ps xs with
    | some bs=>(match setDs bs env with
      | some e1=>d e1
      | none=>.bad)
    | none=>e env)
  | some j=>(match mtD ps (xs.take ps.length) with
    | some bs=>(match (setDs bs env).bind (setSl j (.ow (.lst (xs.drop ps.length)))) with
      | some e1=>d e1
      | none=>.bad)
    | none=>e env)
def dMatch (de:Ev→RE X) (d:List D→Ev→RS):Ev→RS:=fun env=>(de env).stm fun x e1=>match x with
  | .im (.lst xs)=>if xs.all isStrD=true∧xs.length≤10000 then d xs e1 else .bad
  | _=>.bad
section
variable {K:Fg} [WD K] {W:WS}
theorem SatS.all {α:Type} {P:α→Prop} {M H:Hp} {σ:L2.St} {env:Ev} {r:RS} {T:α→_root_.L2.Ends→Prop} (h:∀ l,P l→SatS K W M σ H env r (T l)):SatS K W M σ H env r (fun D=>∀ l,P l→T l D):=by
  cases r with
  | bad=>trivial
  | nx env'=>exact fun D k l p=>h l p D k
  | bk env'=>exact fun D k l p=>h l p D k
  | ct env'=>exact fun D k l p=>h l p D k
  | rt x env'=>exact fun D k l p=>h l p D k
  | exc x env'=>exact fun D k l p=>h l p D k
def dMs:List (List MI×Option Nat×(Ev→RS))→List D→Ev→RS
  | [],_=>O5
  | (ps,st,d) :: r,xs=>dMC ps st xs d (dMs r xs)
end
end Dn
namespace Dn
open PySem PySem.Spec PyProof.Rows L2
structure RoomP (k:Nat) (A:Around):Prop where
  hd:A.handled=none
  dp:A.depth+3 * k+6 < recursionLimit
  un:A.units+16 * k+203 < cLine
theorem RoomP.deeper {k:Nat} {A:Around} (r:RoomP k A) (env:Env):Room k (A.deeper env):=
  ⟨r.hd,by have:=r.dp; show A.depth+1+3 * k+5 < _; omega,by have:=r.un; show A.units+3+16 * k+200 < _; omega⟩
theorem RoomP.depth {k:Nat} {A:Around} (r:RoomP k A):A.depth < recursionLimit:=by have:=r.dp; omega
theorem RoomP.mono {j k:Nat} {A:Around} (r:RoomP k A) (h:j≤k):RoomP j A:=⟨r.hd,by have:=r.dp; omega,by have:=r.un; omega⟩
end Dn
namespace Dn
open PySem PySem.Spec PyProof.Rows L2
end Dn
namespace Dn
open PySem PySem.Spec PyProof.Rows L2
end Dn
namespace Dn
open PySem PySem.Spec PyProof.Rows L2
end Dn
namespace Dn
open PySem PySem.Spec PyProof.Rows L2
end Dn
namespace Dn
open PySem PySem.Spec PyProof.Rows L2
end Dn
namespace Dn
open PySem PySem.Spec PyProof.Rows L2
end Dn
namespace Dn
open PySem PySem.Spec PyProof.Rows L2
end Dn
namespace Dn
open PySem PySem.Spec PyProof.Rows L2
end Dn
namespace Dn
open PySem PySem.Spec PyProof.Rows L2
end Dn
namespace Wk
open PySem PySem.Spec PyProof.Rows L2 Dn
def topS (i:Nat):Stmt:=PySem.Challenge.pw_ballotturns_k64_whole_paper_texts_there.main.body.getD i (.Pass ⟨0,0,0,0⟩)
abbrev aa3:Stmt:=topS 23
abbrev aa4:Stmt:=topS 25
abbrev abr:Stmt:=topS 24
abbrev aa5:Stmt:=topS 26
abbrev aav:Stmt:=topS 27
abbrev aad:Stmt:=topS 28
abbrev aaB:Stmt:=topS 31
abbrev W9:Stmt:=topS 33
abbrev aa6:Stmt:=topS 35
abbrev aai:Stmt:=topS 29
abbrev aaj:Stmt:=topS 30
abbrev aaa:Stmt:=topS 36
abbrev aaC:Stmt:=topS 37
abbrev U9:Stmt:=topS 34
abbrev W7:Stmt:=topS 38
abbrev aak:Stmt:=topS 13
abbrev X5:Stmt:=topS 15
abbrev aaD:Stmt:=topS 16
abbrev aa7:Stmt:=topS 32
abbrev R9:Stmt:=match topS 20 with
  | .ClassDef (body:=b) ..=>b.getD 0 (.Pass ⟨0,0,0,0⟩)
  | _=>.Pass ⟨0,0,0,0⟩
abbrev aaw:Stmt:=topS 10
abbrev V9:Stmt:=topS 17
abbrev abo:Stmt:=topS 6
abbrev V1:Stmt:=topS 11
abbrev aa8:Stmt:=topS 12
abbrev W0:Stmt:=match topS 20 with
  | .ClassDef (body:=b) ..=>b.getD 4 (.Pass ⟨0,0,0,0⟩)
  | _=>.Pass ⟨0,0,0,0⟩
abbrev R6:Stmt:=match topS 20 with
  | .ClassDef (body:=b) ..=>b.getD 3 (.Pass ⟨0,0,0,0⟩)
  | _=>.Pass ⟨0,0,0,0⟩
abbrev abp:Stmt:=topS 18
abbrev aal:Stmt:=topS 19
abbrev Q3:Stmt:=match topS 20 with
  | .ClassDef (body:=b) ..=>b.getD 2 (.Pass ⟨0,0,0,0⟩)
  | _=>.Pass ⟨0,0,0,0⟩
abbrev aam:Stmt:=match topS 20 with
  | .ClassDef (body:=b) ..=>b.getD 1 (.Pass ⟨0,0,0,0⟩)
  | _=>.Pass ⟨0,0,0,0⟩
abbrev aaE:Stmt:=topS 21
abbrev adm:Stmt:=topS 39
abbrev mfP:Str:=PySem.Challenge.pw_ballotturns_k64_whole_paper_texts_there.main.file
def exT:XTab:=[]
def kiT:XTab:=[]
def ktT:XTab2:=[]
def oexL:List Str:=[]
def abV:List Str:=["Reader"]
@[simp] theorem anJ:("Reader":Str)∈abV:=by decide
def acJ:List Str:=["Reader"]
@[simp] theorem anK:("Reader":Str)∈acJ:=by decide
def aiZ:Ev→RE X:=(dOp pIn (j6 1) (dC (.str "0123456789")))
def aeU:Ev→RS:=(t8 (dIfS (dtOr (K8 (dOp pEq (j6 0) (dC (.str "")))) (dtNot (K8 (dCB pAll (d9 (dLc (diSeq (j6 0)) (N7 1) (fun env=>.ok true env) aiZ [1]) o7)))))
 (M5 (dC (.bl false)))
 O5)
 (M5 (dOrV (dOp pEq (j6 0) (dC (.str "0"))) (dOp pNe (dOp pIx (j6 0) (dC (.int 0))) (dC (.str "0"))))))
def adn:Ev→RE X:=fnM 2 1 aeU
def acq:Ev→RS:=(M5 (dAndV (dCall adn (d9 (j6 0) o7)) (dOp (pCmp fun i j=>decide (i≤j)) (dCB pLen (d9 (j6 0) o7)) (dC (.int 13)))))
def Y5:Ev→RE X:=fnM 1 1 acq
def akF:Ev→RE X:=(dOp pIn (j6 1) (dC (.str "abcdefghijklmnopqrstuvwxyz")))
def agg:Ev→RS:=(t8 (dIfS (dtNot (K8 (dChain (fun i j=>decide (i≤j)) (fun i j=>decide (i≤j)) (dC (.int 1)) (dCB pLen (d9 (j6 0) o7)) (dC (.int 12)))))
 (M5 (dC (.bl false)))
 O5)
 (M5 (dCB pAll (d9 (dLc (diSeq (j6 0)) (N7 1) (fun env=>.ok true env) akF [1]) o7))))
def acP:Ev→RE X:=fnM 2 1 agg
def agc:Ev→RE X:=(dCall acP (d9 (j6 1) o7))
def acK:Ev→RS:=(M5 (dOrV (dOp pEq (j6 0) (dC (.str "-"))) (dCB pAll (d9 (dLc (diSeq (dM1 pSplit (j6 0) (dC (.str ">")))) (N7 1) (fun env=>.ok true env) agc [1]) o7))))
def abt:Ev→RE X:=fnM 2 1 acK
def aeV:Ev→RS:=(t8 (dIfS (K8 (dOp pEq (j6 0) (dC (.str "-"))))
 (M5 (dTup o7))
 O5)
 (M5 (dCB pTuple (d9 (dM1 pSplit (j6 0) (dC (.str ">"))) o7))))
def ado:Ev→RE X:=fnM 1 1 aeV
def aap (TABS:Nat→MTab):Ev→RS:=(t8 (dIfS (dtOr (dtNot (K8 (dCall Y5 (d9 (j6 1) o7)))) (dtNot (K8 (dCall abt (d9 (j6 2) o7)))))
 dNever
 O5)
 (t8 (dAsg 3 (dMethF (MTab.get (TABS 2)) "node" (j6 0) o7))
 (t8 (dAsg 4 (dMethF (MTab.get (TABS 2)) "node" (j6 0) o7))
 (M5 (dTup (d9 (dC (.str "split")) (d9 (dCall ado (d9 (j6 2) o7)) (d9 (dCB pIntT (d9 (j6 1) o7)) (d9 (j6 3) (d9 (j6 4) o7))))))))))
def aeC:Ev→RE X:=(dCall acP (d9 (j6 2) o7))
def aeD (TABS:Nat→MTab):Ev→RE X:=(dTup (d9 (j6 2) (d9 (dMethF (MTab.get (TABS 2)) "node" (j6 0) o7) o7)))
def X6 (TABS:Nat→MTab):Ev→RS:=(t8 (dIfS (dtOr (K8 (dOp pEq (dCB pLen (d9 (j6 1) o7)) (dC (.int 0)))) (dtNot (K8 (dCB pAll (d9 (dLc (diSeq (j6 1)) (N7 2) (fun env=>.ok true env) aeC [2]) o7)))))
 dNever
 O5)
 (M5 (dCB pTuple (d9 (dLc (diSeq (j6 1)) (N7 2) (fun env=>.ok true env) (aeD TABS) [2]) o7))))
def akG:Ev→RE X:=(dSl (j6 0) (dSome (j6 1)) (dSome (dOp pAdd (j6 1) (dC (.int 3)))))
def agh:Ev→RS:=(M5 (dFrz (dLc (diR3 (d9 (dC (.int 0)) (d9 (dCB pLen (d9 (j6 0) o7)) (d9 (dC (.int 3)) o7)))) (N7 1) (fun env=>.ok true env) akG [1])))
def adC:Ev→RE X:=fnM 2 1 agh
def ahY:Ev→RS:=(dIfS (dtOr (dtNot (K8 (dCall Y5 (d9 (j6 1) o7)))) (dtOr (dtNot (K8 (dCall acP (d9 (j6 2) o7)))) (dtNot (K8 (dCall Y5 (d9 (j6 3) o7))))))
 (M5 (dC (.bl false)))
 O5)
def adU:Ev→RS:=(t8 (dIfS (K8 (dOp pNe (dOp pMod (dCB pLen (d9 (j6 0) o7)) (dC (.int 3))) (dC (.int 0))))
 (M5 (dC (.bl false)))
 O5)
 (t8 (dFor (diSeq (dCall adC (d9 (j6 0) o7))) (dgLst 3 (T8 (N7 1) (T8 (N7 2) (T8 (N7 3) dgNil))))
 (dWp [1,2,3] ahY))
 (M5 (dC (.bl true)))))
def acE:Ev→RE X:=fnM 4 1 adU
def aeW:Ev→RE X:=(dTup (d9 (dCB pIntT (d9 (j6 2) o7)) (d9 (j6 3) (d9 (dCB pIntT (d9 (j6 4) o7)) o7))))
def abN:Ev→RS:=(t8 (dIfS (dtNot (K8 (dCall acE (d9 (j6 1) o7))))
 dNever
 O5)
 (M5 (dCB pTuple (d9 (dLc (diSeq (dCall adC (d9 (j6 1) o7))) (dgLst 3 (T8 (N7 2) (T8 (N7 3) (T8 (N7 4) dgNil)))) (fun env=>.ok true env) aeW [2,3,4]) o7))))
def Z0:Ev→RE X:=fnM 5 2 abN
def aaz:MTab:=[("Reader",Z0)]
@[simp] theorem aei:MTab.get aaz "Reader"=some Z0:=rfl
def abw (TABS:Nat→MTab):Ev→RS:=(t8 (dIfS (K8 (dOp pEq (ad2 abV "place" (j6 0)) (dCB pLen (d9 (ad2 acJ "lines" (j6 0)) o7))))
 dNever
 O5)
 (t8 (dAsg 1 (dFrz (dM1 pSplit (dOp pIx (ad2 acJ "lines" (j6 0)) (ad2 abV "place" (j6 0))) (dC (.str " ")))))
 (t8 (dAugF abV 0 "place" 1)
 (t8 (dMatch (j6 1) (dMs [([.lit "dead"],none,(M5 (dTup (d9 (dC (.str "dead")) o7)))),
 ([.lit "shut"],some 2,(dFz [2] (M5 (dTup (d9 (dC (.str "shut")) (d9 (dMethF (MTab.get aaz) "weights_of" (j6 0) (d9 (j6 2) o7)) o7)))))),
 ([.lit "next"],some 3,(dFz [3] (M5 (dTup (d9 (dC (.str "next")) (d9 (dMethF (MTab.get (TABS 1)) "branches_of" (j6 0) (d9 (j6 3) o7)) o7)))))),
 ([.lit "split",.cap 4,.cap 5],none,(M5 (dMethF (MTab.get (TABS 0)) "split_of" (j6 0) (d9 (j6 4) (d9 (j6 5) o7)))))]))
 dNever))))
def j9:Nat→Nat→MTab
  | 0,0=>[("Reader",(fun _=>.bad))]
  | 0,1=>[("Reader",(fun _=>.bad))]
  | 0,2=>[("Reader",(fun _=>.bad))]
  | 0,_=>[]
  | n+1,0=>[("Reader",fnM 5 3 (aap (j9 n)))]
  | n+1,1=>[("Reader",fnM 3 2 (X6 (j9 n)))]
  | n+1,2=>[("Reader",fnM 6 1 (abw (j9 n)))]
  | n+1,_=>[]
abbrev X7 (n:Nat):MTab:=j9 n 0
def aho (n:Nat):Ev→RE X:=fnM 5 3 (aap (j9 n))
@[simp] theorem al5 (n:Nat):MTab.get (X7 (n+1)) "Reader"=some (aho n):=rfl
abbrev U6 (n:Nat):MTab:=j9 n 1
def afB (n:Nat):Ev→RE X:=fnM 3 2 (X6 (j9 n))
@[simp] theorem aks (n:Nat):MTab.get (U6 (n+1)) "Reader"=some (afB n):=rfl
abbrev aaF (n:Nat):MTab:=j9 n 2
def ajZ (n:Nat):Ev→RE X:=fnM 6 1 (abw (j9 n))
@[simp] theorem anL (n:Nat):MTab.get (aaF (n+1)) "Reader"=some (ajZ n):=rfl
end Wk
namespace Wk
open PySem PySem.Spec PyProof.Rows L2 Dn
def agi:He.DefD:=⟨("_law_cell",none),"_law_cell","_law_cell",defArgs aa3,defBody aa3,defScope aa3,[],[]⟩
def agj:He.DefD:=⟨("_law_pool",none),"_law_pool","_law_pool",defArgs aa4,defBody aa4,defScope aa4,[],[]⟩
def ahE:He.DefD:=⟨("_law_mix",none),"_law_mix","_law_mix",defArgs abr,defBody abr,defScope abr,[],[]⟩
def agk:He.DefD:=⟨("_law_draw",none),"_law_draw","_law_draw",defArgs aa5,defBody aa5,defScope aa5,[],[]⟩
def agl:He.DefD:=⟨("_law_word",none),"_law_word","_law_word",defArgs aav,defBody aav,defScope aav,[],[]⟩
def af0:He.DefD:=⟨("_law_names",none),"_law_names","_law_names",defArgs aad,defBody aad,defScope aad,[],[]⟩
def af1:He.DefD:=⟨("_law_times",none),"_law_times","_law_times",defArgs aaB,defBody aaB,defScope aaB,[],[]⟩
def aeE:He.DefD:=⟨("_law_weights",none),"_law_weights","_law_weights",defArgs W9,defBody W9,defScope W9,[],[]⟩
def agm:He.DefD:=⟨("_law_leaf",none),"_law_leaf","_law_leaf",defArgs aa6,defBody aa6,defScope aa6,[],[]⟩
def afb:He.DefD:=⟨("_law_choice",none),"_law_choice","_law_choice",defArgs aai,defBody aai,defScope aai,[],[]⟩
def afc:He.DefD:=⟨("_law_ballot",none),"_law_ballot","_law_ballot",defArgs aaj,defBody aaj,defScope aaj,[],[]⟩
def agn:He.DefD:=⟨("_law_tree",none),"_law_tree","_law_tree",defArgs aaa,defBody aaa,defScope aaa,[],[]⟩
def af2:He.DefD:=⟨("_law_tower",none),"_law_tower","_law_tower",defArgs aaC,defBody aaC,defScope aaC,[],[]⟩
def ac9:He.DefD:=⟨("_law_ballot_text",none),"_law_ballot_text","_law_ballot_text",defArgs U9,defBody U9,defScope U9,[],[]⟩
def af3:He.DefD:=⟨("_law_lines",none),"_law_lines","_law_lines",defArgs W7,defBody W7,defScope W7,[],[]⟩
def afd:He.DefD:=⟨("ballot_text",none),"ballot_text","ballot_text",defArgs aak,defBody aak,defScope aak,[],[]⟩
def af4:He.DefD:=⟨("node_lines",none),"node_lines","node_lines",defArgs X5,defBody X5,defScope X5,[],[]⟩
def af5:He.DefD:=⟨("paper_text",none),"paper_text","paper_text",defArgs aaD,defBody aaD,defScope aaD,[],[]⟩
def ago:He.DefD:=⟨("_law_same",none),"_law_same","_law_same",defArgs aa7,defBody aa7,defScope aa7,[],[]⟩
def agp:He.DefD:=⟨("is_number",none),"is_number","is_number",defArgs aaw,defBody aaw,defScope aaw,[],[]⟩
def adD:He.DefD:=⟨("is_short_number",none),"is_short_number","is_short_number",defArgs V9,defBody V9,defScope V9,[],[]⟩
def aij:He.DefD:=⟨("is_name",none),"is_name","is_name",defArgs abo,defBody abo,defScope abo,[],[]⟩
def adY:He.DefD:=⟨("is_ballot_text",none),"is_ballot_text","is_ballot_text",defArgs V1,defBody V1,defScope V1,[],[]⟩
def agq:He.DefD:=⟨("ballot_of",none),"ballot_of","ballot_of",defArgs aa8,defBody aa8,defScope aa8,[],[]⟩
def aik:He.DefD:=⟨("triples",none),"triples","triples",defArgs abp,defBody abp,defScope abp,[],[]⟩
def afe:He.DefD:=⟨("are_weights",none),"are_weights","are_weights",defArgs aal,defBody aal,defScope aal,[],[]⟩
def af6:He.DefD:=⟨("read_paper",none),"read_paper","read_paper",defArgs aaE,defBody aaE,defScope aaE,[],[]⟩
def anM:He.DefD:=⟨("law",none),"law","law",defArgs adm,defBody adm,defScope adm,[],[]⟩
def adE:He.DefD:=⟨("Reader",some "__init__"),"__init__","Reader.__init__",defArgs R9,defBody R9,defScope R9,[],[]⟩
def adF:He.DefD:=⟨("Reader",some "split_of"),"split_of","Reader.split_of",defArgs W0,defBody W0,defScope W0,[],[]⟩
def acQ:He.DefD:=⟨("Reader",some "branches_of"),"branches_of","Reader.branches_of",defArgs R6,defBody R6,defScope R6,[],[]⟩
def acW:He.DefD:=⟨("Reader",some "weights_of"),"weights_of","Reader.weights_of",defArgs Q3,defBody Q3,defScope Q3,[],[]⟩
def afg:He.DefD:=⟨("Reader",some "node"),"node","Reader.node",defArgs aam,defBody aam,defScope aam,[],[]⟩
def fnL:List He.DefD:=[agi,agj,ahE,agk,agl,af0,af1,aeE,agm,afb,afc,agn,af2,ac9,af3,afd,af4,af5,ago,agp,adD,aij,adY,agq,aik,afe,af6,anM,adE,adF,acQ,acW,afg]
def faL:List He.Fa:=[.glo "_law_cell",.glo "_law_pool",.glo "_law_mix",.glo "_law_draw",.glo "_law_word",.glo "_law_names",.glo "_law_times",.glo "_law_weights",.glo "_law_leaf",.glo "_law_choice",.glo "_law_ballot",.glo "_law_tree",.glo "_law_tower",.glo "_law_ballot_text",.glo "_law_lines",.glo "ballot_text",.glo "node_lines",.glo "paper_text",.glo "_law_same",.glo "is_number",.glo "is_short_number",.glo "is_name",.glo "is_ballot_text",.glo "ballot_of",.glo "triples",.glo "are_weights",.glo "read_paper",.glo "law",.free "all",.free "bool",.free "int",.free "isinstance",.free "len",.free "list",.free "range",.free "str",.free "tuple",.str "DIGITS" "0123456789",.str "LETTERS" "abcdefghijklmnopqrstuvwxyz",.int "LONGEST_NAME" 12,.int "MOST_DIGITS" 13,.glo "Reader",.free "super"]
abbrev RR:PySem.W.OpenRow:=PySem.W.OpenLaw.row PySem.Challenge.rw_ballotturns_k64_whole_paper_texts_there
abbrev rcL:List Str:=[]
def fx0:List Fx:=(exT.map fun p=>Fx.exm p.1.1 p.1.2 p.2)
def fx1:List Fx:=(kiT.map fun p=>Fx.kit p.1.1 p.1.2 p.2)
def fx2:List Fx:=(ktT.map fun p=>Fx.kitT p.1.1 p.1.2 p.2)
def fx3:List Fx:=rcL.map Fx.exc
def fx4:List Fx:=oexL.map Fx.oex
def fx5:List Fx:=oexL.map Fx.ini
def fx6:List Fx:=[]
def agr:Fg→Bool:=(fun K=>(He.Fa.mkr "Reader").ok K)
def ahF:Fg→Bool:=(fun K=>fldB K "place" abV)
def ahG:Fg→Bool:=(fun K=>fldB K "lines" acJ)
def ags:Fg→Bool:=(fun K=>clsB K "Reader")
def acR:Fg→Bool:=(fun K=>(He.Fa.meth "Reader" "split_of").ok K)
def abW:Fg→Bool:=(fun K=>(He.Fa.meth "Reader" "branches_of").ok K)
def acp:Fg→Bool:=(fun K=>(He.Fa.meth "Reader" "weights_of").ok K)
def adZ:Fg→Bool:=(fun K=>(He.Fa.meth "Reader" "node").ok K)
def fxN:List Fx:=[.any agr,.any ahF,.any ahG,.any ags,.any acR,.any abW,.any acp,.any adZ]
def fxL:List Fx:=fxN++(fx0++(fx1++(fx2++(fx3++(fx4++(fx5++fx6))))))
def fsL:List FnS:=[]
def nmL:List Str:=["Reader","_law_ballot","_law_ballot_text","_law_cell","_law_choice","_law_draw","_law_leaf","_law_lines","_law_mix","_law_names","_law_pool","_law_same","_law_times","_law_tower","_law_tree","_law_weights","_law_word","are_weights","ballot_of","ballot_text","is_ballot_text","is_name","is_number","is_short_number","law","node_lines","paper_text","read_paper","triples"]
abbrev hk:PySem.W.Hook:=hookY nmL 4 mfP faL fnL fxL fsL
def ob (s:PySem.W.SharedT):AlX:=obsYG nmL 4 mfP faL fnL fxL fsL (HandSHeadRun.getT s)
def looseL:List Str:=(["TurnError","BadLine","is_name","is_number","is_ballot_text","ballot_of","ballot_text","node_lines","paper_text","is_short_number","triples","are_weights","Reader","read_paper","_law_cell","_law_mix","_law_pool","_law_draw","_law_word","_law_names","_law_choice","_law_ballot","_law_times","_law_same","_law_weights","_law_ballot_text","_law_leaf","_law_tree","_law_tower","_law_lines"]:List Str)++(["LETTERS","LONGEST_NAME","DIGITS","MOST_DIGITS"]:List Str)
theorem run (w:World):HandSHeadRun.RunEq RR (PySem.W.view RR.prog [39]) hk ob 5500 looseL w:=by
  intro os
  kernel_rfl
end Wk
namespace Tn
open PySem PySem.Spec PyProof.Rows L2 Dn
end Tn
namespace Tn
open PySem PySem.Spec PyProof.Rows L2 Dn
end Tn
namespace Tn
open PySem PySem.Spec PyProof.Rows L2 Dn
end Tn
namespace Tn
open PySem PySem.Spec PyProof.Rows L2 Dn
end Tn
namespace Tn
open PySem PySem.Spec PyProof.Rows L2 Dn
end Tn
namespace Tn
open PySem PySem.Spec PyProof.Rows L2 Dn
end Tn
namespace Tn
open PySem PySem.Spec PyProof.Rows L2 Dn
end Tn
namespace Tn
open PySem PySem.Spec PyProof.Rows L2 Dn
end Tn
namespace Tn
open PySem PySem.Spec PyProof.Rows L2 Dn
end Tn
namespace Tn
open PySem PySem.Spec PyProof.Rows L2 Dn
end Tn
namespace Tn
open PySem PySem.Spec PyProof.Rows L2 Dn
end Tn
namespace Tn
open PySem PySem.Spec PyProof.Rows L2 Dn
end Tn
namespace Tn
open PySem PySem.Spec PyProof.Rows L2 Dn
end Tn
namespace Tn
open PySem PySem.Spec PyProof.Rows L2 Dn
end Tn
namespace Tn
open PySem PySem.Spec PyProof.Rows L2 Dn
end Tn
namespace Tn
open PySem PySem.Spec PyProof.Rows L2 Dn
variable {α β γ σ σ1 β1:Type}
end Tn
namespace Tn
open PySem PySem.Spec PyProof.Rows L2 Dn
end Tn
namespace Tn
open PySem PySem.Spec PyProof.Rows L2 Dn
end Tn
namespace Tn
open PySem PySem.Spec PyProof.Rows L2 Dn
end Tn
namespace Tn
open PySem PySem.Spec PyProof.Rows L2 Dn
end Tn
namespace Tn
open PySem PySem.Spec PyProof.Rows L2 Dn
end Tn
namespace Tn
open PySem PySem.Spec PyProof.Rows L2 Dn
end Tn
noncomputable section
namespace Tn
open PySem PySem.Spec PyProof.Rows L2 Dn
end Tn
end
namespace Tn
open PySem PySem.Spec PyProof.Rows L2 Dn
end Tn
namespace Tn
open PySem PySem.Spec PyProof.Rows L2 Dn
end Tn
namespace Tn
open PySem PySem.Spec PyProof.Rows L2 Dn
end Tn
namespace Tn
open PySem PySem.Spec PyProof.Rows L2 Dn
end Tn
namespace Tn
open PySem PySem.Spec PyProof.Rows L2 Dn
end Tn
namespace Tn
open PySem PySem.Spec PyProof.Rows L2 Dn
end Tn
namespace Tn
open PySem PySem.Spec PyProof.Rows L2 Dn
end Tn
namespace Tn
open PySem PySem.Spec PyProof.Rows L2 Dn
end Tn
namespace Tn
open PySem PySem.Spec PyProof.Rows L2 Dn
end Tn
namespace Tn
open PySem PySem.Spec PyProof.Rows L2 Dn
end Tn
namespace Tn
open PySem PySem.Spec PyProof.Rows L2 Dn
end Tn
namespace Tn
open PySem PySem.Spec PyProof.Rows L2 Dn
end Tn
namespace Tn
open PySem PySem.Spec PyProof.Rows L2 Dn
end Tn
namespace Tn
open PySem PySem.Spec PyProof.Rows L2 Dn
end Tn
namespace Tn
open PySem PySem.Spec PyProof.Rows L2 Dn
end Tn
namespace Tn
open PySem PySem.Spec PyProof.Rows L2 Dn
end Tn
namespace Tn
open PySem PySem.Spec PyProof.Rows L2 Dn
end Tn
namespace Tn
open PySem PySem.Spec PyProof.Rows L2 Dn
end Tn
namespace Tn
open PySem PySem.Spec PyProof.Rows L2 Dn
end Tn
namespace Tn
open PySem PySem.Spec PyProof.Rows L2 Dn
end Tn
namespace Tn
open PySem PySem.Spec PyProof.Rows L2 Dn
end Tn
namespace Tn
open PySem PySem.Spec PyProof.Rows L2 Dn
end Tn
namespace Tn
open PySem PySem.Spec PyProof.Rows L2 Dn
end Tn
namespace Tn
open PySem PySem.Spec PyProof.Rows L2 Dn
end Tn
namespace Tn
open PySem PySem.Spec PyProof.Rows L2 Dn
end Tn
namespace Tn
open PySem PySem.Spec PyProof.Rows L2 Dn
end Tn
namespace Tn
open PySem PySem.Spec PyProof.Rows L2 Dn
end Tn
namespace Tn
open PySem PySem.Spec PyProof.Rows L2 Dn
end Tn
namespace Tn
open PySem PySem.Spec PyProof.Rows L2 Dn
end Tn
end
set_option Elab.async false
set_option linter.all false
set_option maxRecDepth 100000
set_option maxHeartbeats 4000000
set_option Elab.async false
set_option linter.all false
set_option maxRecDepth 100000
set_option maxHeartbeats 4000000
namespace Dn
open PySem PySem.Spec PyProof.Rows L2
theorem Reps.append {K:Fg} [WD K] {M:Hp}:∀ {xs ys:List D} {vs us:List V},Reps K M xs vs→Reps K M ys us→Reps K M (xs++ys) (vs++us)
  | [],ys,vs,us,h,h'=>by
    simp only [Reps] at h
    subst h
    exact h'
  | x :: xs,ys,vs,us,h,h'=>by
    simp only [Reps] at h
    obtain ⟨v,r,rfl,h1,h2⟩:=h
    exact Reps.cons h1 (Reps.append h2 h')
theorem Reps.eraseIdx {K:Fg} [WD K] {M:Hp}:∀ (n:Nat) {xs:List D} {vs:List V},Reps K M xs vs→Reps K M (xs.eraseIdx n) (vs.eraseIdx n)
  | _,[],vs,h=>by
    simp only [Reps] at h
    subst h
    simpa using Reps.nil
  | 0,x :: xs,vs,h=>by
    simp only [Reps] at h
    obtain ⟨v,r,rfl,h1,h2⟩:=h
    simpa using h2
  | n+1,x :: xs,vs,h=>by
    simp only [Reps] at h
    obtain ⟨v,r,rfl,h1,h2⟩:=h
    simpa using Reps.cons h1 (Reps.eraseIdx n h2)
theorem Reps.reverse {K:Fg} [WD K] {M:Hp}:∀ {xs:List D} {vs:List V},Reps K M xs vs→Reps K M xs.reverse vs.reverse
  | [],vs,h=>by
    simp only [Reps] at h
    subst h
    simpa using Reps.nil
  | x :: xs,vs,h=>by
    simp only [Reps] at h
    obtain ⟨v,r,rfl,h1,h2⟩:=h
    rw [List.reverse_cons,List.reverse_cons]
    exact (Reps.reverse h2).append (Reps.cons h1 Reps.nil)
theorem At.there {K:Fg} [WD K] {M H:Hp} {l:Addr} {o:OD} (h:At K M H l o):∃ u,H l=some u:=by
  cases o with
  | lst xs=>obtain ⟨vs,e,_⟩:=h; exact ⟨_,e⟩
  | ob c fs=>obtain ⟨_,vs,e,_⟩:=h; exact ⟨_,e⟩
  | dk xs=>obtain ⟨_,vs,e,_⟩:=h; exact ⟨_,e⟩
  | dt xs=>obtain ⟨_,vs,e,_⟩:=h; exact ⟨_,e⟩
section
variable {K:Fg} [WD K] {M M1 M2:Hp} {env env1 env2:Ev} {σ σ1 σ2:L2.St} {H H1 H2:Hp}
theorem Holds.ownSome {l:Addr} (h:Holds K M env σ H) (o:Own env σ l):∃ u,H l=some u:=by
  obtain ⟨i,p,od,e1,e2⟩:=o
  obtain ⟨l',e3,e5,e4⟩:=h.slot i _ e1
  rw [e2] at e3
  cases e3
  exact e5.there
theorem Ext.grow (h:Holds K M env σ H) (e:Ext M H M1 H1):Grow M env σ H M1 env σ H1:=
  ⟨e.exM,fun _ _ q _=>e.exH _ _ q,fun l o q=>(e.new l o q).imp id .inl,fun _ z=>.inl z,fun _ s q _=>⟨rfl,s,q,rfl⟩,fun l q=>e.exH.free q,rfl⟩
theorem Ext.holds (h:Holds K M env σ H) (e:Ext M H M1 H1):Holds K M1 env σ H1 where
  ex:=e.inn
  len:=h.len
  slot:=fun i s q=>by
    have:=h.slot i s q
    cases s with
    | no=>trivial
    | hid=>trivial
    | im d=>obtain ⟨u,e1,e2⟩:=this; exact ⟨u,e1,Rep.mono e.exM _ _ e2⟩
    | ow p o=>
      obtain ⟨l,e1,e2,e3⟩:=this
      refine ⟨l,e1,e2.mono e.exM fun u q=>e.exH _ _ q,?_⟩
      cases q2:M1 l with
      | none=>rfl
      | some u=>
        rcases e.new l u q2 with z | z
        · rw [e3] at z; cases z
        · obtain ⟨u2,z2⟩:=e2.there
          rw [z] at z2; cases z2
  dj:=h.dj
end
end Dn
namespace Dn
open PySem PySem.Spec PyProof.Rows L2
theorem V2 {K:Fg} [WD K] {σ:L2.St}:Back (RX K σ):=fun _ _ _ _ _ _ _ h ⟨a,b⟩=>⟨a,fun o e l e2=>h l (b o e l e2)⟩
def RB:Hp→Hp→Hp→Ev→Bool→Bool→Prop:=fun _ _ _ _ x v=>x=v
theorem ail:Back RB:=fun _ _ _ _ _ _ _ _ h=>h
def DE (K:Fg) [WD K] (W:WS) (te:TE) (de:Ev→RE X):Prop:=∀ (M:Hp) (σ:L2.St) (H:Hp) (env:Ev),Holds K M env σ H→Sat K W M σ H env (de env) (RX K σ) (te σ H)
def DT (K:Fg) [WD K] (W:WS) (tt:TT) (dt:Ev→RE Bool):Prop:=∀ (M:Hp) (σ:L2.St) (H:Hp) (env:Ev),Holds K M env σ H→Sat K W M σ H env (dt env) RB (tt σ H)
def RepXs (K:Fg) [WD K] (M H:Hp) (env:Ev) (σ:L2.St) (xs:List X) (vs:List V):Prop:=Paired (RepX K M H env σ) xs vs
def RA (K:Fg) [WD K] (σ:L2.St):Hp→Hp→Hp→Ev→List X→List V→Prop:=fun H0 M' H' env' xs vs=>Paired (RX K σ H0 M' H' env') xs vs
theorem Paired.imp1 {α β:Type} {F G:α→β→Prop} (f:∀ a b,F a b→G a b):∀ {xs:List α} {ys:List β},Paired F xs ys→Paired G xs ys
  | _,_,.nil=>.nil
  | _,_,.cons h t=>.cons (f _ _ h) (Paired.imp1 f t)
theorem aqt {K:Fg} [WD K] {σ:L2.St}:Back (RA K σ):=fun H0 H1 M' H' env' xs vs h r=>Paired.imp1 (fun x v q=>V2 H0 H1 M' H' env' x v h q) r
def DA (K:Fg) [WD K] (W:WS) (ta:TA) (da:Ev→RE (List X)):Prop:=∀ (M:Hp) (σ:L2.St) (H:Hp) (env:Ev),Holds K M env σ H→Sat K W M σ H env (da env) (RA K σ) (ta σ H)
section
variable {K:Fg} [WD K] {W:WS} {M M' M1 M2:Hp} {env env' env1 env2:Ev} {σ:L2.St} {H H' H1 H2:Hp} {x y:X} {v u:V}
theorem abX (h:Shape env env') {l:Addr}:Own env' σ l→Own env σ l:=fun ⟨i,p,o,e1,e2⟩=>by
  obtain ⟨o',e3⟩:=Shape.ow (show Shape env' env from Eq.symm h) e1
  exact ⟨i,p,o',e3,e2⟩
theorem RepX.grow (h:Holds K M env σ H) (r:RepX K M H env σ x v) (g:Grow M env σ H M' env' σ H') (s:Shape env env'):RepX K M' H' env' σ x v:=by
  cases x with
  | im d=>exact Rep.mono g.exM _ _ r
  | sl i=>
    obtain ⟨⟨p,o,e⟩,e2⟩:=r
    obtain ⟨o',e'⟩:=s.ow e
    exact ⟨⟨p,o',e'⟩,e2⟩
  | ow o=>
    obtain ⟨l,rfl,a,n,no⟩:=r
    refine ⟨l,rfl,a.mono g.exM fun u q=>g.fr l u q no,?_,fun z=>no (abX s z)⟩
    cases q:M' l with
    | none=>rfl
    | some u=>
      rcases g.new l u q with z | z | z
      · rw [n] at z; cases z
      · obtain ⟨u2,z2⟩:=a.there
        rw [z] at z2; cases z2
      · exact (no z).elim
theorem RepXs.grow (h:Holds K M env σ H) (g:Grow M env σ H M' env' σ H') (s:Shape env env') {xs:List X} {vs:List V} (r:RepXs K M H env σ xs vs):RepXs K M' H' env' σ xs vs:=Paired.imp (fun _ _ q=>RepX.grow h q g s) r
theorem abP (h:Holds K M env σ H) (r:RepX K M H env σ x v) {d:D} (e:rd env x=some d):Rd2 K M H d v:=by
  cases x with
  | im d'=>
    cases e
    exact .inl r
  | sl i=>
    obtain ⟨⟨p,o,e1⟩,e2⟩:=r
    have e3:o.toD=some d:=by
      have e':(match env[i]? with
        | some (Sl.ow _ o)=>o.toD
        | _=>none)=some d:=e
      rw [e1] at e'
      exact e'
    obtain ⟨l,e4,a,_⟩:=h.slot i _ e1
    rw [e2] at e4
    cases e4
    exact .inr ⟨l,o,rfl,a,e3⟩
  | ow o=>
    obtain ⟨l,rfl,a,_⟩:=r
    exact .inr ⟨l,o,rfl,a,e⟩
theorem aqu (h:Holds K M env σ H) (e:Ext M H M1 H1) (hn:∀ o,x=.ow o→∀ l,v=V.ref l→H l=none) (r:RepN K M1 H1 x v):RepX K M1 H1 env σ x v:=by
  cases x with
  | im d=>exact r
  | sl i=>exact r.elim
  | ow o=>
    obtain ⟨l,rfl,a,n⟩:=r
    refine ⟨l,rfl,a,n,fun z=>?_⟩
    obtain ⟨u,q⟩:=h.ownSome z
    rw [hn o rfl l rfl] at q
    cases q
def OpOk (K:Fg) [WD K] (r:R2) (f:D→D→Option X):Prop:=∀ M H dx dy x v u,Same M H→Rd2 K M H dx v→Rd2 K M H dy u→f dx dy=some x→∀ Q:VK,Fin K M H x Q→r v u H Q
def UnOk (K:Fg) [WD K] (r:V→Hp→VK→Prop) (f:D→Option X):Prop:=∀ M H dx x v,Same M H→Rd2 K M H dx v→f dx=some x→∀ Q:VK,Fin K M H x Q→r v H Q
def CallOk (K:Fg) [WD K] (r:List V→Hp→VK→Prop) (f:List D→Option X):Prop:=∀ M H ds x vs,Same M H→Paired (Rd2 K M H) ds vs→f ds=some x→∀ Q:VK,Fin K M H x Q→r vs H Q
theorem Fin.im0 {d:D} {Q:VK} (q:Fin K M H (.im d) Q) (h:Same M H) {z:V} (r:Rep K M d z):Q z H:=q.im (Ext.refl h) r
end
def dUn (f:D→Option X) (da:Ev→RE X):Ev→RE X:=fun env=>(da env).bind fun x e1=>opt ((rd e1 x).bind f) e1
section
variable {K:Fg} [WD K] {W:WS} {M M' M1 M2:Hp} {env env' env1 env2:Ev} {σ:L2.St} {H H' H1 H2:Hp} {x y:X} {v u:V} {ta tb:TE} {da db:Ev→RE X}
theorem akH (d:D) (w:V) (h:∀ M,Rep K M d w):DE K W (tC w) (dC d):=fun M σ H env hh Q k=>k w M H .refl (.refl _) hh ⟨h M,fun _ z=>nomatch z⟩
theorem o9 (i:Int):DE K W (tC (.int i)) (dC (.int i)):=akH _ _ fun M=>by simp [Rep]
theorem acf (i:Bool):DE K W (tC (.bl i)) (dC (.bl i)):=akH _ _ fun M=>by simp [Rep]
theorem J9 (i:Str):DE K W (tC (.str i)) (dC (.str i)):=akH _ _ fun M=>by simp [Rep]
theorem anN:DE K W (tC .non) (dC .non):=akH _ _ fun M=>by simp [Rep]
theorem d8 (i:Nat):DE K W (tVar i) (j6 i):=fun M σ H env hh=>by
  unfold j6
  cases e:env[i]? with
  | none=>trivial
  | some s=>
    cases s with
    | no=>trivial
    | hid=>trivial
    | im d=>
      intro Q k
      obtain ⟨w,e1,r⟩:=hh.slot i _ e
      exact ⟨w,e1,k w M H .refl (.refl _) hh ⟨r,fun _ z=>nomatch z⟩⟩
    | ow p o=>
      intro Q k
      obtain ⟨l,e1,r,_⟩:=hh.slot i _ e
      exact ⟨_,e1,k _ M H .refl (.refl _) hh ⟨⟨⟨p,o,e⟩,e1⟩,fun _ z=>nomatch z⟩⟩
theorem ad7 {o:Option X} {t:VK→Prop} (hh:Holds K M env σ H) (h:∀ x,o=some x→∀ Q:VK,Fin K M H x Q→t Q):Sat K W M σ H env (opt o env) (RX K σ) t:=by
  cases o with
  | none=>trivial
  | some x=>exact fun Q k=>h x rfl Q fun z M' H' e hn r=>k z M' H' (e.grow hh) (.refl _) (e.holds hh) ⟨aqu hh e hn r,hn⟩
theorem o8 {r:R2} {f:D→D→Option X} (ho:OpOk K r f) (ha:DE K W ta da) (hb:DE K W tb db):DE K W (tOp r ta tb) (dOp f da db):=fun M σ H env hh=>by
  refine Sat.bind (c:=fun v H1 Q=>tb σ H1 fun u H2=>r v u H2 Q) V2 hh (ha M σ H env hh) (fun Q q=>q) fun M1 H1 env1 x v g1 s1 hh1 r1=>?_
  refine Sat.bind (c:=fun u H2 Q=>r v u H2 Q) V2 hh1 (hb M1 σ H1 env1 hh1) (fun Q q=>q) fun M2 H2 env2 y u g2 s2 hh2 r2=>?_
  refine ad7 hh2 fun z e Q q=>?_
  obtain ⟨dx,e1,e⟩:=Option.bind_eq_some_iff.mp e
  obtain ⟨dy,e2,e⟩:=Option.bind_eq_some_iff.mp e
  exact ho M2 H2 dx dy z v u hh2.ex (abP hh2 (RepX.grow hh1 r1.1 g2 s2) e1) (abP hh2 r2.1 e2) e Q q
theorem apl {r:V→Hp→VK→Prop} {f:D→Option X} (ho:UnOk K r f) (ha:DE K W ta da):DE K W (tUn r ta) (dUn f da):=fun M σ H env hh=>by
  refine Sat.bind (c:=fun v H1 Q=>r v H1 Q) V2 hh (ha M σ H env hh) (fun Q q=>q) fun M1 H1 env1 x v g1 s1 hh1 r1=>?_
  refine ad7 hh1 fun z e Q q=>?_
  obtain ⟨dx,e1,e⟩:=Option.bind_eq_some_iff.mp e
  exact ho M1 H1 dx z v hh1.ex (abP hh1 r1.1 e1) e Q q
theorem j8:DA K W tNil o7:=fun M σ H env hh Q k=>k [] M H .refl (.refl _) hh Paired.nil
theorem d7 {tr:TA} {dr:Ev→RE (List X)} (ha:DE K W ta da) (hr:DA K W tr dr):DA K W (tCons ta tr) (d9 da dr):=fun M σ H env hh=>by
  have h1:=ha M σ H env hh
  unfold d9
  cases e1:da env with
  | bad=>trivial
  | exc e env1=>
    rw [e1] at h1
    exact fun Q k=>h1 _ k
  | ok x env1=>
    rw [e1] at h1
    show Sat K W M σ H env ((dr env1).bind fun xs e2=>.ok (x :: xs) e2) (RA K σ) (tCons ta tr σ H)
    cases e2:dr env1 with
    | bad=>trivial
    | exc e env2=>
      refine fun Q k=>h1 _ fun v M1 H1 g1 s1 hh1 r1=>?_
      have h2:=hr M1 σ H1 env1 hh1
      rw [e2] at h2
      exact h2 _ fun cls d M' H' g2 s2 hh2 r2=>k cls d M' H' (g1.trans hh g2) (s1.trans s2) hh2 r2
    | ok xs env2=>
      refine fun Q k=>h1 _ fun v M1 H1 g1 s1 hh1 r1=>?_
      have h2:=hr M1 σ H1 env1 hh1
      rw [e2] at h2
      exact h2 _ fun vs M' H' g2 s2 hh2 r2=>k (v :: vs) M' H' (g1.trans hh g2) (s1.trans s2) hh2 (Paired.cons ⟨RepX.grow hh1 r1.1 g2 s2,r1.2⟩ (aqt _ _ _ _ _ _ _ g1.dom r2))
theorem ani {H0 M' H':Hp} {xs:List X} {vs:List V} (r:RA K σ H0 M' H' env' xs vs):RepXs K M' H' env' σ xs vs:=Paired.imp1 (fun _ _ q=>q.1) r
theorem agt (hh:Holds K M env σ H):∀ {xs:List X} {vs:List V} {ds:List D},RepXs K M H env σ xs vs→rds env xs=some ds→Paired (Rd2 K M H) ds vs
  | [],_,_,.nil,e=>by
    cases e
    exact .nil
  | x :: xs,_,_,.cons r rs,e=>by
    obtain ⟨dx,e1,e⟩:=Option.bind_eq_some_iff.mp (show ((rd env x).bind fun d=>(rds env xs).bind fun ds=>some (d :: ds))=_ from e)
    obtain ⟨dy,e2,e⟩:=Option.bind_eq_some_iff.mp e
    cases e
    exact .cons (abP hh r e1) (agt hh rs e2)
theorem M9 {ta:TA} {da:Ev→RE (List X)} {r:List V→Hp→VK→Prop} {f:List D→Option X} (ho:CallOk K r f) (ha:DA K W ta da):DE K W (tCB r ta) (dCB f da):=fun M σ H env hh=>by
  refine Sat.bind (c:=fun v H1 Q=>r v H1 Q) V2 hh (ha M σ H env hh) (fun Q q=>q) fun M1 H1 env1 x v g1 s1 hh1 r1=>?_
  refine ad7 hh1 fun z e Q q=>?_
  obtain ⟨dx,e1,e⟩:=Option.bind_eq_some_iff.mp e
  exact ho M1 H1 dx z v hh1.ex (agt hh1 (ani r1) e1) e Q q
end
end Dn
namespace Dn
open PySem PySem.Spec PyProof.Rows L2
def mulFit (i j:Int):Bool:=decide (i.natAbs.log2+j.natAbs.log2 < 100000000)
theorem anO {i j:Int} (h:mulFit i j=true):IntMulOk i j:=by
  have b:∀ x:Int,Builtin.Int.intBits x≤x.natAbs.log2+1:=fun x=>by
    unfold Builtin.Int.intBits
    split <;> omega
  have h1:=b i
  have h2:=b j
  have h3:i.natAbs.log2+j.natAbs.log2 < 100000000:=of_decide_eq_true h
  have e:bitsLine=134217728:=by decide
  unfold IntMulOk
  intro z
  rw [Bool.and_eq_true] at z
  have z2:=z.2
  unfold Builtin.Int.intTooBig at z2
  have z3:=of_decide_eq_true z2
  rw [e] at z3
  omega
def rII (g:Int→Int→Option V):R2:=fun x y H Q=>∃ i j v,x=.int i∧y=.int j∧g i j=some v∧Q v H
section
variable {X:Cx}
theorem opII {f:Value→Value→Sem Value} {g:Int→Int→Option V}
    (h:∀ {i j v} (t u:Tok) (s:Shared) (Q:Value→Shared→Prop),g i j=some v→(∀ w tk,RelV v w→Q w { s with toks:=tk })→wpAny (model X.prog X.w) X.A (f (.int i t) (.int j u)) Q X.xe s):OpR X f (rII g):=by
  intro pins s σ H x y v u Q I rx ry q
  obtain ⟨i,j,w,rfl,rfl,e,q⟩:=q
  obtain ⟨t,rfl⟩:=rx
  obtain ⟨t',rfl⟩:=ry
  exact h t t' s _ e fun z tk r=>⟨w,H,I.tok tk,r,q⟩
def gMul (i j:Int):Option V:=if mulFit i j then some (.int (i * j)) else none
def gDiv (i j:Int):Option V:=if 0 < j∧j.natAbs.log2 < 9000 then some (.int (i / j)) else none
theorem apv:OpR X (binaryOp .Mult) (rII gMul):=opII fun t u s Q e k=>by
  unfold gMul at e
  split at e
  · rename_i h
    cases e
    exact mul_int (k _ _ ⟨_,rfl⟩) (anO h)
  · cases e
theorem apw:OpR X (binaryOp .FloorDiv) (rII gDiv):=opII fun {i j v} t u s Q e k=>by
  unfold gDiv at e
  split at e
  · rename_i h
    cases e
    have h1:(0:Int) < j:=h.1
    exact floordiv_int (by omega) (by rw [Int.fdiv_eq_ediv_of_nonneg i (by omega)]; exact k _ _ ⟨_,rfl⟩) (.inl (PyProof.noPylong_of_log2 h.2))
  · cases e
def repS (z:Str) (n:Nat):Str:=⟨(List.replicate n z.cps.toList).flatten.toArray⟩
theorem akI (z:Str) (n:Nat):(repS z n).length=n * z.length:=by
  unfold repS Str.length
  simp [List.length_flatten,List.map_replicate,List.sum_replicate_nat]
theorem ahZ (z:Array Nat):∀ (n:Nat) (acc:Array Nat),(List.replicate n z).foldl (fun x y=>x++y) acc=acc++(List.replicate n z.toList).flatten.toArray
  | 0,acc=>by simp
  | n+1,acc=>by
    rw [List.replicate_succ,List.foldl_cons,ahZ z n,List.replicate_succ,List.flatten_cons]
    apply Array.toList_inj.mp
    simp
def rMulS:R2:=fun x y H Q=>∃ z i,x=.str z∧y=.int i∧0≤i∧i≤1000∧z.length≤1000∧Q (.str (repS z i.toNat)) H
theorem apx:OpR X (binaryOp .Mult) rMulS:=by
  intro pins s σ H x y v u Q I rx ry h
  obtain ⟨z,i,rfl,rfl,h0,h1,h2,q⟩:=h
  obtain ⟨t,rfl⟩:=rx
  obtain ⟨t',rfl⟩:=ry
  have lim:sizeLine=16777216:=sizeLine_eq
  have hlen:z.length * i.toNat≤1000000:=Nat.le_trans (Nat.mul_le_mul h2 (by omega:i.toNat≤1000)) (by decide)
  refine PySem.P.mul_str ?_ (fun h3 h4=>?_) (fun h3 h4=>?_) ?_
  · rw [decide_eq_false (by omega),decide_eq_false (by omega)]; rfl
  · have h5:((2:Int) ^ 63 - 1) / i ≥ ((2:Int) ^ 63 - 1) / 1000:=by
      have:i * (((2:Int) ^ 63 - 1) / 1000)≤2 ^ 63 - 1:=by
        have h6:((2:Int) ^ 63 - 1) / 1000=9223372036854775:=by decide
        rw [h6]
        have h7:i * 9223372036854775≤1000 * 9223372036854775:=Int.mul_le_mul_of_nonneg_right h1 (by decide)
        omega
      exact (Int.le_ediv_iff_mul_le (by omega)).mpr (by rw [Int.mul_comm]; exact this)
    have h6:((2:Int) ^ 63 - 1) / 1000=9223372036854775:=by decide
    rw [h6] at h5
    have h2':(z.length:Int)≤1000:=by omega
    omega
  · show decide (z.length * i.toNat > sizeLine)=false
    rw [decide_eq_false (by omega)]
  · have fin:∀ (w:Str) (tk:Nat) (tt:Tok),w=repS z i.toNat→EP X pins σ Q (.str w tt) { s with toks:=tk }:=fun w tk tt e=>⟨.str _,H,I.tok tk,⟨tt,by rw [e]⟩,q⟩
    by_cases hn:i < 1
    · rw [if_pos hn]
      refine ⟨by decide,fin _ _ _ ?_⟩
      have:i.toNat=0:=by omega
      rw [this]
      rfl
    · rw [if_neg hn]
      by_cases h3:(i == 1 || z.length == 0)=true
      · rw [if_pos h3]
        refine fin z _ _ ?_
        rw [Bool.or_eq_true] at h3
        rcases h3 with h3 | h3
        · have:i.toNat=1:=by
            have:=eq_of_beq h3
            omega
          rw [this]
          unfold repS
          simp
        · have hz:z.cps=#[]:=Array.eq_empty_of_size_eq_zero (eq_of_beq h3)
          obtain ⟨c⟩:=z
          cases hz
          unfold repS
          simp
      · rw [if_neg h3]
        refine ⟨?_,fin _ _ _ ?_⟩
        · rw [ahZ]
          show ((#[]:Array Nat)++(List.replicate i.toNat z.cps.toList).flatten.toArray).size≤sizeLine
          have e1:((#[]:Array Nat)++(List.replicate i.toNat z.cps.toList).flatten.toArray).size=i.toNat * z.length:=by
            have:=akI z i.toNat
            unfold repS Str.length at this
            simpa [Str.length] using this
          rw [e1,Nat.mul_comm]
          omega
        · rw [ahZ]
          unfold repS
          simp
end
def pSub:D→D→Option X
  | .int i,.int j=>some (.im (.int (i - j)))
  | _,_=>none
def pMul:D→D→Option X
  | .int i,.int j=>if mulFit i j then some (.im (.int (i * j))) else none
  | .str z,.int i=>if 0≤i∧i≤1000∧z.length≤1000 then some (.im (.str (repS z i.toNat))) else none
  | .lst xs,.int i=>if 0≤i∧i≤1000∧xs.length≤1000 then some (.ow (.lst (List.replicate i.toNat xs).flatten)) else none
  | _,_=>none
def pDiv:D→D→Option X
  | .int i,.int j=>if 0 < j∧j.natAbs.log2 < 9000 then some (.im (.int (i / j))) else none
  | _,_=>none
def pPow:D→D→Option X
  | .int i,.int j=>if 0≤j∧j≤1000∧i.natAbs < 1000 then some (.im (.int (i ^ j.toNat))) else none
  | _,_=>none
abbrev tupOb (its:List Value):Obj:={ cls:=.type "tuple",data:=.seq its.toArray }
section
variable {X:Cx} {pins:List (Addr×Obj)} {σ:L2.St} {H:Hp} {s:Shared}
theorem _root_.L2.Inv.newTup (I:Inv X pins σ H s) {vs:List V} {us:List Value} (r:Vals vs us) (z:vs.length≤sizeLine):Inv X pins σ (upd H s.heap.objs.size (.frz (tupOb us) (.tup vs))) { s with heap:=s.heap.push (tupOb us) }:=
  I.laid (t':=s.toks) (fun _ _ q=>Heap.get?_push_of_some _ q) (Nat.le_refl _) (show ObjOk X.prog X.w _ _ _ (.frz _ (.tup vs)) from ⟨Heap.get?_push_size _ rfl,z,us,r,IsTup.new _ _⟩)
end
def rCatN (K:Fg):R2:=fun x y H Q=>∃ a b xs ys,x=.ref a∧y=.ref b∧SqT K H a xs∧SqT K H b ys∧xs.length+ys.length≤sizeLine∧
  (xs=[]→Q (.ref b) H)∧(xs≠[]→ys=[]→Q (.ref a) H)∧(xs≠[]→ys≠[]→∀ p (o:Obj),H p=none→o.dict=none→Q (.ref p) (upd H p (.frz o (.tup (xs++ys)))))
theorem apy {X:Cx}:OpR X (binaryOp .Add) (rCatN X.K):=by
  intro pins s σ H x y v u Q I rx ry h
  obtain ⟨a,b,xs,ys,rfl,rfl,ha,hb,hz,q0,q1,q2⟩:=h
  cases rx
  cases ry
  obtain ⟨its,r1,p1,_⟩:=I.tuple ha
  obtain ⟨its2,r2,p2,_⟩:=I.tuple hb
  by_cases hx:xs=[]
  · subst hx
    cases r1
    exact L2.cat_tup0 p1 p2 ⟨.ref b,H,I,rfl,q0 rfl⟩
  · refine HT.cat_tup p1 p2 (fun z=>hx (r1.nil_iff.mp z)) (fun z=>⟨.ref a,H,I,rfl,q1 hx (r2.nil_iff.mp z)⟩) (fun z=>?_) (by rw [← r1.length,← r2.length]; exact hz)
    exact ⟨.ref s.heap.objs.size,_,I.newTup (r1.append r2) (by rw [List.length_append]; exact hz),rfl,q2 hx (fun w=>z (r2.nil_iff.mpr w)) _ _ (I.hok.fresh (Nat.le_refl _)) rfl⟩
abbrev rAddU (K:Fg):R2:=fun x y H Q=>(rI0 fun i j=>.int (i+j)) x y H Q∨(∃ i j,x=.str i∧y=.str j∧i.length+j.length≤sizeLine∧Q (.str (i++j)) H)∨rCatN K x y H Q∨rCat x y H Q
abbrev rMulU:R2:=fun x y H Q=>rII gMul x y H Q∨rMulS x y H Q∨rRep x y H Q
section
variable {X:Cx}
theorem O3:OpR X (binaryOp .Add) (rAddU X.K):=op_add.or (op_add_str.or (apy.or op_cat))
theorem abE:OpR X (binaryOp .Mult) rMulU:=apv.or (apx.or op_rep)
end
section
variable {K:Fg} [WD K]
theorem Y6 {M:Hp} {i:Int}:Rep K M (.int i) (.int i):=by simp [Rep]
theorem aaA {M:Hp} {i:Str}:Rep K M (.str i) (.str i):=by simp [Rep]
theorem aaG {M:Hp} {i:Bool}:Rep K M (.bl i) (.bl i):=by simp [Rep]
theorem ai0 {M:Hp}:Rep K M .non .non:=by simp [Rep]
theorem apz {M:Hp} {a:Addr} {xs:List D} {vs:List V} (h:SqN K M a vs) (r:Reps K M xs vs):Rep K M (.tup xs) (.ref a):=by
  simp only [Rep]
  exact ⟨a,vs,rfl,h,r⟩
theorem Rd2.tupR {M H:Hp} {v:V} {xs:List D} (h:Rd2 K M H (.tup xs) v):Rep K M (.tup xs) v:=by
  rcases h with h | ⟨l,o,_,_,e⟩
  · exact h
  · cases o <;> cases e
theorem agu {M:Hp} {xs:List D} {vs:List V} (h:Reps K M xs vs):vs=[]↔xs=[]:=by
  have:=h.length
  constructor <;> intro e <;> subst e
  · exact List.eq_nil_of_length_eq_zero (by simpa using this)
  · exact List.eq_nil_of_length_eq_zero (by simpa using this.symm)
theorem aae {n:Nat} (h:fit n=true):n≤sizeLine:=by
  have h1:n.log2 < 24:=of_decide_eq_true h
  by_cases z:n=0
  · subst z; exact Nat.zero_le _
  · have h2:=(Nat.log2_lt z).mp h1
    rw [sizeLine_eq]
    exact Nat.le_of_lt h2
theorem Q4:OpOk K (rAddU K) pAdd:=by
  intro M H dx dy x v u e hx hy hf Q q
  unfold pAdd at hf
  split at hf
  · cases hf
    rw [hx.int,hy.int]
    exact .inl ⟨_,_,rfl,rfl,q.im0 e Y6⟩
  · split at hf
    · rename_i h
      cases hf
      rw [hx.str,hy.str]
      exact .inr (.inl ⟨_,_,rfl,rfl,aae h,q.im0 e aaA⟩)
    · cases hf
  · split at hf
    · rename_i xs ys h
      cases hf
      obtain ⟨a,vs,rfl,h1,h2⟩:=hx.tup e
      obtain ⟨b,us,rfl,h3,h4⟩:=hy.tup e
      refine .inr (.inr (.inl ⟨a,b,vs,us,rfl,rfl,h1,h3,by rw [← h2.length,← h4.length]; exact aae h,fun z=>?_,fun _ z=>?_,fun _ _ p o n hd=>?_⟩))
      · have:xs=[]:=(agu h2).mp z
        subst this
        exact q.im0 e hy.tupR
      · have:ys=[]:=(agu h4).mp z
        subst this
        rw [List.append_nil] at q
        exact q.im0 e hx.tupR
      · exact q.tup e (h2.append h4) n hd
    · cases hf
  · split at hf
    · rename_i xs ys h
      cases hf
      obtain ⟨a,vs,rfl,h1,h2⟩:=hx.lst e
      obtain ⟨b,us,rfl,h3,h4⟩:=hy.lst e
      exact .inr (.inr (.inr ⟨a,b,vs,us,rfl,rfl,h1,h3,by rw [← h2.length,← h4.length]; exact aae h,fun p n=>q.lst e (h2.append h4) n⟩))
    · cases hf
  · cases hf
theorem afh:OpOk K (rI0 fun i j=>.int (i - j)) pSub:=by
  intro M H dx dy x v u e hx hy hf Q q
  unfold pSub at hf
  split at hf
  · cases hf
    rw [hx.int,hy.int]
    exact ⟨_,_,rfl,rfl,q.im0 e Y6⟩
  · cases hf
theorem Reps.rep {M:Hp} {xs:List D} {vs:List V} (h:Reps K M xs vs):∀ k:Nat,Reps K M (List.replicate k xs).flatten (List.replicate k vs).flatten
  | 0=>by simpa using Reps.nil
  | k+1=>by
    rw [List.replicate_succ,List.flatten_cons,List.replicate_succ,List.flatten_cons]
    exact h.append (Reps.rep h k)
theorem acv:OpOk K rMulU pMul:=by
  intro M H dx dy x v u e hx hy hf Q q
  unfold pMul at hf
  split at hf
  · split at hf
    · rename_i i j h
      cases hf
      rw [hx.int,hy.int]
      exact .inl ⟨_,_,_,rfl,rfl,if_pos h,q.im0 e Y6⟩
    · cases hf
  · split at hf
    · rename_i z i h
      cases hf
      rw [hx.str,hy.int]
      exact .inr (.inl ⟨_,_,rfl,rfl,h.1,h.2.1,h.2.2,q.im0 e aaA⟩)
    · cases hf
  · split at hf
    · rename_i xs i h
      cases hf
      obtain ⟨a,vs,rfl,h1,h2⟩:=hx.lst e
      rw [hy.int]
      have hl:=h2.length
      have lim:sizeLine=16777216:=sizeLine_eq
      have hm:vs.length * i.toNat≤1000 * 1000:=Nat.mul_le_mul (by omega) (by omega)
      exact .inr (.inr ⟨a,i,vs,rfl,rfl,h1,by omega,by omega,by omega,fun p n=>q.lst e (h2.rep _) n⟩)
    · cases hf
  · cases hf
theorem aqv:OpOk K (rII gDiv) pDiv:=by
  intro M H dx dy x v u e hx hy hf Q q
  unfold pDiv at hf
  split at hf
  · split at hf
    · rename_i i j h
      cases hf
      rw [hx.int,hy.int]
      exact ⟨_,_,_,rfl,rfl,if_pos h,q.im0 e Y6⟩
    · cases hf
  · cases hf
theorem afi:OpOk K (rI (fun _ j=>0 < j) fun i j=>.int (i % j)) pMod:=by
  intro M H dx dy x v u e hx hy hf Q q
  unfold pMod at hf
  split at hf
  · split at hf
    · rename_i i j h
      cases hf
      rw [hx.int,hy.int]
      exact ⟨_,_,rfl,rfl,h,q.im0 e Y6⟩
    · cases hf
  · cases hf
theorem akJ:OpOk K (rI CPow fun i j=>.int (i ^ j.toNat)) pPow:=by
  intro M H dx dy x v u e hx hy hf Q q
  unfold pPow at hf
  split at hf
  · split at hf
    · rename_i i j h
      cases hf
      rw [hx.int,hy.int]
      exact ⟨_,_,rfl,rfl,⟨h.1,by omega,Nat.lt_trans h.2.2 (by decide)⟩,q.im0 e Y6⟩
    · cases hf
  · cases hf
theorem agv (p:Int→Int→Bool):OpOk K (rI0 fun i j=>.bl (p i j)) (pCmp p):=by
  intro M H dx dy x v u e hx hy hf Q q
  unfold pCmp at hf
  split at hf
  · cases hf
    rw [hx.int,hy.int]
    exact ⟨_,_,rfl,rfl,q.im0 e aaG⟩
  · cases hf
end
section
variable {K:Fg} [WD K]
mutual
theorem apm {M:Hp}:∀ (d:D) (p:PyData) (v:V),d.py=some p→Rep K M d v→Dp K M v p
  | .non,p,v,e,h=>by
    cases e
    rw [show v=.non by simpa [Rep] using h]
    exact .non
  | .bl b,p,v,e,h=>by
    cases e
    rw [show v=.bl b by simpa [Rep] using h]
    exact .bl b
  | .int b,p,v,e,h=>by
    cases e
    rw [show v=.int b by simpa [Rep] using h]
    exact .int b
  | .str b,p,v,e,h=>by
    cases e
    rw [show v=.str b by simpa [Rep] using h]
    exact .str b
  | .tup xs,p,v,e,h=>by
    simp only [D.py] at e
    obtain ⟨ps,e1,e2⟩:=Option.map_eq_some_iff.mp e
    cases e2
    simp only [Rep] at h
    obtain ⟨a,vs,rfl,h1,h2⟩:=h
    exact .tup h1.t (afC xs ps vs e1 h2)
  | .lst xs,p,v,e,h=>by
    simp only [D.py] at e
    obtain ⟨ps,e1,e2⟩:=Option.map_eq_some_iff.mp e
    cases e2
    simp only [Rep] at h
    obtain ⟨a,vs,rfl,h1,h2⟩:=h
    exact .lst (SqL.of h1) (afC xs ps vs e1 h2)
  | .obj _ _,p,v,e,h=>by cases e
  | .scr _,p,v,e,h=>by cases e
  | .ty _,p,v,e,h=>by cases e
  | .cls _,p,v,e,h=>by cases e
  | .exn _ _,p,v,e,h=>by cases e
  | .dk _,p,v,e,h=>by cases e
  | .dt _,p,v,e,h=>by cases e
theorem afC {M:Hp}:∀ (xs:List D) (ps:List PyData) (vs:List V),pys xs=some ps→Reps K M xs vs→DpAll K M vs ps
  | [],ps,vs,e,h=>by
    simp only [pys] at e
    cases e
    simp only [Reps] at h
    subst h
    exact .nil
  | x :: xs,ps,vs,e,h=>by
    simp only [pys] at e
    obtain ⟨d,e1,e⟩:=Option.bind_eq_some_iff.mp e
    obtain ⟨ds,e2,e⟩:=Option.bind_eq_some_iff.mp e
    cases e
    simp only [Reps] at h
    obtain ⟨v,r,rfl,h1,h2⟩:=h
    exact .cons (apm x d v e1 h1) (afC xs ds r e2 h2)
end
mutual
theorem Dp.up {M H:Hp} (e:Same M H):∀ {p:PyData} {v:V},Dp K M v p→Dp K H v p
  | _,_,.non=>.non
  | _,_,.bl b=>.bl b
  | _,_,.int i=>.int i
  | _,_,.str x=>.str x
  | _,_,.lst h a=>.lst (e.seq h) (DpAll.up e a)
  | _,_,.tup h a=>.tup (aa2 e h) (DpAll.up e a)
theorem DpAll.up {M H:Hp} (e:Same M H):∀ {ps:List PyData} {vs:List V},DpAll K M vs ps→DpAll K H vs ps
  | _,_,.nil=>.nil
  | _,_,.cons h t=>.cons (Dp.up e h) (DpAll.up e t)
end
theorem ag7 {M H:Hp} {d:D} {p:PyData} {v:V} (e:Same M H) (h:Rd2 K M H d v) (hp:d.py=some p):Dp K H v p:=by
  rcases h with h | ⟨l,o,rfl,a,eo⟩
  · exact Dp.up e (apm d p v hp h)
  · cases o with
    | lst xs=>
      cases eo
      simp only [D.py] at hp
      obtain ⟨ps,e1,e2⟩:=Option.map_eq_some_iff.mp hp
      cases e2
      obtain ⟨vs,h1,h2⟩:=a
      exact .lst (SqL.of h1) (DpAll.up e (afC xs ps vs e1 h2))
    | ob c fs=>cases eo; cases hp
    | dk _=>cases eo; cases hp
    | dt _=>cases eo; cases hp
theorem ad8 {M H:Hp} {d:D} {a v:V} (h:Rd2 K M H d v) (e:d.scal=some a):v=a:=by
  cases d with
  | non=>cases e; exact h.non
  | bl b=>cases e; exact h.bl
  | int i=>cases e; exact h.int
  | str x=>cases e; exact h.str
  | _=>cases e
abbrev rEqU (K:Fg):R2:=fun x y H Q=>rEq x y H Q∨rEqD K x y H Q
abbrev rNeU (K:Fg):R2:=fun x y H Q=>rNe x y H Q∨rNeD K x y H Q
theorem R4 {X:Cx} (hu:X.A.units+64 < cLine):OpR X (compareOp .Eq) (rEqU X.K):=op_eq.or (op_eqD hu)
theorem aim {X:Cx} (hu:X.A.units+64 < cLine):OpR X (compareOp .NotEq) (rNeU X.K):=op_ne.or (op_neD hu)
theorem ajD {x y:D} {b:Bool} (h:pEqB x y=some b):(∃ a c,x.scal=some a∧y.scal=some c∧L2.scal a c=true∧b=decide (a=c))∨
    ∃ p q,x.py=some p∧y.py=some q∧SeqAt.shaped p=true∧SeqAt.shaped q=true∧b=PyData.eqv p q:=by
  unfold pEqB at h
  split at h
  · split at h
    · cases h
      exact .inl ⟨_,_,by assumption,by assumption,by assumption,rfl⟩
    · cases h
  · split at h
    · split at h
      · rename_i hs
        cases h
        rw [Bool.and_eq_true] at hs
        exact .inr ⟨_,_,by assumption,by assumption,hs.1,hs.2,rfl⟩
      · cases h
    · cases h
theorem S9:OpOk K (rEqU K) pEq:=by
  intro M H dx dy x v u e hx hy hf Q q
  obtain ⟨b,hb,rfl⟩:=Option.map_eq_some_iff.mp hf
  rcases ajD hb with ⟨a,c,h1,h2,h3,rfl⟩ | ⟨a,c,h1,h2,h3,h4,rfl⟩
  · rw [ad8 hx h1,ad8 hy h2]
    exact .inl ⟨h3,q.im0 e aaG⟩
  · exact .inr ⟨a,c,ag7 e hx h1,ag7 e hy h2,h3,h4,q.im0 e aaG⟩
theorem akt:OpOk K (rNeU K) pNe:=by
  intro M H dx dy x v u e hx hy hf Q q
  obtain ⟨b,hb,rfl⟩:=Option.map_eq_some_iff.mp hf
  rcases ajD hb with ⟨a,c,h1,h2,h3,rfl⟩ | ⟨a,c,h1,h2,h3,h4,rfl⟩
  · rw [ad8 hx h1,ad8 hy h2]
    exact .inl ⟨h3,q.im0 e aaG⟩
  · exact .inr ⟨a,c,ag7 e hx h1,ag7 e hy h2,h3,h4,q.im0 e aaG⟩
theorem akK {M H:Hp} {d:D} {v:V} (h:Rd2 K M H d v):decide (v=.non)=d.isNon:=by
  rcases h with h | ⟨l,o,rfl,a,eo⟩
  · cases d with
    | non=>rw [show v=.non by simpa [Rep] using h]; rfl
    | bl b=>rw [show v=.bl b by simpa [Rep] using h]; rfl
    | int b=>rw [show v=.int b by simpa [Rep] using h]; rfl
    | str b=>rw [show v=.str b by simpa [Rep] using h]; rfl
    | ty b=>rw [show v=.ty b by simpa [Rep] using h]; rfl
    | cls b=>rw [show v=.ref (He.ga K b) by simpa [Rep] using h]; rfl
    | tup xs=>simp only [Rep] at h; obtain ⟨a,vs,rfl,_⟩:=h; rfl
    | tupW xs=>simp only [Rep] at h; obtain ⟨a,vs,rfl,_⟩:=h; rfl
    | lst xs=>simp only [Rep] at h; obtain ⟨a,vs,rfl,_⟩:=h; rfl
    | scr xs=>simp only [Rep] at h; obtain ⟨a,rfl,_⟩:=h; rfl
    | obj c xs=>simp only [Rep] at h; obtain ⟨a,dx,fvs,rfl,_⟩:=h; rfl
    | exn c xs=>simp only [Rep] at h; obtain ⟨a,dx,rfl,_⟩:=h; rfl
    | dk xs=>simp only [Rep] at h; obtain ⟨a,o,vs,rfl,_⟩:=h; rfl
    | dt xs=>simp only [Rep] at h; obtain ⟨a,o,vs,rfl,_⟩:=h; rfl
  · cases o with
    | lst xs=>cases eo; rfl
    | ob c fs=>cases eo; rfl
    | dk _=>cases eo; rfl
    | dt _=>cases eo; rfl
end
def pIsN (x y:D):Option X:=if y.isNon then some (.im (.bl x.isNon)) else none
section
variable {K:Fg} [WD K]
theorem aqw {M H:Hp} {d:D} {v:V} (h:Rd2 K M H d v) (e:d.isNon=true):v=.non:=by
  have:=akK h
  rw [e] at this
  exact of_decide_eq_true this
theorem anP:OpOk K (fun x y H Q=>y=.non∧Q (.bl (decide (x=.non))) H) pIsN:=by
  intro M H dx dy x v u e hx hy hf Q q
  unfold pIsN at hf
  split at hf
  · rename_i h
    cases hf
    exact ⟨aqw hy h,by rw [akK hx]; exact q.im0 e aaG⟩
  · cases hf
end
end Dn
namespace Dn
open PySem PySem.Spec PyProof.Rows L2
def items:D→Option (List D)
  | .lst xs=>some xs
  | .tup xs=>some xs
  | _=>none
def pNotIn (x y:D):Option X:=(pInB x y).map fun b=>.im (.bl (!b))
abbrev rInU (K:Fg):R2:=fun x y H Q=>rIn K false x y H Q∨(∃ (c:Nat) (z:Str),x=.str ⟨#[c]⟩∧y=.str z∧Q (.bl (decide (c∈z.cps.toList))) H)∨rInD K x y H Q
abbrev rNotInU (K:Fg):R2:=fun x y H Q=>rIn K true x y H Q∨(∃ (c:Nat) (z:Str),x=.str ⟨#[c]⟩∧y=.str z∧Q (.bl (!decide (c∈z.cps.toList))) H)∨rNotInD K x y H Q
theorem akL {X:Cx} (hu:X.A.units+65 < cLine):OpR X (compareOp .In) (rInU X.K):=op_in_seq.or (op_in_sign.or (op_inD hu))
theorem agw {X:Cx} (hu:X.A.units+65 < cLine):OpR X (compareOp .NotIn) (rNotInU X.K):=op_notIn_seq.or (op_notIn_sign.or (op_notInD hu))
section
variable {K:Fg} [WD K]
theorem agx {d:D} {a:V} (e:d.scal=some a):flatV a=true:=by
  cases d <;> cases e <;> rfl
theorem aoG {M:Hp} {d:D} {a v:V} (h:Rep K M d v) (e:d.scal=some a):v=a:=by
  cases d <;> cases e <;> simpa [Rep] using h
theorem agy {M:Hp}:∀ {xs:List D} {vs us:List V},Reps K M xs vs→scals xs=some us→vs=us∧us.all flatV=true
  | [],vs,us,h,e=>by
    simp only [Reps] at h
    simp only [scals] at e
    cases e
    exact ⟨h,rfl⟩
  | x :: xs,vs,us,h,e=>by
    simp only [Reps] at h
    obtain ⟨v,r,rfl,h1,h2⟩:=h
    simp only [scals] at e
    obtain ⟨a,e1,e⟩:=Option.bind_eq_some_iff.mp e
    obtain ⟨as,e2,e⟩:=Option.bind_eq_some_iff.mp e
    cases e
    obtain ⟨q1,q2⟩:=agy h2 e2
    rw [aoG h1 e1,q1]
    exact ⟨rfl,by rw [List.all_cons,agx e1,q2]; rfl⟩
theorem one_sign {c:Str} (h:c.cps.size=1):c= ⟨#[c.cps.getD 0 0]⟩:=by
  obtain ⟨a⟩:=c
  have h':a.size=1:=h
  congr 1
  apply Array.ext
  · rw [h']; rfl
  · intro i h1 h2
    have:i=0:=by omega
    subst this
    simp [Array.getD,h']
theorem anQ {M H:Hp} {dx dy:D} {v u:V} {b:Bool} (e:Same M H) (hx:Rd2 K M H dx v) (hy:Rd2 K M H dy u) (hf:pInB dx dy=some b):
    (∃ p xs,u=.ref p∧(SqL K H p xs∨SqT K H p xs)∧flatV v=true∧xs.all flatV=true∧b=inV v xs)∨
    (∃ (c:Nat) (z:Str),v=.str ⟨#[c]⟩∧u=.str z∧b=decide (c∈z.cps.toList))∨
    (∃ d ds,Dp K H v d∧Dp K H u (.list ds)∧SeqAt.shaped d=true∧SeqAt.shaped (.list ds)=true∧b=ds.any fun z=>PyData.eqv z d):=by
  unfold pInB at hf
  split at hf
  · split at hf
    · split at hf
      · rename_i h
        cases hf
        refine .inr (.inl ⟨_,_,?_,hy.str,rfl⟩)
        rw [hx.str]
        exact congrArg V.str (one_sign h)
      · cases hf
    · cases hf
  · rename_i ys
    split at hf
    · rename_i a vs h1 h2
      cases hf
      obtain ⟨p,us,rfl,h3,h4⟩:=hy.lst e
      obtain ⟨h5,h6⟩:=agy h4 h2
      subst h5
      rw [ad8 hx h1]
      exact .inl ⟨p,us,rfl,.inl (SqL.of h3),agx h1,h6,rfl⟩
    · split at hf
      · split at hf
        · rename_i d ds h1 h2 h3
          cases hf
          rw [Bool.and_eq_true] at h3
          exact .inr (.inr ⟨d,ds,ag7 e hx h1,ag7 e hy (by simp only [D.py]; rw [h2]; rfl),h3.1,h3.2,rfl⟩)
        · cases hf
      · cases hf
  · rename_i ys
    split at hf
    · rename_i a vs h1 h2
      cases hf
      obtain ⟨p,us,rfl,h3,h4⟩:=hy.tup e
      obtain ⟨h5,h6⟩:=agy h4 h2
      subst h5
      rw [ad8 hx h1]
      exact .inl ⟨p,us,rfl,.inr h3,agx h1,h6,rfl⟩
    · cases hf
  · cases hf
theorem anj:OpOk K (rInU K) pIn:=by
  intro M H dx dy x v u e hx hy hf Q q
  obtain ⟨b,hb,rfl⟩:=Option.map_eq_some_iff.mp hf
  have k:=q.im0 e (aaG (K:=K))
  rcases anQ e hx hy hb with ⟨p,xs,h1,h2,h3,h4,rfl⟩ | ⟨c,z,h1,h2,rfl⟩ | ⟨d,ds,h1,h2,h3,h4,rfl⟩
  · exact .inl ⟨p,xs,h1,h2,h3,h4,k⟩
  · exact .inr (.inl ⟨c,z,h1,h2,k⟩)
  · exact .inr (.inr ⟨d,ds,h1,h2,h3,h4,k⟩)
theorem ah0:OpOk K (rNotInU K) pNotIn:=by
  intro M H dx dy x v u e hx hy hf Q q
  obtain ⟨b,hb,rfl⟩:=Option.map_eq_some_iff.mp hf
  have k:=q.im0 e (aaG (K:=K))
  rcases anQ e hx hy hb with ⟨p,xs,h1,h2,h3,h4,rfl⟩ | ⟨c,z,h1,h2,rfl⟩ | ⟨d,ds,h1,h2,h3,h4,rfl⟩
  · exact .inl ⟨p,xs,h1,h2,h3,h4,k⟩
  · exact .inr (.inl ⟨c,z,h1,h2,k⟩)
  · exact .inr (.inr ⟨d,ds,h1,h2,h3,h4,k⟩)
end
section
variable {K:Fg} [WD K]
theorem amF {M:Hp} {xs:List D} {vs:List V} {i:Int} {x:D} (r:Reps K M xs vs) (h:atI xs i=some x):∃ v,atI vs i=some v∧Rep K M x v:=by
  unfold atI at h ⊢
  rw [← r.length]
  obtain ⟨j,h1,h2⟩:=Option.bind_eq_some_iff.mp h
  obtain ⟨v,h3,h4⟩:=r.get h2
  exact ⟨v,by rw [h1]; exact h3,h4⟩
theorem R7:OpOk K (rIx K) pIx:=by
  intro M H dx dy x v u e hx hy hf Q q
  unfold pIx at hf
  split at hf
  · obtain ⟨d,h,rfl⟩:=Option.map_eq_some_iff.mp hf
    obtain ⟨a,vs,rfl,h1,h2⟩:=hx.lst e
    obtain ⟨w,h3,h4⟩:=amF h2 h
    rw [hy.int]
    exact .inl ⟨a,vs,_,w,rfl,rfl,SqL.of h1,h3,q.im0 e h4⟩
  · obtain ⟨d,h,rfl⟩:=Option.map_eq_some_iff.mp hf
    obtain ⟨a,vs,rfl,h1,h2⟩:=hx.tup e
    obtain ⟨w,h3,h4⟩:=amF h2 h
    rw [hy.int]
    exact .inr (.inl ⟨a,vs,_,w,rfl,rfl,h1,h3,q.im0 e h4⟩)
  · obtain ⟨d,h,rfl⟩:=Option.map_eq_some_iff.mp hf
    obtain ⟨a,rfl,h1⟩:=hx.scr e
    rw [hy.int]
    refine .inl ⟨a,_,_,.int d,rfl,rfl,h1,?_,q.im0 e Y6⟩
    unfold atI at h ⊢
    obtain ⟨j,h1,h2⟩:=Option.bind_eq_some_iff.mp h
    rw [List.length_map,h1]
    show (_:List V)[j]?=_
    rw [List.getElem?_map,h2]
    rfl
  · split at hf
    · rename_i hz
      obtain ⟨d,h,rfl⟩:=Option.map_eq_some_iff.mp hf
      rw [hx.str,hy.int]
      exact .inr (.inr ⟨_,_,d,rfl,rfl,aae hz,h,q.im0 e aaA⟩)
    · cases hf
  · cases hf
theorem Reps.cut {M:Hp} {xs:List D} {vs:List V} (r:Reps K M xs vs) (lo hi:Option Int):Reps K M (cutD xs lo hi) (cutV vs lo hi):=by
  unfold cutD cutV
  rw [r.length]
  exact (r.drop _).take _
theorem ank {α:Type} (xs:List α) (lo hi:Option Int) (h:HT.sIx xs.length 0 lo=0∧HT.sIx xs.length xs.length hi=xs.length):cutD xs lo hi=xs:=by
  unfold cutD
  rw [h.1,h.2]
  simp
def rSlN (K:Fg):V→Option Int→Option Int→Hp→VK→Prop:=fun x lo hi H Q=>∃ a xs,x=.ref a∧SqT K H a xs∧
  (HT.sIx xs.length 0 lo=0∧HT.sIx xs.length xs.length hi=xs.length→Q (.ref a) H)∧(¬ (HT.sIx xs.length 0 lo=0∧HT.sIx xs.length xs.length hi=xs.length)→∀ p (o:Obj),H p=none→o.dict=none→Q (.ref p) (upd H p (.frz o (.tup (cutV xs lo hi)))))
theorem apA {X:Cx}:SlR X (rSlN X.K):=by
  intro pins s σ H x v vl vu lo hi sl Q I rx hs pl pu h
  obtain ⟨a,xs,rfl,hx,q1,q2⟩:=h
  cases rx
  obtain ⟨its,r,ht,hz⟩:=I.tuple hx
  have hlen:its.toArray.size=xs.length:=by rw [List.size_toArray]; exact r.length.symm
  refine ⟨"tuple",_,PyProof.Rows.slot_tuple_getitem.lookup,ht.typeIs,?_⟩
  by_cases hw:HT.sIx xs.length 0 lo=0∧HT.sIx xs.length xs.length hi=xs.length
  · exact L2.getItem_tuple_whole ht hs pl pu (by rw [hlen]; exact hw) ⟨.ref a,H,I,rfl,q1 hw⟩
  · refine HT.getItem_tuple_cut ht hs pl pu (by rw [hlen]; exact hw) ?_ (by rw [hlen]; exact hz)
    rw [hlen]
    exact ⟨.ref s.heap.objs.size,_,I.newTup ((r.drop (HT.sIx xs.length 0 lo)).take (HT.sIx xs.length xs.length hi - HT.sIx xs.length 0 lo)) (Nat.le_trans (cutV_length xs lo hi) hz),rfl,q2 hw _ _ (I.hok.fresh (Nat.le_refl _)) rfl⟩
abbrev rSlU (K:Fg):V→Option Int→Option Int→Hp→VK→Prop:=fun x lo hi H Q=>rSlL K x lo hi H Q∨rSlN K x lo hi H Q∨rSlS x lo hi H Q
theorem anl {X:Cx}:SlR X (rSlU X.K):=sl_list.or (apA.or sl_str)
theorem arn {M H:Hp} {dx:D} {x:X} {v:V} {lo hi:Option Int} (e:Same M H) (hx:Rd2 K M H dx v) (hf:pSl dx lo hi=some x) {Q:VK} (q:Fin K M H x Q):rSlU K v lo hi H Q:=by
  unfold pSl at hf
  split at hf
  · cases hf
    obtain ⟨a,vs,rfl,h1,h2⟩:=hx.lst e
    exact .inl ⟨a,vs,rfl,SqL.of h1,fun p n=>q.lst e (h2.cut _ _) n⟩
  · cases hf
    obtain ⟨a,vs,rfl,h1,h2⟩:=hx.tup e
    refine .inr (.inl ⟨a,vs,rfl,h1,fun hw=>?_,fun hw p o n hd=>q.tup e (h2.cut _ _) n hd⟩)
    rw [ank _ _ _ (by rw [h2.length]; exact hw)] at q
    exact q.im0 e hx.tupR
  · split at hf
    · rename_i hz
      cases hf
      rw [hx.str]
      exact .inr (.inr ⟨_,rfl,aae hz,q.im0 e aaA⟩)
    · cases hf
  · cases hf
end
end Dn
namespace Dn
open PySem PySem.Spec PyProof.Rows L2
section
variable {K:Fg} [WD K] {W:WS} {M M' M1 M2:Hp} {env env' env1 env2:Ev} {σ σ':L2.St} {H H' H1 H2:Hp} {x y:X} {v u:V} {ta tb tc te:TE} {da db dc de:Ev→RE X}
open Classical in
noncomputable def frzM (M' H H':Hp) (env':Ev) (σ':L2.St):Hp:=fun a=>if M' a=none∧H a=none∧¬ Own env' σ' a then H' a else M' a
theorem akM {a:Addr} {o:HO} (e:M' a=some o):frzM M' H H' env' σ' a=some o:=by
  unfold frzM
  rw [if_neg (by rw [e]; intro z; exact nomatch z.1),e]
theorem aoH {a:Addr} (h1:M' a=none) (h2:H a=none) (h3:¬ Own env' σ' a):frzM M' H H' env' σ' a=H' a:=if_pos ⟨h1,h2,h3⟩
theorem ai1 {a:Addr} {o:HO} (e:frzM M' H H' env' σ' a=some o):M' a=some o∨(M' a=none∧H a=none∧¬ Own env' σ' a∧H' a=some o):=by
  unfold frzM at e
  split at e
  · rename_i h
    exact .inr ⟨h.1,h.2.1,h.2.2,e⟩
  · exact .inl e
theorem abq (g:Grow M env σ H M' env' σ' H'):Grow M env σ H (frzM M' H H' env' σ') env' σ' H' where
  exM:=fun a o e=>akM (g.exM a o e)
  fr:=g.fr
  new:=fun l o e=>by
    rcases ai1 e with q | q
    · exact g.new l o q
    · exact .inr (.inl q.2.1)
  own:=g.own
  pin:=g.pin
  dom:=g.dom
  len:=g.len
theorem abY:Same M' (frzM M' H H' env' σ'):=fun a o e=>akM e
theorem aaU (h:Holds K M' env' σ' H'):Holds K (frzM M' H H' env' σ') env' σ' H' where
  ex:=fun a o e=>by
    rcases ai1 e with q | q
    · exact h.ex a o q
    · exact q.2.2.2
  len:=h.len
  slot:=fun i s q=>by
    have:=h.slot i s q
    cases s with
    | no=>trivial
    | hid=>trivial
    | im d=>obtain ⟨u,e1,e2⟩:=this; exact ⟨u,e1,Rep.mono abY _ _ e2⟩
    | ow p o=>
      obtain ⟨l,e1,e2,e3⟩:=this
      refine ⟨l,e1,e2.mono abY fun _ q=>q,?_⟩
      cases q2:frzM M' H H' env' σ' l with
      | none=>rfl
      | some u=>
        rcases ai1 q2 with z | z
        · rw [e3] at z; cases z
        · exact (z.2.2.1 ⟨i,p,o,q,e1⟩).elim
  dj:=h.dj
theorem afj (r:RX K σ H M' H' env' x v) {d:D} (e:frz x=some d):Rep K (frzM M' H H' env' σ) d v:=by
  obtain ⟨r,n⟩:=r
  cases x with
  | im d'=>
    cases e
    exact Rep.mono abY _ _ r
  | sl i=>cases e
  | ow o=>
    obtain ⟨l,rfl,a,m,no⟩:=r
    have hn:=aoH (H':=H') m (n o rfl l rfl) no
    cases o with
    | lst xs=>
      cases e
      obtain ⟨vs,e1,e2⟩:=a
      simp only [Rep]
      exact ⟨l,vs,rfl,hn.trans e1,Reps.mono abY _ _ e2⟩
    | ob c fs=>
      cases e
      obtain ⟨dx,fvs,e1,e2⟩:=a
      simp only [Rep]
      exact ⟨l,dx,fvs,rfl,hn.trans e1,RepF.mono abY _ _ e2⟩
    | dk kvs=>
      cases e
      obtain ⟨o,vs,e1,e3,e2⟩:=a
      simp only [Rep]
      exact ⟨l,o,vs,rfl,hn.trans e1,e3,aeg.mpr (RepK.mono abY e2)⟩
    | dt kvs=>
      cases e
      obtain ⟨o,vs,e1,e3,e2⟩:=a
      simp only [Rep]
      exact ⟨l,o,vs,rfl,hn.trans e1,e3,aeh.mpr (RepT.mono abY e2)⟩
theorem aej:∀ {xs:List X} {vs:List V} {ds:List D},RA K σ H M' H' env' xs vs→frzs xs=some ds→Reps K (frzM M' H H' env' σ) ds vs
  | [],_,_,.nil,e=>by
    cases e
    exact Reps.nil
  | x :: xs,_,_,.cons r rs,e=>by
    obtain ⟨dx,e1,e⟩:=Option.bind_eq_some_iff.mp (show ((frz x).bind fun d=>(frzs xs).bind fun ds=>some (d :: ds))=_ from e)
    obtain ⟨dy,e2,e⟩:=Option.bind_eq_some_iff.mp e
    cases e
    exact Reps.cons (afj r e1) (aej rs e2)
theorem abQ {d:D} {H0:Hp} (r:Rep K M d v):RX K σ H0 M H env (.im d) v:=⟨r,fun _ z=>nomatch z⟩
theorem O6 (h:DE K W te de):DE K W te (dFrz de):=fun M σ H env hh=>by
  have h1:=h M σ H env hh
  unfold dFrz
  cases e1:de env with
  | bad=>trivial
  | exc e env1=>rw [e1] at h1; exact h1
  | ok x env1=>
    rw [e1] at h1
    show Sat K W M σ H env (opt ((frz x).map X.im) env1) (RX K σ) (te σ H)
    cases e2:frz x with
    | none=>trivial
    | some d=>exact fun Q k=>h1 Q fun v M' H' g s hh' r=>k v _ H' (abq g) s (aaU hh') (abQ (afj r e2))
def dLst (da:Ev→RE (List X)):Ev→RE X:=fun env=>(da env).bind fun xs e1=>opt ((frzs xs).bind fun ds=>if fit ds.length then some (X.ow (.lst ds)) else none) e1
def tTupN (t:TA):TE:=fun σ H Q=>t σ H fun xs H1=>xs.length≤sizeLine∧∀ p (o:Obj),H1 p=none→o.dict=none→Q (.ref p) (upd H1 p (.frz o (.tup xs)))
theorem W4 {X:Cx} {es:List Expr} {pos:Pos} {t:TA} {x1} (h:PA X es t):PE X (.Tuple es x1 pos) (tTupN t):=by
  refine ⟨fun pins s σ H Q I hq=>?_⟩
  refine wpAny_Tuple_spliced (thn (h.run pos pins s σ H _ I hq) fun us s1 ⟨xs,H1,I1,r,z,q⟩=>⟨by rw [← r.length]; exact z,?_⟩)
  exact ⟨.ref s1.heap.objs.size,_,I1.newTup r z,rfl,q _ _ (I1.hok.fresh (Nat.le_refl _)) rfl⟩
theorem Z3 {ta:TA} {da:Ev→RE (List X)} (h:DA K W ta da):DE K W (tTupN ta) (dTup da):=fun M σ H env hh=>by
  have h1:=h M σ H env hh
  unfold dTup
  cases e1:da env with
  | bad=>trivial
  | exc e env1=>rw [e1] at h1; exact fun Q k=>h1 _ k
  | ok xs env1=>
    rw [e1] at h1
    show Sat K W M σ H env (opt ((frzs xs).bind fun ds=>if fit ds.length then some (X.im (.tup ds)) else none) env1) (RX K σ) (tTupN ta σ H)
    cases e2:frzs xs with
    | none=>trivial
    | some ds=>
      show Sat K W M σ H env (opt (if fit ds.length then some (X.im (.tup ds)) else none) env1) (RX K σ) (tTupN ta σ H)
      cases e3:fit ds.length with
      | false=>trivial
      | true=>
        refine fun Q k=>h1 _ fun vs M' H' g s hh' r=>?_
        have r2:=aej r e2
        have g2:=abq g
        have hh2:=aaU (H:=H) hh'
        refine ⟨by rw [← r2.length]; exact aae e3,fun p o n hd=>?_⟩
        have e:=aiY hh2.ex (o:=.frz o (.tup vs)) n
        exact k _ _ _ (g2.trans hh (e.grow hh2)) s (e.holds hh2) (abQ (apz (.inl ⟨o,upd_same,hd⟩) (Reps.mono e.exM _ _ r2)))
theorem aaH {ta:TA} {da:Ev→RE (List X)} (h:DA K W ta da):DE K W (tLst ta) (dLst da):=fun M σ H env hh=>by
  have h1:=h M σ H env hh
  unfold dLst
  cases e1:da env with
  | bad=>trivial
  | exc e env1=>rw [e1] at h1; exact fun Q k=>h1 _ k
  | ok xs env1=>
    rw [e1] at h1
    show Sat K W M σ H env (opt ((frzs xs).bind fun ds=>if fit ds.length then some (X.ow (.lst ds)) else none) env1) (RX K σ) (tLst ta σ H)
    cases e2:frzs xs with
    | none=>trivial
    | some ds=>
      show Sat K W M σ H env (opt (if fit ds.length then some (X.ow (.lst ds)) else none) env1) (RX K σ) (tLst ta σ H)
      cases e3:fit ds.length with
      | false=>trivial
      | true=>
        refine fun Q k=>h1 _ fun vs M' H' g s hh' r=>?_
        have r2:=aej r e2
        have g2:=abq g
        have hh2:=aaU (H:=H) hh'
        refine ⟨by rw [← r2.length]; exact aae e3,fun p n=>?_⟩
        have e:=amE hh2.ex (o:=.lst vs) n
        refine k _ _ _ (g2.trans hh (e.grow hh2)) s (e.holds hh2) ⟨⟨p,rfl,⟨vs,upd_same,r2⟩,hh2.ex.free n,fun z=>?_⟩,fun o _ l z=>by cases z; exact g.dom _ n⟩
        obtain ⟨u,q⟩:=hh2.ownSome z
        rw [n] at q
        cases q
def RO:Hp→Hp→Hp→Ev→Option Int→Option Int→Prop:=fun _ _ _ _ x v=>x=v
theorem aqx:Back RO:=fun _ _ _ _ _ _ _ _ h=>h
def DO (K:Fg) [WD K] (W:WS) (t:TO) (d:Ev→RE (Option Int)):Prop:=∀ (M:Hp) (σ:L2.St) (H:Hp) (env:Ev),Holds K M env σ H→Sat K W M σ H env (d env) RO (t σ H)
def dNone:Ev→RE (Option Int):=fun env=>.ok none env
theorem ai2:DO K W tNoPart dNone:=fun M σ H env hh Q k=>k none M H .refl (.refl _) hh rfl
theorem afk (h:DE K W te de):DO K W (tPart te) (dSome de):=fun M σ H env hh=>by
  refine Sat.bind (c:=fun v H1 Q=>∃ i,v=V.int i∧Q (some i) H1) aqx hh (h M σ H env hh) (fun Q q=>q) fun M1 H1 env1 x v g1 s1 hh1 r1=>?_
  cases e:rd env1 x with
  | none=>trivial
  | some d=>
    cases d with
    | int i=>exact fun Q k=>⟨i,(abP hh1 r1.1 e).int,k (some i) M1 H1 .refl (.refl _) hh1 rfl⟩
    | _=>trivial
theorem aku {dl dh:Ev→RE (Option Int)} {tl th:TO} (ha:DE K W ta da) (hl:DO K W tl dl) (hh':DO K W th dh):DE K W (tSl (rSlU K) ta tl th) (dSl da dl dh):=fun M σ H env hh=>by
  refine Sat.bind (c:=fun v H1 Q=>tl σ H1 fun l H2=>th σ H2 fun u H3=>rSlU K v l u H3 Q) V2 hh (ha M σ H env hh) (fun Q q=>q) fun M1 H1 env1 x v g1 s1 hh1 r1=>?_
  refine Sat.bind (c:=fun l H2 Q=>th σ H2 fun u H3=>rSlU K v l u H3 Q) V2 hh1 (hl M1 σ H1 env1 hh1) (fun Q q=>q) fun M2 H2 env2 lo lo' g2 s2 hh2 r2=>?_
  cases (show lo=lo' from r2)
  refine Sat.bind (c:=fun u H3 Q=>rSlU K v lo u H3 Q) V2 hh2 (hh' M2 σ H2 env2 hh2) (fun Q q=>q) fun M3 H3 env3 hi hi' g3 s3 hh3 r3=>?_
  cases (show hi=hi' from r3)
  refine ad7 hh3 fun z e Q q=>?_
  obtain ⟨dx,e1,e⟩:=Option.bind_eq_some_iff.mp e
  exact arn hh3.ex (abP hh3 (RepX.grow hh2 (RepX.grow hh1 r1.1 g2 s2) g3 s3) e1) e q
variable {tt tu:TT} {dt du:Ev→RE Bool}
theorem G9 (h:DE K W te de):DT K W (tTest te) (K8 de):=fun M σ H env hh=>by
  refine Sat.bind (c:=fun v H1 Q=>∃ k,v=V.bl k∧Q k H1) ail hh (h M σ H env hh) (fun Q q=>q) fun M1 H1 env1 x v g1 s1 hh1 r1=>?_
  cases e:rd env1 x with
  | none=>trivial
  | some d=>
    cases d with
    | bl i=>exact fun Q k=>⟨i,(abP hh1 r1.1 e).bl,k i M1 H1 .refl (.refl _) hh1 rfl⟩
    | _=>trivial
def dtAnd (a b:Ev→RE Bool):Ev→RE Bool:=fun env=>(a env).bind fun c e1=>if c=true then b e1 else .ok false e1
theorem akN (ha:DT K W tt dt) (hb:DT K W tu du):DT K W (tAnd tt tu) (dtAnd dt du):=fun M σ H env hh=>by
  refine Sat.bind (c:=fun c H1 Q=>if c=true then tu σ H1 Q else Q false H1) ail hh (ha M σ H env hh) (fun Q q=>q) fun M1 H1 env1 x v g1 s1 hh1 r1=>?_
  cases (show x=v from r1)
  cases x with
  | true=>exact hb M1 σ H1 env1 hh1
  | false=>exact fun Q k=>k false M1 H1 .refl (.refl _) hh1 rfl
theorem aeF (ha:DT K W tt dt) (hb:DT K W tu du):DT K W (tOr tt tu) (dtOr dt du):=fun M σ H env hh=>by
  refine Sat.bind (c:=fun c H1 Q=>if c=true then Q true H1 else tu σ H1 Q) ail hh (ha M σ H env hh) (fun Q q=>q) fun M1 H1 env1 x v g1 s1 hh1 r1=>?_
  cases (show x=v from r1)
  cases x with
  | false=>exact hb M1 σ H1 env1 hh1
  | true=>exact fun Q k=>k true M1 H1 .refl (.refl _) hh1 rfl
theorem aaV (ha:DT K W tt dt):DT K W (tNot tt) (dtNot dt):=fun M σ H env hh=>by
  refine Sat.bind (c:=fun c H1 Q=>Q (!c) H1) ail hh (ha M σ H env hh) (fun Q q=>q) fun M1 H1 env1 x v g1 s1 hh1 r1=>?_
  cases (show x=v from r1)
  exact fun Q k=>k (!x) M1 H1 .refl (.refl _) hh1 rfl
def dNotV (da:Ev→RE X):Ev→RE X:=fun env=>(K8 da env).bind fun c e1=>.ok (.im (.bl (!c))) e1
theorem afl (ha:DE K W ta da) (hb:DE K W tb db):DE K W (tAndV ta tb) (dAndV da db):=fun M σ H env hh=>by
  refine Sat.bind (c:=fun c H1 Q=>if c=true then tb σ H1 Q else Q (.bl false) H1) V2 hh (G9 ha M σ H env hh) (fun Q q=>q) fun M1 H1 env1 x v g1 s1 hh1 r1=>?_
  cases (show x=v from r1)
  cases x with
  | true=>exact hb M1 σ H1 env1 hh1
  | false=>exact fun Q k=>k _ M1 H1 .refl (.refl _) hh1 (abQ aaG)
theorem anR (ha:DE K W ta da) (hb:DE K W tb db):DE K W (tOrV ta tb) (dOrV da db):=fun M σ H env hh=>by
  refine Sat.bind (c:=fun c H1 Q=>if c=true then Q (.bl true) H1 else tb σ H1 Q) V2 hh (G9 ha M σ H env hh) (fun Q q=>q) fun M1 H1 env1 x v g1 s1 hh1 r1=>?_
  cases (show x=v from r1)
  cases x with
  | false=>exact hb M1 σ H1 env1 hh1
  | true=>exact fun Q k=>k _ M1 H1 .refl (.refl _) hh1 (abQ aaG)
theorem apB (ha:DE K W ta da):DE K W (tNotV ta) (dNotV da):=fun M σ H env hh=>by
  refine Sat.bind (c:=fun c H1 Q=>Q (.bl (!c)) H1) V2 hh (G9 ha M σ H env hh) (fun Q q=>q) fun M1 H1 env1 x v g1 s1 hh1 r1=>?_
  cases (show x=v from r1)
  exact fun Q k=>k _ M1 H1 .refl (.refl _) hh1 (abQ aaG)
theorem aoI {p q:Int→Int→Bool} (ha:DE K W ta da) (hb:DE K W tb db) (hc:DE K W tc dc):DE K W (tChain (rI0 fun i j=>.bl (p i j)) (rI0 fun i j=>.bl (q i j)) ta tb tc) (dChain p q da db dc):=fun M σ H env hh=>by
  refine Sat.bind (c:=fun v H1 Q=>tb σ H1 fun y H2=>(rI0 fun i j=>.bl (p i j)) v y H2 fun z H3=>∃ k,z=.bl k∧(if k=true then tc σ H3 fun w' H4=>(rI0 fun i j=>.bl (q i j)) y w' H4 Q else Q (.bl false) H3)) V2 hh (ha M σ H env hh) (fun Q q=>q) fun M1 H1 env1 x v g1 s1 hh1 r1=>?_
  refine Sat.bind (c:=fun y H2 Q=>(rI0 fun i j=>.bl (p i j)) v y H2 fun z H3=>∃ k,z=.bl k∧(if k=true then tc σ H3 fun w' H4=>(rI0 fun i j=>.bl (q i j)) y w' H4 Q else Q (.bl false) H3)) V2 hh1 (hb M1 σ H1 env1 hh1) (fun Q q=>q) fun M2 H2 env2 y u g2 s2 hh2 r2=>?_
  cases e1:rd env2 x with
  | none=>trivial
  | some dx=>
    cases e2:rd env2 y with
    | none=>cases dx <;> trivial
    | some dy=>
      cases dx with
      | int i=>
        cases dy with
        | int j=>
          have hx:=(abP hh2 (RepX.grow hh1 r1.1 g2 s2) e1).int
          have hy:=(abP hh2 r2.1 e2).int
          show Sat K W M2 σ H2 env2 (if p i j=true then _ else _) (RX K σ) _
          cases e3:p i j with
          | true=>
            show Sat K W M2 σ H2 env2 ((dc env2).bind _) (RX K σ) _
            refine Sat.bind (c:=fun w' H4 Q=>(rI0 fun i j=>.bl (q i j)) u w' H4 Q) V2 hh2 (hc M2 σ H2 env2 hh2) (fun Q k=>⟨i,j,hx,hy,true,by show V.bl (p i j)=_; rw [e3],by rw [if_pos rfl]; exact k⟩) fun M3 H3 env3 z w g3 s3 hh3 r3=>?_
            cases e4:rd env3 z with
            | none=>trivial
            | some dz=>
              cases dz with
              | int k=>
                have hz:=(abP hh3 r3.1 e4).int
                exact fun Q kk=>⟨j,k,hy,hz,kk _ M3 H3 .refl (.refl _) hh3 (abQ aaG)⟩
              | _=>trivial
          | false=>
            exact fun Q k=>⟨i,j,hx,hy,false,by show V.bl (p i j)=_; rw [e3],by rw [if_neg (by decide)]; exact k _ M2 H2 .refl (.refl _) hh2 (abQ aaG)⟩
        | _=>trivial
      | _=>cases dy <;> trivial
end
end Dn
namespace Dn
open PySem PySem.Spec PyProof.Rows L2
def DS (K:Fg) [WD K] (W:WS) (ts:TS) (ds:Ev→RS):Prop:=∀ (M:Hp) (σ:L2.St) (H:Hp) (env:Ev),Holds K M env σ H→SatS K W M σ H env (ds env) (fun D=>ts D σ H)
section
variable {K:Fg} [WD K] {W:WS} {M M' M1 M2:Hp} {env env' env1 env2:Ev} {σ σ' σ1:L2.St} {H H' H1 H2:Hp} {x y:X} {v u:V} {ta tb tc te:TE} {da db dc de:Ev→RE X} {ts tu:TS} {ds du:Ev→RS} {tt:TT} {dt:Ev→RE Bool}
theorem SatS.later {r:RS} {t:Ends→Prop} (hh:Holds K M env σ H) (g:Grow M env σ H M1 env1 σ1 H1) (h:SatS K W M1 σ1 H1 env1 r t):SatS K W M σ H env r t:=by
  cases r with
  | bad=>trivial
  | nx env'=>exact fun D k=>h D fun σ' M' H' g2 hh2=>k σ' M' H' (g.trans hh g2) hh2
  | bk env'=>exact fun D k=>h D fun σ' M' H' g2 hh2=>k σ' M' H' (g.trans hh g2) hh2
  | ct env'=>exact fun D k=>h D fun σ' M' H' g2 hh2=>k σ' M' H' (g.trans hh g2) hh2
  | rt x env'=>exact fun D k=>h D fun v σ' M' H' g2 hh2 r=>k v σ' M' H' (g.trans hh g2) hh2 (V2 _ _ _ _ _ _ _ g.dom r)
  | exc e env'=>exact fun D k=>h D fun c d σ' M' H' g2 hh2 r=>k c d σ' M' H' (g.trans hh g2) hh2 r
theorem M8:DS K W tNext O5:=fun M σ H env hh D k=>k σ M H .refl hh
theorem G3 (ha:DS K W ts ds) (hb:DS K W tu du):DS K W (tSeq ts tu) (t8 ds du):=fun M σ H env hh=>by
  have h1:=ha M σ H env hh
  unfold t8
  cases e1:ds env with
  | bad=>trivial
  | rt x env'=>rw [e1] at h1; exact fun D k=>h1 { D with nx:=tu D } k
  | bk env'=>rw [e1] at h1; exact fun D k=>h1 { D with nx:=tu D } k
  | ct env'=>rw [e1] at h1; exact fun D k=>h1 { D with nx:=tu D } k
  | exc e env'=>rw [e1] at h1; exact fun D k=>h1 { D with nx:=tu D } k
  | nx env1=>
    rw [e1] at h1
    show SatS K W M σ H env (du env1) _
    cases e2:du env1 with
    | bad=>trivial
    | nx env'=>exact fun D k=>h1 { D with nx:=tu D } fun σ1 M1 H1 g hh1=>(by have:=SatS.later hh g (hb M1 σ1 H1 env1 hh1); rw [e2] at this; exact this D k)
    | bk env'=>exact fun D k=>h1 { D with nx:=tu D } fun σ1 M1 H1 g hh1=>(by have:=SatS.later hh g (hb M1 σ1 H1 env1 hh1); rw [e2] at this; exact this D k)
    | ct env'=>exact fun D k=>h1 { D with nx:=tu D } fun σ1 M1 H1 g hh1=>(by have:=SatS.later hh g (hb M1 σ1 H1 env1 hh1); rw [e2] at this; exact this D k)
    | rt y env'=>exact fun D k=>h1 { D with nx:=tu D } fun σ1 M1 H1 g hh1=>(by have:=SatS.later hh g (hb M1 σ1 H1 env1 hh1); rw [e2] at this; exact this D k)
    | exc e env'=>exact fun D k=>h1 { D with nx:=tu D } fun σ1 M1 H1 g hh1=>(by have:=SatS.later hh g (hb M1 σ1 H1 env1 hh1); rw [e2] at this; exact this D k)
theorem akO {i:Nat} (hh:Holds K M env σ H) (r:RX K σ H0 M H env x v) (e:setSl i x env=some env'):
    Holds K M env' (σ.set i (some v)) H∧(∀ l,Own env' (σ.set i (some v)) l→Own env σ l∨H0 l=none)∧env'.length=env.length∧(∀ (j:Nat) s,env[j]?=some s→s.pinned=true→(σ.set i (some v))[j]?=σ[j]?∧∃ s',env'[j]?=some s'∧s'.kind=s.kind):=by
  unfold setSl at e
  have hex:∃ s,env[i]?=some s∧s.pinned=false:=by
    cases q:env[i]? with
    | none=>rw [q] at e; cases e
    | some s=>
      refine ⟨s,rfl,?_⟩
      rw [q] at e
      cases s with
      | no=>rfl
      | im d=>rfl
      | hid=>cases e
      | ow p o=>
        cases p with
        | true=>cases e
        | false=>rfl
  obtain ⟨s,hs,hp⟩:=hex
  have hi:i < env.length:=(List.getElem?_eq_some_iff.mp hs).1
  have hiσ:i < σ.length:=by rw [hh.len]; exact hi
  have e':(x.slot.map fun s=>env.set i s)=some env':=by
    rw [hs] at e
    cases s with
    | no=>exact e
    | im d=>exact e
    | hid=>cases e
    | ow p o=>
      cases p with
      | true=>cases hp
      | false=>exact e
  obtain ⟨s',hs',rfl⟩:=Option.map_eq_some_iff.mp e'
  have hpin:∀ (j:Nat) s,env[j]?=some s→s.pinned=true→j≠i:=fun j s2 q p z=>by
    subst z
    rw [hs] at q
    cases q
    rw [hp] at p
    cases p
  have hown:∀ l,Own (env.set i s') (σ.set i (some v)) l→Own env σ l∨(∃ o,x=.ow o∧v=V.ref l):=fun l ⟨j,p,o,q1,q2⟩=>by
    by_cases hj:j=i
    · subst hj
      rw [List.getElem?_set_self hi] at q1
      rw [List.getElem?_set_self hiσ] at q2
      cases q1
      cases x with
      | im d=>cases hs'
      | sl _=>cases hs'
      | ow o2=>
        cases q2
        exact .inr ⟨o2,rfl,rfl⟩
    · rw [List.getElem?_set_ne (Ne.symm hj)] at q1 q2
      exact .inl ⟨j,p,o,q1,q2⟩
  refine ⟨⟨hh.ex,by simpa using hh.len,fun j t q=>?_,fun j k l p o p' o' hjk q1 q2 q3 q4=>?_⟩,fun l z=>?_,by simp,fun j s2 q p=>?_⟩
  · by_cases hj:j=i
    · subst hj
      rw [List.getElem?_set_self hi] at q
      rw [List.getElem?_set_self hiσ]
      cases q
      cases x with
      | im d=>cases hs'; exact ⟨v,rfl,r.1⟩
      | sl _=>cases hs'
      | ow o2=>
        cases hs'
        obtain ⟨l,rfl,a,m,_⟩:=r.1
        exact ⟨l,rfl,a,m⟩
    · rw [List.getElem?_set_ne (Ne.symm hj)] at q ⊢
      exact hh.slot j t q
  ·
    have one:∀ (a b:Nat) (pa pb:Bool) (oa ob:OD),a=i→b≠i→(env.set i s')[a]?=some (Sl.ow pa oa)→(env.set i s')[b]?=some (Sl.ow pb ob)→(σ.set i (some v))[a]?=some (some (V.ref l))→(σ.set i (some v))[b]?=some (some (V.ref l))→False:=by
      intro a b pa pb oa ob ha hb t1 t2 t3 t4
      subst ha
      rw [List.getElem?_set_self hi] at t1
      rw [List.getElem?_set_self hiσ] at t3
      rw [List.getElem?_set_ne (Ne.symm hb)] at t2 t4
      cases t1
      cases x with
      | im d=>cases hs'
      | sl _=>cases hs'
      | ow o2=>
        obtain ⟨l2,e2,_,_,no⟩:=r.1
        cases t3
        cases e2
        exact no ⟨b,pb,ob,t2,t4⟩
    by_cases hj:j=i
    · by_cases hk:k=i
      · exact hjk (hj.trans hk.symm)
      · exact one j k p p' o o' hj hk q1 q2 q3 q4
    · by_cases hk:k=i
      · exact one k j p' p o' o hk hj q2 q1 q4 q3
      · rw [List.getElem?_set_ne (Ne.symm hj)] at q1 q3
        rw [List.getElem?_set_ne (Ne.symm hk)] at q2 q4
        exact hh.dj j k l p o p' o' hjk q1 q2 q3 q4
  · rcases hown l z with q | ⟨o,e1,e2⟩
    · exact .inl q
    · exact .inr (r.2 o e1 l e2)
  · have hj:=hpin j s2 q p
    exact ⟨List.getElem?_set_ne (Ne.symm hj),s2,by rw [List.getElem?_set_ne (Ne.symm hj)]; exact q,rfl⟩
theorem afD {i:Nat} (hh0:Holds K M env σ H) (g:Grow M env σ H M1 env1 σ H1) (hh:Holds K M1 env1 σ H1) (r:RX K σ H M1 H1 env1 x v) (e:setSl i x env1=some env'):
    Grow M env σ H M1 env' (σ.set i (some v)) H1∧Holds K M1 env' (σ.set i (some v)) H1:=by
  obtain ⟨h1,h2,h3,h4⟩:=akO hh r e
  refine ⟨⟨g.exM,g.fr,g.new,fun l z=>?_,fun j s q p=>?_,g.dom,h3.trans g.len⟩,h1⟩
  · rcases h2 l z with q | q
    · exact g.own l q
    · exact .inr q
  · obtain ⟨e1,s1,e2,k1⟩:=g.pin j s q p
    obtain ⟨e3,s2,e4,k2⟩:=h4 j s1 e2 ((ahX k1).trans p)
    exact ⟨e3.trans e1,s2,e4,k2.trans k1⟩
theorem N8 {i:Nat} (h:DE K W te de):DS K W (tAsg te (gName i)) (dAsg i de):=fun M σ H env hh=>by
  refine Sat.stm (c:=fun v H1 D=>D.nx (σ.set i (some v)) H1) hh (h M σ H env hh) (fun D q=>q) fun M1 H1 env1 x v g s hh1 r=>?_
  cases e:setSl i x env1 with
  | none=>trivial
  | some env'=>
    obtain ⟨g2,hh2⟩:=afD hh g hh1 r e
    exact fun D k=>k _ _ _ g2 hh2
def dDrop (de:Ev→RE X):Ev→RS:=fun env=>(de env).stm fun _ e1=>.nx e1
theorem abg (h:DE K W te de):DS K W (tDrop te) (dDrop de):=fun M σ H env hh=>by
  refine Sat.stm (c:=fun v H1 D=>D.nx σ H1) hh (h M σ H env hh) (fun D q=>q) fun M1 H1 env1 x v g s hh1 r=>?_
  exact fun D k=>k _ _ _ g hh1
theorem J5 (h:DE K W te de):DS K W (tRet te) (M5 de):=fun M σ H env hh=>by
  refine Sat.stm (c:=fun v H1 D=>D.rt v H1) hh (h M σ H env hh) (fun D q=>q) fun M1 H1 env1 x v g s hh1 r=>?_
  exact fun D k=>k _ _ _ _ g hh1 r
theorem P0 (ht:DT K W tt dt) (ha:DS K W ts ds) (hb:DS K W tu du):DS K W (tIfS tt ts tu) (dIfS dt ds du):=fun M σ H env hh=>by
  refine Sat.stm (c:=fun c H1 D=>if c=true then ts D σ H1 else tu D σ H1) hh (ht M σ H env hh) (fun D q=>q) fun M1 H1 env1 x v g s hh1 r=>?_
  cases (show x=v from r)
  cases x with
  | true=>exact SatS.later hh g (ha M1 σ H1 env1 hh1)
  | false=>exact SatS.later hh g (hb M1 σ H1 env1 hh1)
def dBreak:Ev→RS:=fun env=>.bk env
theorem aoJ:DS K W tBreak dBreak:=fun M σ H env hh D k=>k σ M H .refl hh
theorem adc:DS K W tNever dNever:=fun M σ H env hh=>trivial
def DG (K:Fg) [WD K] (g:TG) (dg:D→Ev→Option Ev):Prop:=∀ (M:Hp) (σ:L2.St) (H:Hp) (env env':Ev) (d:D) (v:V),Holds K M env σ H→Rep K M d v→dg d env=some env'→∀ Q:L2.St→Hp→Prop,(∀ σ',Grow M env σ H M env' σ' H→Holds K M env' σ' H→Q σ' H)→g v σ H Q
def DGs (K:Fg) [WD K] (g:TGs) (dg:List D→Ev→Option Ev):Prop:=∀ (M:Hp) (σ:L2.St) (H:Hp) (env env':Ev) (ds:List D) (vs:List V),Holds K M env σ H→Reps K M ds vs→dg ds env=some env'→∀ Q:L2.St→Hp→Prop,(∀ σ',Grow M env σ H M env' σ' H→Holds K M env' σ' H→Q σ' H)→g vs σ H Q
theorem W6 (i:Nat):DG K (gName i) (N7 i):=fun M σ H env env' d v hh r e Q k=>by
  obtain ⟨g,h⟩:=afD hh .refl hh (abQ r) e
  exact k _ g h
def dgTup (n:Nat) (a:List D→Ev→Option Ev):D→Ev→Option Ev:=fun d env=>match d with
  | .tup xs=>if xs.length=n then a xs env else none
  | .tupW xs=>if xs.length=n then a xs env else none
  | _=>none
theorem akP:DGs K gNil dgNil:=fun M σ H env env' ds vs hh r e Q k=>by
  cases ds with
  | cons d ds=>cases e
  | nil=>
    cases e
    simp only [Reps] at r
    exact ⟨r,k σ .refl hh⟩
theorem abF {g:TG} {gs:TGs} {a:D→Ev→Option Ev} {b:List D→Ev→Option Ev} (ha:DG K g a) (hb:DGs K gs b):DGs K (gCons g gs) (T8 a b):=fun M σ H env env' ds vs hh r e Q k=>by
  cases ds with
  | nil=>cases e
  | cons d ds=>
    simp only [Reps] at r
    obtain ⟨v,r',rfl,h1,h2⟩:=r
    obtain ⟨env1,e1,e2⟩:=Option.bind_eq_some_iff.mp (show (a d env).bind (b ds)=some env' from e)
    exact ⟨v,r',rfl,ha M σ H env env1 d v hh h1 e1 _ fun σ1 g1 hh1=>hb M σ1 H env1 env' ds r' hh1 h2 e2 _ fun σ2 g2 hh2=>k σ2 (g1.trans hh g2) hh2⟩
theorem anS {gs:TGs} {a:List D→Ev→Option Ev} {n:Nat} (ha:DGs K gs a):DG K (gTup K n gs) (dgTup n a):=fun M σ H env env' d v hh r e Q k=>by
  cases d with
  | tup xs=>
    have e':(if xs.length=n then a xs env else none)=some env':=e
    by_cases hn:xs.length=n
    · rw [if_pos hn] at e'
      simp only [Rep] at r
      obtain ⟨b,vs,rfl,h1,h2⟩:=r
      exact ⟨b,vs,rfl,aa2 hh.ex h1.t,by rw [← h2.length]; exact hn,ha M σ H env env' xs vs hh h2 e' Q k⟩
    · rw [if_neg hn] at e'
      cases e'
  | tupW xs=>
    have e':(if xs.length=n then a xs env else none)=some env':=e
    by_cases hn:xs.length=n
    · rw [if_pos hn] at e'
      simp only [Rep] at r
      obtain ⟨b,vs,rfl,h1,h2⟩:=r
      exact ⟨b,vs,rfl,aa2 hh.ex h1,by rw [← h2.length]; exact hn,ha M σ H env env' xs vs hh h2 e' Q k⟩
    · rw [if_neg hn] at e'
      cases e'
  | _=>cases e
def dAsgG (dg:D→Ev→Option Ev) (de:Ev→RE X):Ev→RS:=fun env=>(de env).stm fun x e1=>optS ((frz x).bind fun d=>dg d e1)
theorem apC {g:TG} {dg:D→Ev→Option Ev} (hg:DG K g dg) (h:DE K W te de):DS K W (tAsg te g) (dAsgG dg de):=fun M σ H env hh=>by
  refine Sat.stm (c:=fun v H1 D=>g v σ H1 D.nx) hh (h M σ H env hh) (fun D q=>q) fun M1 H1 env1 x v g1 s hh1 r=>?_
  cases e:(frz x).bind fun d=>dg d env1 with
  | none=>trivial
  | some env'=>
    obtain ⟨d,e1,e2⟩:=Option.bind_eq_some_iff.mp e
    have g2:=abq g1
    have hh2:=aaU (H:=H) hh1
    exact fun D k=>hg _ σ H1 env1 env' d v hh2 (afj r e1) e2 _ fun σ' g3 hh3=>k σ' _ H1 (g2.trans hh g3) hh3
end
end Dn
namespace Dn
open PySem PySem.Spec PyProof.Rows L2
structure ItOk (K:Fg) [WD K] (J:It) (as:List Addr) (M0 H0:Hp) (xs:List D):Prop where
  go:∀ M H i d,xs[i]?=some d→Same M0 M→Same M H→(∀ a∈as,∀ o,H0 a=some o→H a=some o)→J.go i H∧∀ v H',J.yld i H v H'→∃ M',Ext M H M' H'∧Rep K M' d v
  stop:∀ M H,Same M0 M→Same M H→(∀ a∈as,∀ o,H0 a=some o→H a=some o)→J.stop xs.length H
def RI (K:Fg) [WD K] (σ:L2.St):Hp→Hp→Hp→Ev→Its→It→Prop:=fun _ M' H' env' xh J=>∃ as,(∀ a∈as,¬ Own (hideE xh.2 env') σ a∧∃ o,H' a=some o)∧ItOk K J as M' H' xh.1∧∀ j,xh.2=some j→∃ p o,env'[j]?=some (Sl.ow p o)
def DI (K:Fg) [WD K] (W:WS) (ti:TI) (di:Ev→RE Its):Prop:=∀ (M:Hp) (σ:L2.St) (H:Hp) (env:Ev),Holds K M env σ H→Sat K W M σ H env (di env) (RI K σ) (ti σ H)
theorem back_i {K:Fg} [WD K] {σ:L2.St}:Back (RI K σ):=fun _ _ _ _ _ _ _ _ h=>h
section
variable {K:Fg} [WD K] {W:WS} {M M' M1 M2:Hp} {env env' env1 env2:Ev} {σ σ' σ1:L2.St} {H H' H1 H2:Hp} {x y:X} {v u:V} {ta tb tc te:TE} {da db dc de:Ev→RE X} {ts tu:TS} {ds du:Ev→RS}
theorem ain {j:Nat} (hh:Holds K M env σ H):Holds K M (env.set j .hid) σ H where
  ex:=hh.ex
  len:=by simpa using hh.len
  slot:=fun i s q=>by
    by_cases hj:i=j
    · subst hj
      have hi:i < env.length:=by
        have:=(List.getElem?_eq_some_iff.mp q).1
        simpa using this
      rw [List.getElem?_set_self hi] at q
      cases q
      trivial
    · rw [List.getElem?_set_ne (Ne.symm hj)] at q
      exact hh.slot i s q
  dj:=fun a b l p o p' o' hab q1 q2 q3 q4=>by
    have f:∀ (a:Nat) (p:Bool) (o:OD),(env.set j Sl.hid)[a]?=some (Sl.ow p o)→env[a]?=some (Sl.ow p o):=fun a p o q=>by
      by_cases hj:a=j
      · subst hj
        have hi:a < env.length:=by
          have:=(List.getElem?_eq_some_iff.mp q).1
          simpa using this
        rw [List.getElem?_set_self hi] at q
        cases q
      · rwa [List.getElem?_set_ne (Ne.symm hj)] at q
    exact hh.dj a b l p o p' o' hab (f a p o q1) (f b p' o' q2) q3 q4
theorem aek {j:Nat} {l:Addr}:Own (env.set j .hid) σ l→∃ (i:Nat) (p:Bool) (o:OD),i≠j∧env[i]?=some (Sl.ow p o)∧σ[i]?=some (some (V.ref l)):=fun ⟨i,p,o,q1,q2⟩=>by
  by_cases hj:i=j
  · subst hj
    have hi:i < env.length:=by
      have:=(List.getElem?_eq_some_iff.mp q1).1
      simpa using this
    rw [List.getElem?_set_self hi] at q1
    cases q1
  · rw [List.getElem?_set_ne (Ne.symm hj)] at q1
    exact ⟨i,p,o,hj,q1,q2⟩
theorem aeG {j:Nat} {p:Bool} {o:OD} (hh:Holds K M env σ H) (e:env[j]?=some (Sl.ow p o)) (g:Grow M (env.set j .hid) σ H M' env' σ' H') (hh':Holds K M' env' σ' H'):
    Grow M env σ H M' (env'.set j (.ow p o)) σ' H'∧Holds K M' (env'.set j (.ow p o)) σ' H'∧∀ (x:X) (v:V),(∀ i,x=.sl i→i≠j)→RX K σ' H M' H' env' x v→RX K σ' H M' H' (env'.set j (.ow p o)) x v:=by
  have hj:j < env.length:=(List.getElem?_eq_some_iff.mp e).1
  have hj':j < env'.length:=by rw [g.len]; simpa using hj
  obtain ⟨l,el,a,m⟩:=hh.slot j _ e
  obtain ⟨es,s',e',k'⟩:=g.pin j .hid (List.getElem?_set_self hj) rfl
  have no:¬ Own (env.set j .hid) σ l:=fun z=>by
    obtain ⟨i,p2,o2,hi,q1,q2⟩:=aek z
    exact hh.dj i j l p2 o2 p o hi q1 e q2 el
  obtain ⟨u,hu⟩:=a.there
  have no':¬ Own env' σ' l:=fun z=>by
    rcases g.own l z with q | q
    · exact no q
    · rw [hu] at q; cases q
  have a':At K M' H' l o:=a.mono g.exM fun u q=>g.fr l u q no
  have m':M' l=none:=by
    cases q:M' l with
    | none=>rfl
    | some u2=>
      rcases g.new l u2 q with z | z | z
      · rw [m] at z; cases z
      · rw [hu] at z; cases z
      · exact (no z).elim
  have own2:∀ l2,Own (env'.set j (.ow p o)) σ' l2→l2=l∨Own env' σ' l2:=fun l2 ⟨i,p2,o2,q1,q2⟩=>by
    by_cases hi:i=j
    · subst hi
      rw [es,el] at q2
      cases q2
      exact .inl rfl
    · rw [List.getElem?_set_ne (Ne.symm hi)] at q1
      exact .inr ⟨i,p2,o2,q1,q2⟩
  refine ⟨⟨g.exM,fun l2 u2 q n=>g.fr l2 u2 q fun z=>n ?_,fun l2 u2 q=>(g.new l2 u2 q).imp id (Or.imp id fun z=>let ⟨i,p2,o2,_,q1,q2⟩:=aek z; ⟨i,p2,o2,q1,q2⟩),fun l2 z=>?_,fun i s q pn=>?_,g.dom,?_⟩,⟨hh'.ex,by simpa using hh'.len,fun i s q=>?_,fun i k l2 p1 o1 p2 o2 hik q1 q2 q3 q4=>?_⟩,fun x v hx r=>?_⟩
  · obtain ⟨i,p2,o2,_,q1,q2⟩:=aek z
    exact ⟨i,p2,o2,q1,q2⟩
  · rcases own2 l2 z with rfl | z
    · exact .inl ⟨j,p,o,e,el⟩
    · rcases g.own l2 z with q | q
      · obtain ⟨i,p2,o2,_,q1,q2⟩:=aek q
        exact .inl ⟨i,p2,o2,q1,q2⟩
      · exact .inr q
  · by_cases hi:i=j
    · subst hi
      rw [e] at q
      cases q
      exact ⟨es,_,List.getElem?_set_self hj',rfl⟩
    · obtain ⟨e1,s1,e2,k1⟩:=g.pin i s (by rw [List.getElem?_set_ne (Ne.symm hi)]; exact q) pn
      exact ⟨e1,s1,by rw [List.getElem?_set_ne (Ne.symm hi)]; exact e2,k1⟩
  · rw [List.length_set,g.len,List.length_set]
  · by_cases hi:i=j
    · subst hi
      rw [List.getElem?_set_self hj'] at q
      cases q
      exact ⟨l,es.trans el,a',m'⟩
    · rw [List.getElem?_set_ne (Ne.symm hi)] at q
      exact hh'.slot i s q
  · by_cases hi:i=j
    · subst hi
      have q3':=q3
      rw [es,el] at q3'
      cases q3'
      rw [List.getElem?_set_ne hik] at q2
      exact no' ⟨k,p2,o2,q2,q4⟩
    · by_cases hk:k=j
      · subst hk
        have q4':=q4
        rw [es,el] at q4'
        cases q4'
        rw [List.getElem?_set_ne (Ne.symm hi)] at q1
        exact no' ⟨i,p1,o1,q1,q3⟩
      · rw [List.getElem?_set_ne (Ne.symm hi)] at q1
        rw [List.getElem?_set_ne (Ne.symm hk)] at q2
        exact hh'.dj i k l2 p1 o1 p2 o2 hik q1 q2 q3 q4
  · refine ⟨?_,r.2⟩
    obtain ⟨r,n⟩:=r
    cases x with
    | im d=>exact r
    | sl i=>
      obtain ⟨⟨p2,o2,q⟩,q2⟩:=r
      exact ⟨⟨p2,o2,by rw [List.getElem?_set_ne (Ne.symm (hx i rfl))]; exact q⟩,q2⟩
    | ow o2=>
      obtain ⟨l2,rfl,a2,m2,n2⟩:=r
      refine ⟨l2,rfl,a2,m2,fun z=>?_⟩
      rcases own2 l2 z with rfl | z
      · rw [n o2 rfl l2 rfl] at hu; cases hu
      · exact n2 z
theorem anT {J:It} {as:List Addr} {xs:List D} {g:TG} {dg:D→Ev→Option Ev} {db:Ev→RS} {tb:TS} (hg:DG K g dg) (hb:DS K W tb db) (hh:Holds K M env σ H) (hi:ItOk K J as M H xs) (hn:∀ a∈as,¬ Own env σ a∧∃ o,H a=some o):
    SatS K W M σ H env (forGo dg db xs env) (fun D=>∃ Wd:Nat→Nat→L2.St→Hp→Prop,(∃ m,Wd 0 m σ H)∧∀ i m σ H,Wd i m σ H→
      (J.stop i H∧D.nx σ H)∨(J.go i H∧∃ N:L2.St→Hp→Prop,(∀ σ' H',N σ' H'→∃ m',m' < m∧Wd (i+1) m' σ' H')∧∀ x H',J.yld i H x H'→g x σ H' fun σ2 H2=>tb { D with nx:=N,ct:=N,bk:=D.nx } σ2 H2)):=by
  have key:∀ (fin:RS) (D:Ends),forGo dg db xs env=fin→fin≠.bad→
      (∀ e σ' M' H',fin=.nx e→Grow M env σ H M' e σ' H'→Holds K M' e σ' H'→D.nx σ' H')→
      (∀ x e v σ' M' H',fin=.rt x e→Grow M env σ H M' e σ' H'→Holds K M' e σ' H'→RX K σ' H M' H' e x v→D.rt v H')→
      (∀ x e cls d σ' M' H',fin=.exc x e→Grow M env σ H M' e σ' H'→Holds K M' e σ' H'→RepE K M' H' x cls d→W σ' cls d H')→
      ∃ Wd:Nat→Nat→L2.St→Hp→Prop,(∃ m,Wd 0 m σ H)∧∀ i m σ H,Wd i m σ H→
      (J.stop i H∧D.nx σ H)∨(J.go i H∧∃ N:L2.St→Hp→Prop,(∀ σ' H',N σ' H'→∃ m',m' < m∧Wd (i+1) m' σ' H')∧∀ x H',J.yld i H x H'→g x σ H' fun σ2 H2=>tb { D with nx:=N,ct:=N,bk:=D.nx } σ2 H2):=by
    intro fin D hf hnb kn kr ke
    refine ⟨fun i m σ' H'=>m=xs.length - i∧i≤xs.length∧∃ M' e,forGo dg db (xs.drop i) e=fin∧Grow M env σ H M' e σ' H'∧Holds K M' e σ' H',⟨xs.length,by simp,Nat.zero_le _,M,env,hf,.refl,hh⟩,?_⟩
    rintro i m σ1 H1 ⟨rfl,hi1,M1,e1,f1,g1,hh1⟩
    have src:∀ a∈as,∀ o,H a=some o→H1 a=some o:=fun a ha o q=>g1.fr a o q (hn a ha).1
    cases q:xs[i]? with
    | none=>
      have hl:i=xs.length:=by
        have:=List.getElem?_eq_none_iff.mp q
        omega
      subst hl
      rw [List.drop_length] at f1
      exact .inl ⟨hi.stop M1 H1 g1.exM hh1.ex src,kn e1 σ1 M1 H1 f1.symm g1 hh1⟩
    | some d=>
      obtain ⟨go,yl⟩:=hi.go M1 H1 i d q g1.exM hh1.ex src
      have hlt:i < xs.length:=(List.getElem?_eq_some_iff.mp q).1
      have hd:xs.drop i=d :: xs.drop (i+1):=by
        rw [List.drop_eq_getElem_cons hlt]
        rw [List.getElem?_eq_getElem hlt] at q
        cases q
        rfl
      rw [hd] at f1
      refine .inr ⟨go,fun σ' H'=>∃ M' e,forGo dg db (xs.drop (i+1)) e=fin∧Grow M env σ H M' e σ' H'∧Holds K M' e σ' H',fun σ' H' h=>⟨xs.length - (i+1),by omega,rfl,hlt,h⟩,fun w H2 hy=>?_⟩
      obtain ⟨M2,ex,rp⟩:=yl w H2 hy
      have g2:=g1.trans hh (ex.grow hh1)
      have hh2:=ex.holds hh1
      cases q1:dg d e1 with
      | none=>
        exfalso
        apply hnb
        rw [← f1]
        show (match dg d e1 with | none=>RS.bad | some e1=>_)=_
        rw [q1]
      | some e2=>
        have f2:(match db e2 with
          | .nx e2=>forGo dg db (xs.drop (i+1)) e2
          | .ct e2=>forGo dg db (xs.drop (i+1)) e2
          | .bk e2=>.nx e2
          | r=>r)=fin:=by
          rw [← f1]
          show _=(match dg d e1 with | none=>RS.bad | some e1=>_)
          rw [q1]
        refine hg M2 σ1 H2 e1 e2 d w hh2 rp q1 _ fun σ3 g3 hh3=>?_
        have g4:=g2.trans hh g3
        have hb1:=hb M2 σ3 H2 e2 hh3
        cases q2:db e2 with
        | bad=>
          rw [q2] at f2
          exact (hnb f2.symm).elim
        | nx e3=>
          rw [q2] at f2 hb1
          exact hb1 _ fun σ' M' H' g5 hh5=>⟨M',e3,f2,g4.trans hh g5,hh5⟩
        | ct e3=>
          rw [q2] at f2 hb1
          exact hb1 _ fun σ' M' H' g5 hh5=>⟨M',e3,f2,g4.trans hh g5,hh5⟩
        | bk e3=>
          rw [q2] at f2 hb1
          exact hb1 _ fun σ' M' H' g5 hh5=>kn e3 σ' M' H' f2.symm (g4.trans hh g5) hh5
        | rt y e3=>
          rw [q2] at f2 hb1
          exact hb1 _ fun v σ' M' H' g5 hh5 r=>kr y e3 v σ' M' H' f2.symm (g4.trans hh g5) hh5 (V2 _ _ _ _ _ _ _ g4.dom r)
        | exc y e3=>
          rw [q2] at f2 hb1
          exact hb1 _ fun cls dd σ' M' H' g5 hh5 r=>ke y e3 cls dd σ' M' H' f2.symm (g4.trans hh g5) hh5 r
  cases hf:forGo dg db xs env with
  | bad=>trivial
  | nx e=>exact fun D k=>key _ D hf (fun z=>nomatch z) (fun e' σ' M' H' z g h=>by cases z; exact k σ' M' H' g h) (fun _ _ _ _ _ _ z=>nomatch z) (fun _ _ _ _ _ _ _ z=>nomatch z)
  | rt x e=>exact fun D k=>key _ D hf (fun z=>nomatch z) (fun _ _ _ _ z=>nomatch z) (fun x' e' v σ' M' H' z g h r=>by cases z; exact k v σ' M' H' g h r) (fun _ _ _ _ _ _ _ z=>nomatch z)
  | exc x e=>exact fun D k=>key _ D hf (fun z=>nomatch z) (fun _ _ _ _ z=>nomatch z) (fun _ _ _ _ _ _ z=>nomatch z) (fun x' e' c d σ' M' H' z g h r=>by cases z; exact k c d σ' M' H' g h r)
  | bk e=>exact fun D k=>key _ D hf (fun z=>nomatch z) (fun _ _ _ _ z=>nomatch z) (fun _ _ _ _ _ _ z=>nomatch z) (fun _ _ _ _ _ _ _ z=>nomatch z)
  | ct e=>exact fun D k=>key _ D hf (fun z=>nomatch z) (fun _ _ _ _ z=>nomatch z) (fun _ _ _ _ _ _ z=>nomatch z) (fun _ _ _ _ _ _ _ z=>nomatch z)
theorem acw {wi:TI} {di:Ev→RE Its} {g:TG} {dg:D→Ev→Option Ev} {db:Ev→RS} {tb:TS} (hi:DI K W wi di) (hg:DG K g dg) (hb:DS K W tb db):DS K W (tFor wi g tb) (dFor di dg db):=fun M σ H env hh=>by
  refine Sat.stm (c:=fun (J:It) H1 D=>∃ Wd:Nat→Nat→L2.St→Hp→Prop,(∃ m,Wd 0 m σ H1)∧∀ i m σ H,Wd i m σ H→
      (J.stop i H∧D.nx σ H)∨(J.go i H∧∃ N:L2.St→Hp→Prop,(∀ σ' H',N σ' H'→∃ m',m' < m∧Wd (i+1) m' σ' H')∧∀ x H',J.yld i H x H'→g x σ H' fun σ2 H2=>tb { D with nx:=N,ct:=N,bk:=D.nx } σ2 H2)) hh (hi M σ H env hh) (fun D q=>q) fun M1 H1 env1 xh J g1 s1 hh1 r=>?_
  obtain ⟨xs,h⟩:=xh
  obtain ⟨as,hn,io,hs⟩:=r
  cases h with
  | none=>
    have h1:=anT hg hb hh1 io hn
    exact SatS.later hh g1 h1
  | some j=>
    obtain ⟨p,o,e⟩:=hs j rfl
    have h1:=anT hg hb (ain (j:=j) hh1) io hn
    have eg:env1.getD j .no=.ow p o:=by rw [List.getD_eq_getElem?_getD,e]; rfl
    refine SatS.later hh g1 ?_
    show SatS K W M1 σ H1 env1 ((forGo dg db xs (env1.set j .hid)).map fun e=>e.set j (env1.getD j .no)) _
    rw [eg]
    cases hf:forGo dg db xs (env1.set j .hid) with
    | bad=>trivial
    | nx e'=>rw [hf] at h1; exact fun D k=>h1 D fun σ' M' H' g2 hh2=>(fun ⟨a,b,_⟩=>k σ' M' H' a b) (aeG hh1 e g2 hh2)
    | bk e'=>rw [hf] at h1; exact fun D k=>h1 { D with bk:=fun _ _=>True } fun σ' M' H' g2 hh2=>trivial
    | ct e'=>rw [hf] at h1; exact fun D k=>h1 { D with ct:=fun _ _=>True } fun σ' M' H' g2 hh2=>trivial
    | exc x e'=>rw [hf] at h1; exact fun D k=>h1 D fun cls d σ' M' H' g2 hh2 r=>(fun ⟨a,b,_⟩=>k cls d σ' M' H' a b r) (aeG hh1 e g2 hh2)
    | rt x e'=>
      rw [hf] at h1
      refine fun D k=>h1 D fun v σ' M' H' g2 hh2 r=>(fun ⟨a,b,c⟩=>k v σ' M' H' a b (c x v (fun i hx z=>?_) r)) (aeG hh1 e g2 hh2)
      subst hx z
      obtain ⟨⟨p2,o2,q⟩,_⟩:=r.1
      have hj:i < env1.length:=(List.getElem?_eq_some_iff.mp e).1
      obtain ⟨_,s',e',k'⟩:=g2.pin i .hid (List.getElem?_set_self hj) rfl
      rw [q] at e'
      cases e'
      cases k'
end
end Dn
namespace Dn
open PySem PySem.Spec PyProof.Rows L2
section
variable {K:Fg} [WD K] {W:WS} {M M' M1 M2:Hp} {env env' env1 env2 ps:Ev} {σ σ' σ1:L2.St} {H H' H1 H2:Hp} {x y:X} {v u:V} {vs:List V}
theorem aeH {ps env:Ev} {i:Nat} (h:ps.length≤env.length):(backP ps env)[i]?=match ps[i]? with
    | some (.ow _ _)=>env[i]?
    | r=>r:=by
  unfold backP
  rw [List.getElem?_zipWith]
  cases e:ps[i]? with
  | none=>rfl
  | some p=>
    have hi:i < ps.length:=(List.getElem?_eq_some_iff.mp e).1
    have hi':i < env.length:=by omega
    rw [List.getElem?_eq_getElem hi']
    cases p <;> rfl
theorem anm {N n:Nat} (hh:Holds K M ps (sv vs) H) (hl:ps.length=n):Holds K M (ps++List.replicate (N - n) .no) (sv vs++List.replicate (N - vs.length) none) H:=by
  have hv:vs.length=n:=by
    have:=hh.len
    unfold sv at this
    rw [List.length_map] at this
    omega
  have hlv:(sv vs).length=n:=by unfold sv; rw [List.length_map]; exact hv
  refine ⟨hh.ex,by simp [hlv,hl,hv],fun i s q=>?_,fun i j l p o p' o' hij q1 q2 q3 q4=>?_⟩
  · by_cases hi:i < n
    · rw [List.getElem?_append_left (by omega)] at q ⊢
      exact hh.slot i s q
    · rw [List.getElem?_append_right (by omega)] at q
      have:s=.no:=by
        have:=List.mem_of_getElem? q
        exact (List.mem_replicate.mp this).2
      subst this
      trivial
  · have f:∀ (i:Nat) (p:Bool) (o:OD),(ps++List.replicate (N - n) Sl.no)[i]?=some (Sl.ow p o)→i < n∧ps[i]?=some (Sl.ow p o):=fun i p o q=>by
      by_cases hi:i < n
      · rw [List.getElem?_append_left (by omega)] at q
        exact ⟨hi,q⟩
      · rw [List.getElem?_append_right (by omega)] at q
        have:=List.mem_of_getElem? q
        cases (List.mem_replicate.mp this).2
    obtain ⟨h1,e1⟩:=f i p o q1
    obtain ⟨h2,e2⟩:=f j p' o' q2
    rw [List.getElem?_append_left (by omega)] at q3 q4
    exact hh.dj i j l p o p' o' hij e1 e2 q3 q4
theorem ah1 {N n:Nat} (hh:Holds K M ps (sv vs) H) (hl:ps.length=n) (hN:n≤N) (hp:ps.all Sl.par=true) (g:Grow M (ps++List.replicate (N - n) .no) (sv vs++List.replicate (N - vs.length) none) H M' env' σ' H') (hh':Holds K M' env' σ' H'):
    Grow M ps (sv vs) H M' (backP ps env') (sv vs) H'∧Shape ps (backP ps env')∧Holds K M' (backP ps env') (sv vs) H'∧∀ x v y,RX K σ' H M' H' env' x v→retX n env' x=some y→RX K (sv vs) H M' H' (backP ps env') y v:=by
  have hv:vs.length=n:=by
    have:=hh.len
    unfold sv at this
    rw [List.length_map] at this
    omega
  have hlv:(sv vs).length=n:=by unfold sv; rw [List.length_map]; exact hv
  have hle:env'.length=N:=by rw [g.len]; simp [hl]; omega
  have hlp:ps.length≤env'.length:=by omega
  have hl2:(backP ps env').length=ps.length:=by unfold backP; rw [List.length_zipWith]; omega
  have par:∀ (i:Nat) (s:Sl),ps[i]?=some s→s.par=true:=fun i s q=>List.all_eq_true.mp hp s (List.mem_of_getElem? q)
  have lent:∀ (i:Nat) (p:Bool) (o:OD),ps[i]?=some (Sl.ow p o)→∃ o',env'[i]?=some (Sl.ow p o')∧σ'[i]?=(sv vs)[i]?:=fun i p o q=>by
    have hi:i < n:=by rw [← hl]; exact (List.getElem?_eq_some_iff.mp q).1
    have hp':p=true:=par i _ q
    subst hp'
    obtain ⟨e1,s',e2,k⟩:=g.pin i (.ow true o) (by rw [List.getElem?_append_left (by omega)]; exact q) rfl
    rw [List.getElem?_append_left (by omega)] at e1
    cases s' with
    | ow p' o'=>
      simp only [Sl.kind,Sl.ow.injEq,and_true] at k
      subst k
      exact ⟨o',e2,e1⟩
    | no=>cases k
    | im d=>cases k
    | hid=>cases k
  have bk:∀ (i:Nat) (p:Bool) (o:OD),(backP ps env')[i]?=some (Sl.ow p o)→∃ o0,ps[i]?=some (Sl.ow p o0)∧env'[i]?=some (Sl.ow p o)∧σ'[i]?=(sv vs)[i]?:=fun i p o q=>by
    rw [aeH hlp] at q
    cases e:ps[i]? with
    | none=>rw [e] at q; cases q
    | some s=>
      rw [e] at q
      cases s with
      | no=>cases q
      | im d=>cases q
      | hid=>cases q
      | ow p0 o0=>
        obtain ⟨o',e1,e2⟩:=lent i p0 o0 e
        have q':env'[i]?=some (Sl.ow p o):=q
        rw [e1] at q'
        cases q'
        exact ⟨o0,rfl,e1,e2⟩
  have own0:∀ l,Own (ps++List.replicate (N - n) Sl.no) (sv vs++List.replicate (N - vs.length) none) l→Own ps (sv vs) l:=fun l ⟨i,p,o,q1,q2⟩=>by
    by_cases hi:i < n
    · rw [List.getElem?_append_left (by omega)] at q1 q2
      exact ⟨i,p,o,q1,q2⟩
    · rw [List.getElem?_append_right (by omega)] at q1
      have:=List.mem_of_getElem? q1
      cases (List.mem_replicate.mp this).2
  have ownB:∀ l,Own (backP ps env') (sv vs) l→Own env' σ' l:=fun l ⟨i,p,o,q1,q2⟩=>by
    obtain ⟨o0,e0,e1,e2⟩:=bk i p o q1
    exact ⟨i,p,o,e1,e2.trans q2⟩
  refine ⟨⟨g.exM,fun l o q nn=>g.fr l o q fun z=>nn (own0 l z),fun l o q=>(g.new l o q).imp id (Or.imp id (own0 l)),fun l ⟨i,p,o,q1,q2⟩=>?_,fun i s q pn=>?_,g.dom,hl2⟩,?_,⟨hh'.ex,by rw [hlv,hl2,hl],fun i s q=>?_,fun i j l p o p' o' hij q1 q2 q3 q4=>?_⟩,fun x v y r e=>?_⟩
  · obtain ⟨o0,e0,_⟩:=bk i p o q1
    exact .inl ⟨i,p,o0,e0,q2⟩
  · refine ⟨rfl,?_⟩
    cases s with
    | ow p o=>
      obtain ⟨o',e1,e2⟩:=lent i p o q
      exact ⟨.ow p o',by rw [aeH hlp,q]; exact e1,rfl⟩
    | no=>cases pn
    | im d=>cases pn
    | hid=>exact nomatch (par i _ q)
  · show (backP ps env').map Sl.kind=ps.map Sl.kind
    apply List.ext_getElem?
    intro i
    rw [List.getElem?_map,List.getElem?_map,aeH hlp]
    cases e:ps[i]? with
    | none=>rfl
    | some s=>
      cases s with
      | ow p o=>
        obtain ⟨o',e1,_⟩:=lent i p o e
        show env'[i]?.map Sl.kind=_
        rw [e1]
        rfl
      | _=>rfl
  · rw [aeH hlp] at q
    cases e:ps[i]? with
    | none=>rw [e] at q; cases q
    | some s0=>
      rw [e] at q
      cases s0 with
      | no=>cases q; trivial
      | hid=>cases q; trivial
      | im d=>
        cases q
        obtain ⟨u,e1,e2⟩:=hh.slot i _ e
        exact ⟨u,e1,Rep.mono g.exM _ _ e2⟩
      | ow p0 o0=>
        obtain ⟨o',e1,e2⟩:=lent i p0 o0 e
        have q':env'[i]?=some s:=q
        have:=hh'.slot i s q'
        rw [e2] at this
        exact this
  · obtain ⟨_,_,e1,e2⟩:=bk i p o q1
    obtain ⟨_,_,e3,e4⟩:=bk j p' o' q2
    exact hh'.dj i j l p o p' o' hij e1 e3 (e2.trans q3) (e4.trans q4)
  · obtain ⟨r,nx⟩:=r
    cases x with
    | im d=>
      cases e
      exact ⟨r,fun _ z=>nomatch z⟩
    | ow o=>
      cases e
      obtain ⟨l,rfl,a,m,no⟩:=r
      exact ⟨⟨l,rfl,a,m,fun z=>no (ownB l z)⟩,nx⟩
    | sl i=>
      have e':(if i < n then none else match env'[i]? with
        | some (.ow _ o)=>some (X.ow o)
        | _=>none)=some y:=e
      by_cases hi:i < n
      · rw [if_pos hi] at e'; cases e'
      · rw [if_neg hi] at e'
        obtain ⟨⟨p,o,q1⟩,q2⟩:=r
        rw [q1] at e'
        cases e'
        obtain ⟨l,q3,a,m⟩:=hh'.slot i _ q1
        rw [q2] at q3
        cases q3
        have no:¬ Own (backP ps env') (sv vs) l:=fun ⟨j,p2,o2,t1,t2⟩=>by
          obtain ⟨o0,e0,e1,e2⟩:=bk j p2 o2 t1
          have hj:j < n:=by rw [← hl]; exact (List.getElem?_eq_some_iff.mp e0).1
          exact hh'.dj j i l p2 o2 p o (by omega) e1 q1 (e2.trans t2) q2
        refine ⟨⟨l,rfl,a,m,no⟩,fun o2 z l2 e2=>?_⟩
        cases e2
        rcases g.own l ⟨i,p,o,q1,q2⟩ with z | z
        · obtain ⟨j,p2,o2,t1,t2⟩:=own0 l z
          obtain ⟨o',e1,e2⟩:=lent j p2 o2 t1
          have hj:j < n:=by rw [← hl]; exact (List.getElem?_eq_some_iff.mp t1).1
          exact (hh'.dj j i l p2 o' p o (by omega) e1 q1 (e2.trans t2) q2).elim
        · exact z
theorem afm {N:List Str} {n:Nat} {t:TS} {ds:Ev→RS} {Q:VK} {E:XK} (hd:DS K (fun _=>E) t ds) (hs:spD K (fnM N.length n ds) vs H Q E):t { nx:=fun _ H'=>Q .non H',rt:=Q } (start N vs) H:=by
  obtain ⟨M,ps,hh,h⟩:=hs
  unfold fnM at h
  by_cases hc:ps.length=n∧n≤N.length∧ps.all Sl.par=true
  · rw [if_pos hc] at h
    obtain ⟨hl,hN,hp⟩:=hc
    have hh0:=anm (N:=N.length) hh hl
    have h1:=hd M _ H _ hh0
    show t _ (sv vs++List.replicate (N.length - vs.length) none) H
    cases e:ds (ps++List.replicate (N.length - n) .no) with
    | bad=>rw [e] at h; exact h.elim
    | bk _=>rw [e] at h; exact h.elim
    | ct _=>rw [e] at h; exact h.elim
    | nx env'=>
      rw [e] at h h1
      refine h1 _ fun σ' M' H' g hh'=>?_
      obtain ⟨a,b,c,d⟩:=ah1 hh hl hN hp g hh'
      exact h .non M' H' a b c (abQ ai0)
    | exc x env'=>
      rw [e] at h h1
      refine h1 _ fun cls dd σ' M' H' g hh' r=>?_
      obtain ⟨a,b,c,d⟩:=ah1 hh hl hN hp g hh'
      exact h cls dd M' H' a b c r
    | rt x env'=>
      rw [e] at h h1
      have h2:Post K M ps vs H Q E (opt (retX n env' x) (backP ps env')):=h
      cases e2:retX n env' x with
      | none=>rw [e2] at h2; exact h2.elim
      | some y=>
        rw [e2] at h2
        have h:=h2
        refine h1 _ fun v σ' M' H' g hh' r=>?_
        obtain ⟨a,b,c,d⟩:=ah1 hh hl hN hp g hh'
        exact h v M' H' a b c (d x v y r e2)
  · rw [if_neg hc] at h
    exact h.elim
theorem afn {n N:Nat} {ds:Ev→RS} {Q:VK} {E:XK} (hs:spD K (fnM N n ds) vs H Q E):vs.length=n:=by
  obtain ⟨M,ps,hh,h⟩:=hs
  unfold fnM at h
  by_cases hc:ps.length=n∧n≤N∧ps.all Sl.par=true
  · have:=hh.len
    unfold sv at this
    rw [List.length_map] at this
    omega
  · rw [if_neg hc] at h
    exact h.elim
end
section
variable {K:Fg} [WD K] {W:WS} {M M' M1 M2:Hp} {env env' env1 env2 ps:Ev} {σ σ' σ1:L2.St} {H H' H1 H2:Hp} {x y:X} {v u:V} {vs:List V}
theorem akQ {i j:Nat} {o:OD} (h:j≠i):(wr i o env)[j]?=env[j]?:=by
  unfold wr
  split
  · exact List.getElem?_set_ne (Ne.symm h)
  · rfl
theorem apD {i:Nat} {p:Bool} {o o0:OD} (h:env[i]?=some (Sl.ow p o0)):(wr i o env)[i]?=some (Sl.ow p o):=by
  unfold wr
  rw [h]
  exact List.getElem?_set_self (List.getElem?_eq_some_iff.mp h).1
theorem aqy {i:Nat} {o:OD}:(wr i o env).length=env.length:=by
  unfold wr
  split <;> simp
theorem adG:∀ (xs:List X) (ps env:Ev),(wb xs ps env).length=env.length
  | [],_,env=>by unfold wb; rfl
  | .sl i :: xs,[],env=>by unfold wb; rfl
  | .im i :: xs,[],env=>by unfold wb; rfl
  | .ow i :: xs,[],env=>by unfold wb; rfl
  | .sl i :: xs,.ow p o :: ps,env=>by unfold wb; rw [adG xs ps,aqy]
  | .sl i :: xs,.no :: ps,env=>by unfold wb; rw [adG xs ps]
  | .sl i :: xs,.im _ :: ps,env=>by unfold wb; rw [adG xs ps]
  | .sl i :: xs,.hid :: ps,env=>by unfold wb; rw [adG xs ps]
  | .im _ :: xs,_ :: ps,env=>by unfold wb; rw [adG xs ps]
  | .ow _ :: xs,_ :: ps,env=>by unfold wb; rw [adG xs ps]
theorem acX {i:Nat}:∀ (xs:List X) (ps env:Ev),i∉slots xs→(wb xs ps env)[i]?=env[i]?
  | [],_,env,_=>by unfold wb; rfl
  | .sl i :: xs,[],env,_=>by unfold wb; rfl
  | .im i :: xs,[],env,_=>by unfold wb; rfl
  | .ow i :: xs,[],env,_=>by unfold wb; rfl
  | .sl j :: xs,.ow p o :: ps,env,h=>by
    have h1:i≠j∧i∉slots xs:=by simpa [slots] using h
    unfold wb; rw [acX xs ps _ h1.2,akQ h1.1]
  | .sl j :: xs,.no :: ps,env,h=>by
    have h1:i≠j∧i∉slots xs:=by simpa [slots] using h
    unfold wb; rw [acX xs ps _ h1.2]
  | .sl j :: xs,.im _ :: ps,env,h=>by
    have h1:i≠j∧i∉slots xs:=by simpa [slots] using h
    unfold wb; rw [acX xs ps _ h1.2]
  | .sl j :: xs,.hid :: ps,env,h=>by
    have h1:i≠j∧i∉slots xs:=by simpa [slots] using h
    unfold wb; rw [acX xs ps _ h1.2]
  | .im _ :: xs,_ :: ps,env,h=>by unfold wb; rw [acX xs ps _ (by simpa [slots] using h)]
  | .ow _ :: xs,_ :: ps,env,h=>by unfold wb; rw [acX xs ps _ (by simpa [slots] using h)]
theorem adH:∀ {xs:List X} {k i:Nat},xs[k]?=some (.sl i)→i∈slots xs
  | [],k,i,h=>by simp at h
  | x :: xs,0,i,h=>by
    simp at h
    subst h
    simp [slots]
  | x :: xs,k+1,i,h=>by
    have:=adH (xs:=xs) (k:=k) (i:=i) (by simpa using h)
    cases x <;> simp [slots,this]
theorem afE {i:Nat} {p b:Bool} {o o0:OD}:∀ (xs:List X) (ps env:Ev) (k:Nat),(slots xs).Nodup→xs[k]?=some (.sl i)→ps[k]?=some (Sl.ow b o)→env[i]?=some (Sl.ow p o0)→(wb xs ps env)[i]?=some (Sl.ow p o)
  | [],_,_,_,_,h,_,_=>by simp at h
  | x :: xs,[],_,k,_,_,h,_=>by simp at h
  | .sl j :: xs,.ow q1 o1 :: ps,env,0,nd,h,h2,h3=>by
    simp at h h2
    obtain ⟨rfl,rfl⟩:=h2
    subst h
    have h1:j∉slots xs∧(slots xs).Nodup:=by simpa [slots] using nd
    unfold wb
    rw [acX xs ps _ h1.1,apD h3]
  | .sl j :: xs,.ow q1 o1 :: ps,env,k+1,nd,h,h2,h3=>by
    have h1:j∉slots xs∧(slots xs).Nodup:=by simpa [slots] using nd
    have hk:xs[k]?=some (.sl i):=by simpa using h
    have hij:i≠j:=fun z=>h1.1 (z▸adH hk)
    unfold wb
    exact afE xs ps _ k h1.2 hk (by simpa using h2) (by rw [akQ hij]; exact h3)
  | .sl j :: xs,.no :: ps,env,0,nd,h,h2,h3=>by simp at h2
  | .sl j :: xs,.im _ :: ps,env,0,nd,h,h2,h3=>by simp at h2
  | .sl j :: xs,.hid :: ps,env,0,nd,h,h2,h3=>by simp at h2
  | .sl j :: xs,.no :: ps,env,k+1,nd,h,h2,h3=>by
    have h1:j∉slots xs∧(slots xs).Nodup:=by simpa [slots] using nd
    unfold wb
    exact afE xs ps _ k h1.2 (by simpa using h) (by simpa using h2) h3
  | .sl j :: xs,.im _ :: ps,env,k+1,nd,h,h2,h3=>by
    have h1:j∉slots xs∧(slots xs).Nodup:=by simpa [slots] using nd
    unfold wb
    exact afE xs ps _ k h1.2 (by simpa using h) (by simpa using h2) h3
  | .sl j :: xs,.hid :: ps,env,k+1,nd,h,h2,h3=>by
    have h1:j∉slots xs∧(slots xs).Nodup:=by simpa [slots] using nd
    unfold wb
    exact afE xs ps _ k h1.2 (by simpa using h) (by simpa using h2) h3
  | .im _ :: xs,s :: ps,env,0,nd,h,h2,h3=>by simp at h
  | .ow _ :: xs,s :: ps,env,0,nd,h,h2,h3=>by simp at h
  | .im _ :: xs,s :: ps,env,k+1,nd,h,h2,h3=>by
    unfold wb
    exact afE xs ps _ k (by simpa [slots] using nd) (by simpa using h) (by simpa using h2) h3
  | .ow _ :: xs,s :: ps,env,k+1,nd,h,h2,h3=>by
    unfold wb
    exact afE xs ps _ k (by simpa [slots] using nd) (by simpa using h) (by simpa using h2) h3
theorem ael:∀ {xs:List X} {i:Nat},i∈slots xs→∃ k:Nat,xs[k]?=some (X.sl i)
  | [],i,h=>by simp [slots] at h
  | .sl j :: xs,i,h=>by
    simp only [slots,List.mem_cons] at h
    rcases h with rfl | h
    · exact ⟨0,rfl⟩
    · obtain ⟨k,e⟩:=ael h
      exact ⟨k+1,by simpa using e⟩
  | .im _ :: xs,i,h=>by
    obtain ⟨k,e⟩:=ael (xs:=xs) (by simpa [slots] using h)
    exact ⟨k+1,by simpa using e⟩
  | .ow _ :: xs,i,h=>by
    obtain ⟨k,e⟩:=ael (xs:=xs) (by simpa [slots] using h)
    exact ⟨k+1,by simpa using e⟩
theorem ajE:∀ {xs:List X} {i k k':Nat},(slots xs).Nodup→xs[k]?=some (.sl i)→xs[k']?=some (.sl i)→k=k'
  | [],i,k,k',_,h,_=>by simp at h
  | x :: xs,i,0,0,_,_,_=>rfl
  | x :: xs,i,0,k'+1,nd,h,h'=>by
    simp at h
    subst h
    have h1:i∉slots xs:=by
      have:i∉slots xs∧(slots xs).Nodup:=by simpa [slots] using nd
      exact this.1
    exact (h1 (adH (by simpa using h'))).elim
  | x :: xs,i,k+1,0,nd,h,h'=>by
    simp at h'
    subst h'
    have h1:i∉slots xs:=by
      have:i∉slots xs∧(slots xs).Nodup:=by simpa [slots] using nd
      exact this.1
    exact (h1 (adH (by simpa using h))).elim
  | x :: xs,i,k+1,k'+1,nd,h,h'=>by
    have nd':(slots xs).Nodup:=by
      cases x with
      | sl j=>exact (by simpa [slots] using nd:j∉slots xs∧(slots xs).Nodup).2
      | im _=>simpa [slots] using nd
      | ow _=>simpa [slots] using nd
    exact congrArg (·+1) (ajE nd' (show xs[k]?=some (X.sl i) by simpa using h) (show xs[k']?=some (X.sl i) by simpa using h'))
theorem acg:∀ {xs:List X} {ps:Ev} {k:Nat},passXs env xs=some ps→(∀ s,ps[k]?=some s→∃ x,xs[k]?=some x∧passX env x=some s)∧(∀ x,xs[k]?=some x→∃ s,ps[k]?=some s∧passX env x=some s)∧ps.length=xs.length
  | [],ps,k,e=>by
    simp only [passXs] at e
    cases e
    exact ⟨fun s h=>by simp at h,fun x h=>by simp at h,rfl⟩
  | x :: xs,ps,k,e=>by
    simp only [passXs] at e
    obtain ⟨s,e1,e⟩:=Option.bind_eq_some_iff.mp e
    obtain ⟨ss,e2,e⟩:=Option.bind_eq_some_iff.mp e
    cases e
    cases k with
    | zero=>
      have:=(acg (k:=0) e2).2.2
      exact ⟨fun t h=>⟨x,rfl,by simp at h; rw [← h]; exact e1⟩,fun t h=>⟨s,rfl,by simp at h; rw [← h]; exact e1⟩,by simp [this]⟩
    | succ k=>
      obtain ⟨a,b,c⟩:=acg (k:=k) e2
      exact ⟨fun t h=>by simpa using a t (by simpa using h),fun t h=>by simpa using b t (by simpa using h),by simp [c]⟩
theorem aio {H0:Hp}:∀ {xs:List X} {vs:List V} {k:Nat} {x:X},RA K σ H0 M H env xs vs→xs[k]?=some x→∃ v,vs[k]?=some v∧RX K σ H0 M H env x v
  | [],_,k,x,_,h=>by simp at h
  | y :: xs,_,0,x,.cons r rs,h=>by
    simp at h
    subst h
    exact ⟨_,rfl,r⟩
  | y :: xs,_,k+1,x,.cons r rs,h=>by
    obtain ⟨v,e,r'⟩:=aio (k:=k) (show RA K σ H0 M H env xs _ from rs) (by simpa using h)
    exact ⟨v,by simpa using e,r'⟩
theorem aqz {H0:Hp} {xs:List X} {vs:List V} (r:RA K σ H0 M H env xs vs):xs.length=vs.length:=Paired.length r
theorem agz:∀ {xs:List X} {k:Nat} {o:OD},xs[k]?=some (.ow o)→1≤temps xs
  | [],k,o,h=>by simp at h
  | x :: xs,0,o,h=>by
    simp at h
    subst h
    simp [temps]
  | x :: xs,k+1,o,h=>by
    have:=agz (xs:=xs) (k:=k) (o:=o) (by simpa using h)
    cases x <;> simp [temps] <;> omega
theorem ajF:∀ {xs:List X} {k k':Nat} {o o':OD},temps xs≤1→xs[k]?=some (.ow o)→xs[k']?=some (.ow o')→k=k'
  | [],k,k',o,o',_,h,_=>by simp at h
  | x :: xs,0,0,_,_,_,_,_=>rfl
  | x :: xs,0,k'+1,o,o',ht,h,h'=>by
    simp at h
    subst h
    have:=agz (xs:=xs) (k:=k') (o:=o') (by simpa using h')
    simp [temps] at ht
    omega
  | x :: xs,k+1,0,o,o',ht,h,h'=>by
    simp at h'
    subst h'
    have:=agz (xs:=xs) (k:=k) (o:=o) (by simpa using h)
    simp [temps] at ht
    omega
  | x :: xs,k+1,k'+1,o,o',ht,h,h'=>by
    have ht':temps xs≤1:=by cases x <;> simp [temps] at ht <;> omega
    exact congrArg (·+1) (ajF ht' (show xs[k]?=some (X.ow o) by simpa using h) (show xs[k']?=some (X.ow o') by simpa using h'))
theorem agA {H0:Hp} (hh:Holds K M1 env1 σ H1) {xs:List X} (r:RA K σ H0 M1 H1 env1 xs vs) (e:passXs env1 xs=some ps) {k:Nat} {p:Bool} {o:OD} {l:Addr} (q:ps[k]?=some (Sl.ow p o)) (q':(sv vs)[k]?=some (some (V.ref l))):
    p=true∧At K M1 H1 l o∧M1 l=none∧((∃ i p0,xs[k]?=some (.sl i)∧env1[i]?=some (Sl.ow p0 o)∧σ[i]?=some (some (V.ref l)))∨(xs[k]?=some (.ow o)∧H0 l=none∧¬ Own env1 σ l)):=by
  obtain ⟨x,e1,e2⟩:=(acg (k:=k) e).1 _ q
  obtain ⟨v,e3,r1⟩:=aio r e1
  have ev:v=V.ref l:=by
    unfold sv at q'
    rw [List.getElem?_map,e3] at q'
    exact Option.some.inj (Option.some.inj q')
  subst ev
  cases x with
  | im d=>cases e2
  | ow o0=>
    cases e2
    obtain ⟨l2,el,a,m,no⟩:=r1.1
    cases el
    exact ⟨rfl,a,m,.inr ⟨e1,r1.2 o rfl l rfl,no⟩⟩
  | sl i=>
    obtain ⟨⟨p0,o0,t1⟩,t2⟩:=r1.1
    have e2':(match env1[i]? with
      | some (.ow _ o)=>some (Sl.ow true o)
      | _=>none)=some (Sl.ow p o):=e2
    rw [t1] at e2'
    cases e2'
    obtain ⟨l3,q3,a,m⟩:=hh.slot i _ t1
    rw [t2] at q3
    cases q3
    exact ⟨rfl,a,m,.inl ⟨i,p0,e1,t1,t2⟩⟩
theorem call_in (hh0:Holds K M env σ H) (g:Grow M env σ H M1 env1 σ H1) (hh:Holds K M1 env1 σ H1) {xs:List X} (r:RA K σ H M1 H1 env1 xs vs) (e:passXs env1 xs=some ps) (nd:(slots xs).Nodup) (nt:temps xs≤1):
    Holds K M1 ps (sv vs) H1:=by
  have hl:=(acg (k:=0) e).2.2
  refine ⟨hh.ex,by unfold sv; rw [List.length_map,← aqz r,hl],fun k s q=>?_,fun k k' l p o p' o' hk q1 q2 q3 q4=>?_⟩
  · obtain ⟨x,e1,e2⟩:=(acg (k:=k) e).1 s q
    obtain ⟨v,e3,r1⟩:=aio r e1
    have ev:(sv vs)[k]?=some (some v):=by unfold sv; rw [List.getElem?_map,e3]; rfl
    cases x with
    | im d=>
      cases e2
      rw [ev]
      exact ⟨v,rfl,r1.1⟩
    | ow o=>
      cases e2
      obtain ⟨l,rfl,_⟩:=r1.1
      obtain ⟨_,a,m,_⟩:=agA hh r e q ev
      rw [ev]
      exact ⟨l,rfl,a,m⟩
    | sl i=>
      obtain ⟨⟨p,o,q1⟩,q2⟩:=r1.1
      have e2':(match env1[i]? with
        | some (.ow _ o)=>some (Sl.ow true o)
        | _=>none)=some s:=e2
      rw [q1] at e2'
      cases e2'
      obtain ⟨l,q3,a,m⟩:=hh.slot i _ q1
      rw [q2] at q3
      cases q3
      rw [ev]
      exact ⟨l,rfl,a,m⟩
  · obtain ⟨_,_,_,h1⟩:=agA hh r e q1 q3
    obtain ⟨_,_,_,h2⟩:=agA hh r e q2 q4
    rcases h1 with ⟨i,p0,a1,a2,a3⟩ | ⟨a1,a2,a3⟩ <;> rcases h2 with ⟨j,p1,b1,b2,b3⟩ | ⟨b1,b2,b3⟩
    · have hij:i≠j:=fun z=>hk (ajE nd a1 (z▸b1))
      exact hh.dj i j l p0 o p1 o' hij a2 b2 a3 b3
    · exact b3 ⟨i,p0,o,a2,a3⟩
    · exact a3 ⟨j,p1,o',b2,b3⟩
    · exact hk (ajF nt a1 b1)
theorem ade (hh0:Holds K M env σ H) (g:Grow M env σ H M1 env1 σ H1) (s1:Shape env env1) (hh:Holds K M1 env1 σ H1) {xs:List X} (r:RA K σ H M1 H1 env1 xs vs) (e:passXs env1 xs=some ps) (nd:(slots xs).Nodup) {ps':Ev}
    (g2:Grow M1 ps (sv vs) H1 M2 ps' (sv vs) H2) (s2:Shape ps ps') (hh2:Holds K M2 ps' (sv vs) H2):
    Grow M env σ H M2 (wb xs ps' env1) σ H2∧Shape env (wb xs ps' env1)∧Holds K M2 (wb xs ps' env1) σ H2∧∀ y v,RX K (sv vs) H1 M2 H2 ps' y v→(∀ i,y≠.sl i)→RX K σ H M2 H2 (wb xs ps' env1) y v:=by
  have len1:∀ (k i:Nat),xs[k]?=some (.sl i)→∃ p o o',env1[i]?=some (Sl.ow p o)∧ps[k]?=some (Sl.ow true o)∧ps'[k]?=some (Sl.ow true o')∧(wb xs ps' env1)[i]?=some (Sl.ow p o')∧(sv vs)[k]?=σ[i]?:=fun k i h=>by
    obtain ⟨v,e3,r1⟩:=aio r h
    obtain ⟨⟨p,o,t1⟩,t2⟩:=r1.1
    obtain ⟨s,e4,e5⟩:=(acg (k:=k) e).2.1 _ h
    have e5':(match env1[i]? with
      | some (.ow _ o)=>some (Sl.ow true o)
      | _=>none)=some s:=e5
    rw [t1] at e5'
    cases e5'
    obtain ⟨o',e6⟩:=s2.ow e4
    refine ⟨p,o,o',t1,e4,e6,afE xs ps' env1 k nd h e6 t1,?_⟩
    unfold sv
    rw [List.getElem?_map,e3,t2]
    rfl
  have shp:Shape env1 (wb xs ps' env1):=by
    show (wb xs ps' env1).map Sl.kind=env1.map Sl.kind
    apply List.ext_getElem?
    intro i
    rw [List.getElem?_map,List.getElem?_map]
    by_cases hi:i∈slots xs
    · obtain ⟨k,hk⟩:=ael hi
      obtain ⟨p,o,o',t1,_,_,t2,_⟩:=len1 k i hk
      rw [t1,t2]
      rfl
    · rw [acX xs ps' env1 hi]
  have ownP:∀ l,Own ps (sv vs) l→Own env1 σ l∨(H l=none∧¬ Own env1 σ l):=fun l ⟨k,p,o,q1,q2⟩=>by
    obtain ⟨_,_,_,h⟩:=agA hh r e q1 q2
    rcases h with ⟨i,p0,a1,a2,a3⟩ | ⟨a1,a2,a3⟩
    · exact .inl ⟨i,p0,o,a2,a3⟩
    · exact .inr ⟨a2,a3⟩
  have g3:Grow M env σ H M2 (wb xs ps' env1) σ H2:=by
    refine ⟨g.exM.trans g2.exM,fun l o q n=>?_,fun l o q=>?_,fun l z=>g.own l (abX shp z),fun i s q pn=>⟨rfl,?_⟩,fun l q=>g.dom l (g2.dom l q),(adG _ _ _).trans g.len⟩
    · refine g2.fr l o (g.fr l o q n) fun z=>?_
      rcases ownP l z with z | z
      · rcases g.own l z with z | z
        · exact n z
        · rw [q] at z; cases z
      · rw [q] at z; cases z.1
    · rcases g2.new l o q with z | z | z
      · exact g.new l o z
      · exact .inr (.inl (g.dom l z))
      · rcases ownP l z with z | z
        · rcases g.own l z with z | z
          · exact .inr (.inr z)
          · exact .inr (.inl z)
        · exact .inr (.inl z.1)
    · have:=congrArg (fun l=>l[i]?) (show (wb xs ps' env1).map Sl.kind=env.map Sl.kind from Eq.trans shp s1)
      simp only [List.getElem?_map] at this
      rw [q] at this
      obtain ⟨s',e1,e2⟩:=Option.map_eq_some_iff.mp this
      exact ⟨s',e1,e2⟩
  · refine ⟨g3,Eq.trans shp s1,⟨hh2.ex,by rw [adG]; exact hh.len,fun i s q=>?_,fun i j l p o p' o' hij q1 q2 q3 q4=>?_⟩,fun y v ry ny=>?_⟩
    · by_cases hi:i∈slots xs
      · obtain ⟨k,hk⟩:=ael hi
        obtain ⟨p,o,o',t1,_,t3,t2,t4⟩:=len1 k i hk
        rw [t2] at q
        cases q
        have:=hh2.slot k _ t3
        rw [t4] at this
        exact this
      · rw [acX xs ps' env1 hi] at q
        have:=hh.slot i s q
        cases s with
        | no=>trivial
        | hid=>trivial
        | im d=>obtain ⟨u,e1,e2⟩:=this; exact ⟨u,e1,Rep.mono g2.exM _ _ e2⟩
        | ow p o=>
          obtain ⟨l,e1,a,m⟩:=this
          have no:¬ Own ps (sv vs) l:=fun ⟨k,p2,o2,q1,q2⟩=>by
            obtain ⟨_,_,_,h⟩:=agA hh r e q1 q2
            rcases h with ⟨j,p0,a1,a2,a3⟩ | ⟨a1,a2,a3⟩
            · have hij:i≠j:=fun z=>hi (z▸adH a1)
              exact hh.dj i j l p o p0 o2 hij q a2 e1 a3
            · exact a3 ⟨i,p,o,q,e1⟩
          refine ⟨l,e1,a.mono g2.exM fun u z=>g2.fr l u z no,?_⟩
          cases z:M2 l with
          | none=>rfl
          | some u=>
            obtain ⟨u2,hu⟩:=a.there
            rcases g2.new l u z with w | w | w
            · rw [m] at w; cases w
            · rw [hu] at w; cases w
            · exact (no w).elim
    · have f:∀ (i:Nat) (p:Bool) (o:OD),(wb xs ps' env1)[i]?=some (Sl.ow p o)→∃ o0,env1[i]?=some (Sl.ow p o0):=fun i p o q=>(show Shape (wb xs ps' env1) env1 from Eq.symm shp).ow q
      obtain ⟨o1,h1⟩:=f i p o q1
      obtain ⟨o2,h2⟩:=f j p' o' q2
      exact hh.dj i j l p o1 p' o2 hij h1 h2 q3 q4
    · refine ⟨?_,fun o z l z2=>g.dom l (ry.2 o z l z2)⟩
      obtain ⟨ry,nn⟩:=ry
      cases y with
      | im d=>exact ry
      | sl i=>exact (ny i rfl).elim
      | ow o=>
        obtain ⟨l,rfl,a,m,_⟩:=ry
        refine ⟨l,rfl,a,m,fun z=>?_⟩
        obtain ⟨u,hu⟩:=hh.ownSome (abX shp z)
        rw [nn o rfl l rfl] at hu
        cases hu
theorem O7 {N n:Nat} {ds:Ev→RS}:NoSl (fnM N n ds):=fun ps y ps' e i=>by
  unfold fnM at e
  by_cases hc:ps.length=n∧n≤N∧ps.all Sl.par=true
  · rw [if_pos hc] at e
    cases q:ds (ps++List.replicate (N - n) .no) with
    | rt x env=>
      rw [q] at e
      have e':opt (retX n env x) (backP ps env)=RE.ok y ps':=e
      cases q2:retX n env x with
      | none=>rw [q2] at e'; cases e'
      | some z=>
        rw [q2] at e'
        have ez:z=y:=by
          have:RE.ok z (backP ps env)=RE.ok y ps':=e'
          injection this
        subst ez
        intro hz
        subst hz
        cases x with
        | im d=>cases q2
        | ow o=>cases q2
        | sl j=>
          have q3:(if j < n then none else match env[j]? with
            | some (.ow _ o)=>some (X.ow o)
            | _=>none)=some (X.sl i):=q2
          by_cases hj:j < n
          · rw [if_pos hj] at q3; cases q3
          · rw [if_neg hj] at q3
            split at q3 <;> cases q3
    | nx env=>rw [q] at e; cases e; intro z; cases z
    | exc _ _=>rw [q] at e; cases e
    | bk _=>rw [q] at e; cases e
    | ct _=>rw [q] at e; cases e
    | bad=>rw [q] at e; cases e
  · rw [if_neg hc] at e
    cases e
theorem G7 {m:Ev→RE X} {E:XK} {ta:TA} {da:Ev→RE (List X)} (hm:NoSl m) (ha:DA K (fun _=>E) ta da):DE K (fun _=>E) (tCall (spD K m) [] E ta) (dCall m da):=fun M σ H env hh=>by
  have h1:=ha M σ H env hh
  unfold dCall
  cases e1:da env with
  | bad=>trivial
  | exc e env1=>rw [e1] at h1; exact fun Q k=>h1 _ k
  | ok xs env1=>
    rw [e1] at h1
    show Sat K _ M σ H env (match passXs env1 xs with
      | none=>.bad
      | some ps=>if (slots xs).Nodup∧temps xs≤1 then match m ps with
          | .ok y ps'=>.ok y (wb xs ps' env1)
          | .exc e ps'=>.exc e (wb xs ps' env1)
          | .bad=>.bad
        else .bad) (RX K σ) _
    cases e2:passXs env1 xs with
    | none=>trivial
    | some ps=>
      show Sat K _ M σ H env (if (slots xs).Nodup∧temps xs≤1 then match m ps with
          | .ok y ps'=>.ok y (wb xs ps' env1)
          | .exc e ps'=>.exc e (wb xs ps' env1)
          | .bad=>.bad
        else .bad) (RX K σ) _
      by_cases nd:(slots xs).Nodup∧temps xs≤1
      · rw [if_pos nd]
        cases e3:m ps with
        | bad=>trivial
        | ok y ps'=>
          refine fun Q k=>h1 _ fun vs M1 H1 g s hh1 r=>?_
          rw [List.append_nil]
          refine ⟨_,ps,call_in hh g hh1 r e2 nd.1 nd.2,?_⟩
          rw [e3]
          intro v M2 H2 g2 s2 hh2 ry
          obtain ⟨a,b,c,d⟩:=ade hh g s hh1 r e2 nd.1 g2 s2 hh2
          exact k v M2 H2 a b c (d y v ry (hm ps y ps' e3))
        | exc x ps'=>
          refine fun Q k=>h1 _ fun vs M1 H1 g s hh1 r=>?_
          rw [List.append_nil]
          refine ⟨_,ps,call_in hh g hh1 r e2 nd.1 nd.2,?_⟩
          rw [e3]
          intro cls dd M2 H2 g2 s2 hh2 ry
          obtain ⟨a,b,c,d⟩:=ade hh g s hh1 r e2 nd.1 g2 s2 hh2
          exact k cls dd M2 H2 a b c ry
      · rw [if_neg nd]
        trivial
end
end Dn
namespace Dn
open PySem PySem.Spec PyProof.Rows L2
def DGv (K:Fg) [WD K] (g:TG) (dg:D→Ev→Option Ev) (vs:List Nat):Prop:=(∀ (M:Hp) (σ:L2.St) (H:Hp) (env env':Ev) (d:D) (v:V),Holds K M env σ H→Rep K M d v→dg d env=some env'→∀ Q:L2.St→Hp→Prop,(∀ σ',Grow M env σ H M env' σ' H→Holds K M env' σ' H→(∀ i,i∉vs→σ'[i]?=σ[i]?)→Q σ' H)→g v σ H Q)∧
  ∀ d env env',dg d env=some env'→∀ i,i∉vs→env'[i]?=env[i]?
def DGsv (K:Fg) [WD K] (g:TGs) (dg:List D→Ev→Option Ev) (vs:List Nat):Prop:=(∀ (M:Hp) (σ:L2.St) (H:Hp) (env env':Ev) (ds:List D) (us:List V),Holds K M env σ H→Reps K M ds us→dg ds env=some env'→∀ Q:L2.St→Hp→Prop,(∀ σ',Grow M env σ H M env' σ' H→Holds K M env' σ' H→(∀ i,i∉vs→σ'[i]?=σ[i]?)→Q σ' H)→g us σ H Q)∧
  ∀ ds env env',dg ds env=some env'→∀ i,i∉vs→env'[i]?=env[i]?
section
variable {K:Fg} [WD K] {W:WS} {M M' M1 M2:Hp} {env env' env1 env2 e e1:Ev} {σ σ' σ1:L2.St} {H H' H1 H2:Hp} {x y:X} {v u:V} {te:TE} {de:Ev→RE X} {tt:TT} {dt:Ev→RE Bool} {vs:List Nat}
theorem al6 {i j:Nat} (h:setSl i x env=some env') (hj:j≠i):env'[j]?=env[j]?:=by
  unfold setSl at h
  split at h
  · cases h
  · cases h
  · cases h
  · obtain ⟨s,_,rfl⟩:=Option.map_eq_some_iff.mp h
    exact List.getElem?_set_ne (Ne.symm hj)
theorem Q8 {i:Nat} (hi:i∈vs):DGv K (gName i) (N7 i) vs:=⟨fun M σ H env env' d v hh r e Q k=>by
  obtain ⟨g,h⟩:=afD hh .refl hh (abQ r) e
  exact k _ g h fun j hj=>List.getElem?_set_ne (fun (z:i=j)=>hj (by rw [← z]; exact hi)),fun d env env' h j hj=>al6 h (fun (z:j=i)=>hj (by rw [z]; exact hi))⟩
theorem ad9:DGsv K gNil dgNil vs:=by
  refine ⟨fun M σ H env env' ds us hh r e Q k=>?_,fun ds env env' e=>?_⟩
  · cases ds with
    | cons d ds=>cases e
    | nil=>
      cases e
      simp only [Reps] at r
      exact ⟨r,k σ .refl hh fun _ _=>rfl⟩
  · cases ds with
    | cons d ds=>cases e
    | nil=>cases e; exact fun _ _=>rfl
theorem W8 {g:TG} {gs:TGs} {a:D→Ev→Option Ev} {b:List D→Ev→Option Ev} (ha:DGv K g a vs) (hb:DGsv K gs b vs):DGsv K (gCons g gs) (T8 a b) vs:=by
  refine ⟨fun M σ H env env' ds us hh r e Q k=>?_,fun ds env env' e=>?_⟩
  · cases ds with
    | nil=>cases e
    | cons d ds=>
      simp only [Reps] at r
      obtain ⟨v,r',rfl,h1,h2⟩:=r
      obtain ⟨env1,e1,e2⟩:=Option.bind_eq_some_iff.mp (show (a d env).bind (b ds)=some env' from e)
      exact ⟨v,r',rfl,ha.1 M σ H env env1 d v hh h1 e1 _ fun σ1 g1 hh1 k1=>hb.1 M σ1 H env1 env' ds r' hh1 h2 e2 _ fun σ2 g2 hh2 k2=>k σ2 (g1.trans hh g2) hh2 fun i hi=>(k2 i hi).trans (k1 i hi)⟩
  · cases ds with
    | nil=>cases e
    | cons d ds=>
      obtain ⟨env1,e1,e2⟩:=Option.bind_eq_some_iff.mp (show (a d env).bind (b ds)=some env' from e)
      exact fun i hi=>(hb.2 _ _ _ e2 i hi).trans (ha.2 _ _ _ e1 i hi)
theorem afo {gs:TGs} {a:List D→Ev→Option Ev} {n:Nat} (ha:DGsv K gs a vs):DGv K (gTup K n gs) (dgTup n a) vs:=by
  refine ⟨fun M σ H env env' d v hh r e Q k=>?_,fun d env env' e=>?_⟩
  · cases d with
    | tup xs=>
      have e':(if xs.length=n then a xs env else none)=some env':=e
      by_cases hn:xs.length=n
      · rw [if_pos hn] at e'
        simp only [Rep] at r
        obtain ⟨b,us,rfl,h1,h2⟩:=r
        exact ⟨b,us,rfl,aa2 hh.ex h1.t,by rw [← h2.length]; exact hn,ha.1 M σ H env env' xs us hh h2 e' Q k⟩
      · rw [if_neg hn] at e'
        cases e'
    | tupW xs=>
      have e':(if xs.length=n then a xs env else none)=some env':=e
      by_cases hn:xs.length=n
      · rw [if_pos hn] at e'
        simp only [Rep] at r
        obtain ⟨b,us,rfl,h1,h2⟩:=r
        exact ⟨b,us,rfl,aa2 hh.ex h1,by rw [← h2.length]; exact hn,ha.1 M σ H env env' xs us hh h2 e' Q k⟩
      · rw [if_neg hn] at e'
        cases e'
    | _=>cases e
  · cases d with
    | tup xs=>
      have e':(if xs.length=n then a xs env else none)=some env':=e
      by_cases hn:xs.length=n
      · rw [if_pos hn] at e'
        exact ha.2 _ _ _ e'
      · rw [if_neg hn] at e'
        cases e'
    | tupW xs=>
      have e':(if xs.length=n then a xs env else none)=some env':=e
      by_cases hn:xs.length=n
      · rw [if_pos hn] at e'
        exact ha.2 _ _ _ e'
      · rw [if_neg hn] at e'
        cases e'
    | _=>cases e
theorem aan:∀ (vs:List Nat) (i:Nat),(wipe σ vs)[i]?=if i∈vs then (if i < σ.length then some none else none) else σ[i]?
  | [],i=>by simp [wipe]
  | v :: vs,i=>by
    show ((wipe σ vs).set v none)[i]?=_
    by_cases h:i=v
    · subst h
      rw [if_pos (by simp),List.getElem?_set]
      simp only [if_true,wipe_length]
    · rw [List.getElem?_set_ne (Ne.symm h),aan vs i]
      simp [h]
theorem abZ:∀ vs:List Nat,(O4 env vs).length=env.length
  | []=>rfl
  | v :: vs=>by show ((O4 env vs).set v .no).length=_; rw [List.length_set,abZ vs]
theorem aeI:∀ vs:List Nat,(restE e1 e vs).length=e.length
  | []=>rfl
  | v :: vs=>by show ((restE e1 e vs).set v _).length=_; rw [List.length_set,aeI vs]
theorem aaf:∀ (vs:List Nat) (i:Nat),(O4 env vs)[i]?=if i∈vs then (if i < env.length then some .no else none) else env[i]?
  | [],i=>by simp [O4]
  | v :: vs,i=>by
    show ((O4 env vs).set v .no)[i]?=_
    by_cases h:i=v
    · subst h
      rw [if_pos (by simp),List.getElem?_set]
      simp only [if_true,abZ]
    · rw [List.getElem?_set_ne (Ne.symm h),aaf vs i]
      simp [h]
theorem adI:∀ (vs:List Nat) (i:Nat),(restE e1 e vs)[i]?=if i∈vs then (if i < e.length then some (e1.getD i .no) else none) else e[i]?
  | [],i=>by simp [restE]
  | v :: vs,i=>by
    show ((restE e1 e vs).set v _)[i]?=_
    by_cases h:i=v
    · subst h
      rw [if_pos (by simp),List.getElem?_set]
      simp only [if_true,aeI]
    · rw [List.getElem?_set_ne (Ne.symm h),adI vs i]
      simp [h]
theorem apE (h:∀ i,i∉vs→σ'[i]?=σ[i]?) (hl:σ'.length=σ.length):wipe σ' vs=wipe σ vs:=by
  apply List.ext_getElem?
  intro i
  rw [aan,aan,hl]
  by_cases hi:i∈vs
  · rw [if_pos hi,if_pos hi]
  · rw [if_neg hi,if_neg hi,h i hi]
theorem aip (hh:Holds K M env σ' H) (h:∀ i,i∉vs→σ[i]?=σ'[i]?) (hl:σ.length=σ'.length):Holds K M (O4 env vs) (wipe σ vs) H where
  ex:=hh.ex
  len:=by rw [wipe_length,abZ,hl]; exact hh.len
  slot:=fun i s q=>by
    rw [aaf] at q
    rw [aan]
    by_cases hi:i∈vs
    · rw [if_pos hi] at q
      split at q
      · cases q; trivial
      · cases q
    · rw [if_neg hi] at q ⊢
      rw [h i hi]
      exact hh.slot i s q
  dj:=fun i j l p o p' o' hij q1 q2 q3 q4=>by
    have f:∀ (i:Nat) (p:Bool) (o:OD),(O4 env vs)[i]?=some (Sl.ow p o)→i∉vs∧env[i]?=some (Sl.ow p o):=fun i p o q=>by
      rw [aaf] at q
      by_cases hi:i∈vs
      · rw [if_pos hi] at q
        split at q <;> cases q
      · rw [if_neg hi] at q
        exact ⟨hi,q⟩
    obtain ⟨a1,a2⟩:=f i p o q1
    obtain ⟨b1,b2⟩:=f j p' o' q2
    rw [aan,if_neg a1,h i a1] at q3
    rw [aan,if_neg b1,h j b1] at q4
    exact hh.dj i j l p o p' o' hij a2 b2 q3 q4
theorem ah2 (h:∀ i,i∉vs→σ[i]?=σ'[i]?) {l:Addr}:Own (O4 env vs) (wipe σ vs) l→Own env σ' l:=fun ⟨i,p,o,q1,q2⟩=>by
  rw [aaf] at q1
  by_cases hi:i∈vs
  · rw [if_pos hi] at q1
    split at q1 <;> cases q1
  · rw [if_neg hi] at q1
    rw [aan,if_neg hi,h i hi] at q2
    exact ⟨i,p,o,q1,q2⟩
theorem ajG {p:Addr} {o:HO} (hh:Holds K M env σ H) (m:M p=none) (n:¬ Own env σ p):Holds K M env σ (upd H p o) where
  ex:=fun a u q=>by
    have:a≠p:=fun z=>by subst z; rw [m] at q; cases q
    rw [upd_ne this]
    exact hh.ex a u q
  len:=hh.len
  slot:=fun i s q=>by
    have:=hh.slot i s q
    cases s with
    | no=>trivial
    | hid=>trivial
    | im d=>exact this
    | ow pn od=>
      obtain ⟨l,e1,a,m2⟩:=this
      have:l≠p:=fun z=>n ⟨i,pn,od,q,z▸e1⟩
      exact ⟨l,e1,a.mono (Same.refl M) fun u z=>by rw [upd_ne this]; exact z,m2⟩
  dj:=hh.dj
theorem akR {p:Addr} {o:HO} (g:Grow M env σ H M' env' σ' H') (h:H p=none):Grow M env σ H M' env' σ' (upd H' p o) where
  exM:=g.exM
  fr:=fun l u q n=>by
    have:l≠p:=fun z=>by subst z; rw [h] at q; cases q
    rw [upd_ne this]
    exact g.fr l u q n
  new:=g.new
  own:=g.own
  pin:=g.pin
  dom:=fun l q=>by
    by_cases z:l=p
    · exact z▸h
    · rw [upd_ne z] at q; exact g.dom l q
  len:=g.len
abbrev WF:WS:=fun _ _ _ _=>False
theorem apF (hh:Holds K M env σ H) (hf:vs.all (freeSl env)=true) (g:Grow M (O4 env vs) (wipe σ vs) H M' e (wipe σ vs) H') (hs:Shape (O4 env vs) e) (hh':Holds K M' e (wipe σ vs) H'):
    Grow M env σ H M' (restE env e vs) σ H'∧Shape env (restE env e vs)∧Holds K M' (restE env e vs) σ H'∧∀ l,Own (restE env e vs) σ l→Own e (wipe σ vs) l:=by
  have hl:e.length=env.length:=by rw [g.len,abZ]
  have fr:∀ i,i∈vs→freeSl env i=true:=fun i hi=>List.all_eq_true.mp hf i hi
  have own1:∀ l,Own (restE env e vs) σ l→Own e (wipe σ vs) l:=fun l ⟨i,p,o,q1,q2⟩=>by
    rw [adI] at q1
    by_cases hi:i∈vs
    · rw [if_pos hi] at q1
      split at q1
      · rename_i hlt
        have:=fr i hi
        unfold freeSl at this
        rw [List.getD_eq_getElem?_getD] at q1
        cases q:env[i]? with
        | none=>rw [q] at this; cases this
        | some s=>
          rw [q] at this q1
          cases q1
          cases this
      · cases q1
    · rw [if_neg hi] at q1
      exact ⟨i,p,o,q1,by rw [aan,if_neg hi]; exact q2⟩
  have own2:∀ l,Own (O4 env vs) (wipe σ vs) l→Own env σ l:=fun l z=>ah2 (fun _ _=>rfl) z
  have shp:Shape env (restE env e vs):=by
    show (restE env e vs).map Sl.kind=env.map Sl.kind
    apply List.ext_getElem?
    intro i
    rw [List.getElem?_map,List.getElem?_map,adI]
    by_cases hi:i∈vs
    · rw [if_pos hi,hl]
      by_cases hlt:i < env.length
      · rw [if_pos hlt,List.getD_eq_getElem?_getD,List.getElem?_eq_getElem hlt]
        rfl
      · rw [if_neg hlt,List.getElem?_eq_none (by omega)]
    · rw [if_neg hi]
      have:=congrArg (fun l=>l[i]?) (show e.map Sl.kind=(O4 env vs).map Sl.kind from hs)
      simp only [List.getElem?_map] at this
      rw [this,aaf,if_neg hi]
  refine ⟨⟨g.exM,fun l u q n=>g.fr l u q fun z=>n (own2 l z),fun l u q=>(g.new l u q).imp id (Or.imp id (own2 l)),fun l z=>?_,fun i s q pn=>⟨rfl,?_⟩,g.dom,by rw [aeI,hl]⟩,shp,⟨hh'.ex,by rw [aeI,hl]; exact hh.len,fun i s q=>?_,fun i j l p o p' o' hij q1 q2 q3 q4=>?_⟩,own1⟩
  · rcases g.own l (own1 l z) with q | q
    · exact .inl (own2 l q)
    · exact .inr q
  · have:=congrArg (fun l=>l[i]?) (show (restE env e vs).map Sl.kind=env.map Sl.kind from shp)
    simp only [List.getElem?_map] at this
    rw [q] at this
    obtain ⟨s',e1,e2⟩:=Option.map_eq_some_iff.mp this
    exact ⟨s',e1,e2⟩
  · rw [adI] at q
    by_cases hi:i∈vs
    · rw [if_pos hi] at q
      split at q
      · rename_i hlt
        have:=fr i hi
        unfold freeSl at this
        rw [List.getD_eq_getElem?_getD] at q
        cases q0:env[i]? with
        | none=>rw [q0] at this; cases this
        | some s0=>
          rw [q0] at this q
          cases q
          cases s0 with
          | no=>trivial
          | im d=>
            obtain ⟨u,e1,e2⟩:=hh.slot i _ q0
            exact ⟨u,e1,Rep.mono g.exM _ _ e2⟩
          | ow _ _=>cases this
          | hid=>cases this
      · cases q
    · rw [if_neg hi] at q
      have:=hh'.slot i s q
      rw [aan,if_neg hi] at this
      exact this
  · have f:∀ (i:Nat) (p:Bool) (o:OD),(restE env e vs)[i]?=some (Sl.ow p o)→i∉vs∧e[i]?=some (Sl.ow p o):=fun i p o q=>by
      rw [adI] at q
      by_cases hi:i∈vs
      · rw [if_pos hi] at q
        split at q
        · have:=fr i hi
          unfold freeSl at this
          rw [List.getD_eq_getElem?_getD] at q
          cases q0:env[i]? with
          | none=>rw [q0] at this; cases this
          | some s0=>
            rw [q0] at this q
            cases q
            cases this
        · cases q
      · rw [if_neg hi] at q
        exact ⟨hi,q⟩
    obtain ⟨a1,a2⟩:=f i p o q1
    obtain ⟨b1,b2⟩:=f j p' o' q2
    exact hh'.dj i j l p o p' o' hij a2 b2 (by rw [aan,if_neg a1]; exact q3) (by rw [aan,if_neg b1]; exact q4)
theorem aro {J:It} {as:List Addr} {xs:List D} {g:TG} {dg:D→Ev→Option Ev} (hg:DGv K g dg vs) (ht:DT K WF tt dt) (he:DE K WF te de) (hh:Holds K M env (wipe σ vs) H) (hi:ItOk K J as M H xs) (hn:∀ a∈as,¬ Own env (wipe σ vs) a∧∃ o,H a=some o)
    {ds:List D} {e:Ev} (hr:lcGo dg dt de vs xs env []=.ok ds e) (Q:VK) (k:∀ (D:Addr) (M' H':Hp),H D=none→Grow M env (wipe σ vs) H M' e (wipe σ vs) H'→Shape env e→Holds K M' e (wipe σ vs) H'→At K M' H' D (.lst ds)→M' D=none→¬ Own e (wipe σ vs) D→Q (.ref D) H') (hw:O4 env vs=env):
    ∀ D,H D=none→∃ Wd:Nat→Nat→Hp→Prop,(∃ m,Wd 0 m (upd H D (.lst [])))∧∀ i m H,Wd i m H→
      (J.stop i H∧Q (.ref D) H)∨(J.go i H∧∃ Nx:Hp→Prop,(∀ H',Nx H'→∃ m',m' < m∧Wd (i+1) m' H')∧∀ x H',J.yld i H x H'→g x (wipe σ vs) H' fun σ2 H2=>wipe σ2 vs=wipe σ vs∧tt σ2 H2 fun b H3=>
        if b=true then te σ2 H3 fun y H4=>∃ acc,H4 D=some (.lst acc)∧acc.length < sizeLine∧Nx (upd H4 D (.lst (acc++[y]))) else Nx H3):=by
  intro D hD
  have noD:¬ Own env (wipe σ vs) D:=fun z=>by
    obtain ⟨u,q⟩:=hh.ownSome z
    rw [hD] at q; cases q
  have mD:M D=none:=hh.ex.free hD
  refine ⟨fun i m H'=>m=xs.length - i∧i≤xs.length∧∃ M' e' acc ws,lcGo dg dt de vs (xs.drop i) e' acc=.ok ds e∧Grow M env (wipe σ vs) H M' e' (wipe σ vs) H'∧Shape env e'∧Holds K M' e' (wipe σ vs) H'∧H' D=some (.lst ws)∧Reps K M' acc ws∧M' D=none∧¬ Own e' (wipe σ vs) D∧O4 e' vs=e',
    ⟨xs.length,by simp,Nat.zero_le _,M,env,[],[],hr,akR .refl hD,.refl _,ajG hh mD noD,upd_same,Reps.nil,mD,noD,hw⟩,?_⟩
  rintro i m H1 ⟨rfl,hi1,M1,e1,acc,ws,f1,g1,s1,hh1,hD1,rA,mD1,noD1,hw1⟩
  have src:∀ a∈as,∀ o,H a=some o→H1 a=some o:=fun a ha o q=>g1.fr a o q (hn a ha).1
  cases q:xs[i]? with
  | none=>
    have hl:i=xs.length:=by
      have:=List.getElem?_eq_none_iff.mp q
      omega
    subst hl
    rw [List.drop_length] at f1
    have f2:RE.ok acc e1=RE.ok ds e:=f1
    cases f2
    exact .inl ⟨hi.stop M1 H1 g1.exM hh1.ex src,k D M1 H1 hD g1 s1 hh1 ⟨ws,hD1,rA⟩ mD1 noD1⟩
  | some d=>
    obtain ⟨go,yl⟩:=hi.go M1 H1 i d q g1.exM hh1.ex src
    have hlt:i < xs.length:=(List.getElem?_eq_some_iff.mp q).1
    have hd:xs.drop i=d :: xs.drop (i+1):=by
      rw [List.drop_eq_getElem_cons hlt]
      rw [List.getElem?_eq_getElem hlt] at q
      cases q
      rfl
    rw [hd] at f1
    refine .inr ⟨go,fun H'=>∃ M' e' acc ws,lcGo dg dt de vs (xs.drop (i+1)) e' acc=.ok ds e∧Grow M env (wipe σ vs) H M' e' (wipe σ vs) H'∧Shape env e'∧Holds K M' e' (wipe σ vs) H'∧H' D=some (.lst ws)∧Reps K M' acc ws∧M' D=none∧¬ Own e' (wipe σ vs) D∧O4 e' vs=e',fun H' h=>⟨xs.length - (i+1),by omega,rfl,hlt,h⟩,fun w H2 hy=>?_⟩
    obtain ⟨M2,ex,rp⟩:=yl w H2 hy
    have hh2:=ex.holds hh1
    cases q1:dg d e1 with
    | none=>
      exfalso
      have:(match dg d e1 with
        | none=>(RE.bad:RE (List Dn.D))
        | some e2=>match dt e2 with
          | .ok true e3=>match de e3 with
            | .ok y e4=>match frz y with
              | some d=>if fit (acc.length+1) then lcGo dg dt de vs (xs.drop (i+1)) (O4 e4 vs) (acc++[d]) else .bad
              | none=>.bad
            | _=>.bad
          | .ok false e3=>lcGo dg dt de vs (xs.drop (i+1)) (O4 e3 vs) acc
          | _=>.bad)=RE.ok ds e:=f1
      rw [q1] at this
      cases this
    | some e2=>
      have f2:(match dt e2 with
          | .ok true e3=>match de e3 with
            | .ok y e4=>match frz y with
              | some d=>if fit (acc.length+1) then lcGo dg dt de vs (xs.drop (i+1)) (O4 e4 vs) (acc++[d]) else .bad
              | none=>.bad
            | _=>.bad
          | .ok false e3=>lcGo dg dt de vs (xs.drop (i+1)) (O4 e3 vs) acc
          | _=>.bad)=RE.ok ds e:=by
        have:(match dg d e1 with
          | none=>(RE.bad:RE (List Dn.D))
          | some e2=>match dt e2 with
            | .ok true e3=>match de e3 with
              | .ok y e4=>match frz y with
                | some d=>if fit (acc.length+1) then lcGo dg dt de vs (xs.drop (i+1)) (O4 e4 vs) (acc++[d]) else .bad
                | none=>.bad
              | _=>.bad
            | .ok false e3=>lcGo dg dt de vs (xs.drop (i+1)) (O4 e3 vs) acc
            | _=>.bad)=RE.ok ds e:=f1
        rw [q1] at this
        exact this
      have out:=hg.2 d e1 e2 q1
      refine hg.1 M2 (wipe σ vs) H2 e1 e2 d w hh2 rp q1 _ fun σ3 g3 hh3 ko=>?_
      have hl3:σ3.length=σ.length:=by
        have h1:=hh3.len
        have h2:=hh2.len
        have h3:=g3.len
        have h4:=wipe_length σ vs
        omega
      have ko':∀ i,i∉vs→σ3[i]?=σ[i]?:=fun i hi=>by rw [ko i hi,aan,if_neg hi]
      refine ⟨apE ko' hl3,?_⟩
      have g4:Grow M1 e1 (wipe σ vs) H1 M2 e2 σ3 H2:=(ex.grow hh1).trans hh1 g3
      have hD2:H2 D=some (.lst ws):=ex.exH _ _ hD1
      have mD2:M2 D=none:=by
        cases z:M2 D with
        | none=>rfl
        | some u=>
          rcases ex.new D u z with w | w
          · rw [mD1] at w; cases w
          · rw [hD1] at w; cases w
      have noD2:¬ Own e2 σ3 D:=fun z=>by
        rcases g3.own D z with w | w
        · exact noD1 w
        · rw [hD2] at w; cases w
      have back:∀ {Mx Hx:Hp} {ex:Ev},Grow M1 e1 (wipe σ vs) H1 Mx ex σ3 Hx→Shape e2 ex→Holds K Mx ex σ3 Hx→Grow M1 e1 (wipe σ vs) H1 Mx (O4 ex vs) (wipe σ vs) Hx∧Shape e1 (O4 ex vs)∧Holds K Mx (O4 ex vs) (wipe σ vs) Hx∧(∀ l,Own (O4 ex vs) (wipe σ vs) l→Own ex σ3 l):=fun {Mx Hx ex} gx sx hx=>by
        have ow:∀ l,Own (O4 ex vs) (wipe σ vs) l→Own ex σ3 l:=fun l z=>ah2 (fun i hi=>(ko' i hi).symm) z
        have sh:Shape e1 (O4 ex vs):=by
          show (O4 ex vs).map Sl.kind=e1.map Sl.kind
          apply List.ext_getElem?
          intro i
          rw [List.getElem?_map,List.getElem?_map,aaf]
          by_cases hi:i∈vs
          · rw [if_pos hi]
            have h1:e1[i]?=if i < e1.length then some .no else none:=by
              have:=aaf (env:=e1) vs i
              rw [hw1,if_pos hi] at this
              exact this
            have h2:ex.length=e1.length:=gx.len
            rw [h1,h2]
          · rw [if_neg hi]
            have:=congrArg (fun l=>l[i]?) (show ex.map Sl.kind=e2.map Sl.kind from sx)
            simp only [List.getElem?_map] at this
            rw [this,out i hi]
        refine ⟨⟨gx.exM,gx.fr,gx.new,fun l z=>gx.own l (ow l z),fun i s q pn=>⟨rfl,?_⟩,gx.dom,by rw [abZ,gx.len]⟩,sh,aip hx (fun i hi=>(ko' i hi).symm) hl3.symm,ow⟩
        have:=congrArg (fun l=>l[i]?) (show (O4 ex vs).map Sl.kind=e1.map Sl.kind from sh)
        simp only [List.getElem?_map] at this
        rw [q] at this
        obtain ⟨s',e1,e2⟩:=Option.map_eq_some_iff.mp this
        exact ⟨s',e1,e2⟩
      have idem:∀ ex:Ev,O4 (O4 ex vs) vs=O4 ex vs:=fun ex=>by
        apply List.ext_getElem?
        intro i
        rw [aaf,abZ,aaf]
        by_cases hi:i∈vs
        · rw [if_pos hi,if_pos hi]
        · rw [if_neg hi,if_neg hi]
      have h5:=ht M2 σ3 H2 e2 hh3
      cases q2:dt e2 with
      | bad=>rw [q2] at f2; cases f2
      | exc _ _=>rw [q2] at f2; cases f2
      | ok b e3=>
        rw [q2] at f2 h5
        refine h5 _ fun b' M3 H3 g5 s5 hh5 eb=>?_
        cases (show b=b' from eb)
        have hD3:H3 D=some (.lst ws):=g5.fr D _ hD2 noD2
        have noD3:¬ Own e3 σ3 D:=fun z=>noD2 (abX s5 z)
        have mD3:M3 D=none:=by
          cases z:M3 D with
          | none=>rfl
          | some u=>
            rcases g5.new D u z with w | w | w
            · rw [mD2] at w; cases w
            · rw [hD2] at w; cases w
            · exact (noD2 w).elim
        have g6:=g4.trans hh1 g5
        cases b with
        | false=>
          rw [if_neg (by decide)]
          obtain ⟨a1,a2,a3,a4⟩:=back g6 s5 hh5
          exact ⟨M3,O4 e3 vs,acc,ws,f2,g1.trans hh a1,s1.trans a2,a3,hD3,Reps.mono (g4.exM.trans g5.exM) _ _ rA,mD3,fun z=>noD3 (a4 D z),idem _⟩
        | true=>
          rw [if_pos rfl]
          have f3:(match de e3 with
            | .ok y e4=>match frz y with
              | some d=>if fit (acc.length+1) then lcGo dg dt de vs (xs.drop (i+1)) (O4 e4 vs) (acc++[d]) else .bad
              | none=>.bad
            | _=>.bad)=RE.ok ds e:=f2
          have h6:=he M3 σ3 H3 e3 hh5
          cases q3:de e3 with
          | bad=>rw [q3] at f3; cases f3
          | exc _ _=>rw [q3] at f3; cases f3
          | ok y e4=>
            rw [q3] at f3 h6
            have f4:(match frz y with
              | some d=>if fit (acc.length+1) then lcGo dg dt de vs (xs.drop (i+1)) (O4 e4 vs) (acc++[d]) else .bad
              | none=>.bad)=RE.ok ds e:=f3
            cases q4:frz y with
            | none=>rw [q4] at f4; cases f4
            | some d'=>
              rw [q4] at f4
              have f5:(if fit (acc.length+1) then lcGo dg dt de vs (xs.drop (i+1)) (O4 e4 vs) (acc++[d']) else .bad)=RE.ok ds e:=f4
              cases q5:fit (acc.length+1) with
              | false=>rw [q5,if_neg (by decide)] at f5; cases f5
              | true=>
                rw [q5,if_pos rfl] at f5
                refine h6 _ fun w' M4 H4 g7 s7 hh7 r7=>?_
                have rd:=afj r7 q4
                have g8:=abq g7
                have hh8:=aaU (H:=H3) hh7
                have hD4:H4 D=some (.lst ws):=g7.fr D _ hD3 noD3
                have noD4:¬ Own e4 σ3 D:=fun z=>noD3 (abX s7 z)
                have mD4:frzM M4 H3 H4 e4 σ3 D=none:=by
                  cases z:frzM M4 H3 H4 e4 σ3 D with
                  | none=>rfl
                  | some u=>
                    rcases g8.new D u z with w | w | w
                    · rw [mD3] at w; cases w
                    · rw [hD3] at w; cases w
                    · exact (noD3 w).elim
                have g9:=g6.trans hh1 g8
                obtain ⟨a1,a2,a3,a4⟩:=back g9 (s5.trans s7) hh8
                have noD5:¬ Own (O4 e4 vs) (wipe σ vs) D:=fun z=>noD4 (a4 D z)
                have hlen:=rA.length
                refine ⟨ws,hD4,by have:=aae q5; omega,_,O4 e4 vs,acc++[d'],ws++[w'],f5,akR (g1.trans hh a1) hD,s1.trans a2,ajG a3 mD4 noD5,upd_same,?_,mD4,noD5,idem _⟩
                exact (Reps.mono ((g4.exM.trans g5.exM).trans g8.exM) _ _ rA).append (Reps.cons rd Reps.nil)
theorem aaW {wi:TI} {di:Ev→RE Its} {g:TG} {dg:D→Ev→Option Ev} (hi:DI K W wi di) (hg:DGv K g dg vs) (ht:DT K WF tt dt) (he:DE K WF te de):DE K W (tLc wi g tt te vs) (dLc di dg dt de vs):=fun M σ H env hh=>by
  refine Sat.bind (c:=fun (J:It) H1 Q=>∀ D,H1 D=none→∃ W:Nat→Nat→Hp→Prop,(∃ m,W 0 m (upd H1 D (.lst [])))∧∀ i m H,W i m H→
      (J.stop i H∧Q (.ref D) H)∨(J.go i H∧∃ Nx:Hp→Prop,(∀ H',Nx H'→∃ m',m' < m∧W (i+1) m' H')∧∀ x H',J.yld i H x H'→g x (wipe σ vs) H' fun σ2 H2=>wipe σ2 vs=wipe σ vs∧tt σ2 H2 fun b H3=>
        if b=true then te σ2 H3 fun y H4=>∃ acc,H4 D=some (.lst acc)∧acc.length < sizeLine∧Nx (upd H4 D (.lst (acc++[y]))) else Nx H3)) V2 hh (hi M σ H env hh) (fun Q q=>q) fun M1 H1 env1 xh J g1 s1 hh1 r=>?_
  obtain ⟨xs,h⟩:=xh
  obtain ⟨as,hn,io,hs⟩:=r
  by_cases hf:vs.all (freeSl (hideE h env1))=true
  · rw [if_pos hf]
    cases q:lcGo dg dt de vs xs (O4 (hideE h env1) vs) [] with
    | bad=>trivial
    | exc _ _=>trivial
    | ok ds e=>
      refine fun Q k=>?_
      have hhh:Holds K M1 (hideE h env1) σ H1:=by
        cases h with
        | none=>exact hh1
        | some j=>exact ain hh1
      have hin:Holds K M1 (O4 (hideE h env1) vs) (wipe σ vs) H1:=aip hhh (fun _ _=>rfl) rfl
      refine aro hg ht he hin io (fun a ha=>⟨fun z=>(hn a ha).1 (ah2 (fun _ _=>rfl) z),(hn a ha).2⟩) q Q (fun D M' H' hD g2 s2 hh2 at2 m2 no2=>?_) ?_
      · obtain ⟨a1,a2,a3,a4⟩:=apF hhh hf g2 s2 hh2
        have noD:¬ Own (restE (hideE h env1) e vs) σ D:=fun z=>no2 (a4 D z)
        have rx:RX K σ H1 M' H' (restE (hideE h env1) e vs) (.ow (.lst ds)) (.ref D):=⟨⟨D,rfl,at2,m2,noD⟩,fun o _ l z=>by cases z; exact hD⟩
        cases h with
        | none=>exact k _ M' H' a1 a2 a3 rx
        | some j=>
          obtain ⟨p,o,ej⟩:=hs j rfl
          have eg:env1.getD j .no=.ow p o:=by rw [List.getD_eq_getElem?_getD,ej]; rfl
          obtain ⟨b1,b2,b3⟩:=aeG hh1 ej a1 a3
          show Q _ _
          have hj:j < env1.length:=(List.getElem?_eq_some_iff.mp ej).1
          have shp:Shape env1 ((restE (env1.set j .hid) e vs).set j (.ow p o)):=by
            show List.map Sl.kind ((restE (env1.set j .hid) e vs).set j (.ow p o))=env1.map Sl.kind
            apply List.ext_getElem?
            intro i
            rw [List.getElem?_map,List.getElem?_map]
            by_cases hij:i=j
            · subst hij
              rw [List.getElem?_set_self (by have hq:=a1.len; simp only [hideE,List.length_set] at hq ⊢; omega),ej]
              try rfl
            · rw [List.getElem?_set_ne (Ne.symm hij)]
              have:=congrArg (fun l=>l[i]?) (show (restE (env1.set j .hid) e vs).map Sl.kind=(env1.set j .hid).map Sl.kind from a2)
              simp only [List.getElem?_map] at this
              rw [this,List.getElem?_set_ne (Ne.symm hij)]
          refine k _ M' H' (by show Grow M1 env1 σ H1 M' ((restE (env1.set j .hid) e vs).set j (env1.getD j .no)) σ H'; rw [eg]; exact b1) (by show Shape env1 ((restE (env1.set j .hid) e vs).set j (env1.getD j .no)); rw [eg]; exact shp) (by show Holds K M' ((restE (env1.set j .hid) e vs).set j (env1.getD j .no)) σ H'; rw [eg]; exact b2) (by show RX K σ H1 M' H' ((restE (env1.set j .hid) e vs).set j (env1.getD j .no)) _ _; rw [eg]; exact b3 _ _ (fun i z=>nomatch z) rx)
      · apply List.ext_getElem?
        intro i
        rw [aaf,abZ,aaf]
        by_cases hi:i∈vs
        · rw [if_pos hi,if_pos hi]
        · rw [if_neg hi,if_neg hi]
  · rw [if_neg hf]
    trivial
theorem aaX:DT K W tYes (fun env=>.ok true env):=fun M σ H env hh Q k=>k true M H .refl (.refl _) hh rfl
end
end Dn
namespace Dn
open PySem PySem.Spec PyProof.Rows L2
theorem adf {j:Int} (h:rgOk j=true):j < 2 ^ 62∧-(2 ^ 62)≤j:=by
  have h1:j.natAbs.log2 < 62:=of_decide_eq_true h
  by_cases z:j.natAbs=0
  · omega
  · have h2:=(Nat.log2_lt z).mp h1
    omega
def rgD (lo:Int) (n:Nat):List D:=(List.range n).map fun i:Nat=>D.int (lo+(i:Int))
def diR1 (da:Ev→RE (List X)):Ev→RE Dn.Its:=fun env=>(da env).bind fun xs e1=>match rds e1 xs with
  | some [.int j]=>if rgOk j=true then .ok (rgD 0 j.toNat,none) e1 else .bad
  | _=>.bad
def iSeq (K:Fg) (te:TE):TI:=fun σ H R=>te σ H fun x H1=>(∃ a xs,x=V.ref a∧SqL K H1 a xs∧R (Itl K a) H1)∨(∃ a xs,x=V.ref a∧SqT K H1 a xs∧R (Itt K a) H1)∨∃ z,x=V.str z∧R (L2.Its z) H1
theorem Z4 {X:Cx} {tg e:Expr} {te:TE} (he:PE X e te):PI X tg e (iSeq X.K te):=by
  refine ⟨fun pins s σ H R I h=>?_⟩
  refine thn (he.run pins s σ H _ I h) fun v s1 ⟨y,H1,I1,r1,q1⟩=>?_
  rcases q1 with ⟨a,xs,rfl,hq,q⟩ | ⟨a,xs,rfl,hq,q⟩ | ⟨x,rfl,q⟩
  · cases r1
    obtain ⟨its,rv,p,hz⟩:=I1.list hq
    refine wpAny_pyIter_list p.isList ?_
    refine ⟨s1.heap.objs.size,[s1.heap.objs.size],_,_,H1,rfl,I1.kept (t':=s1.toks) fun b o e=>Heap.get?_push_of_some _ e,turn_list a _,⟨_,Heap.get?_push_size _ rfl,rfl,rfl⟩,fun b hb=>?_,q⟩
    have e:b=s1.heap.objs.size:=by simpa using hb
    subst e
    exact I1.fpOk (Nat.le_refl _) (I1.hok.fresh (Nat.le_refl _))
  · cases r1
    obtain ⟨its,rv,p,hz⟩:=I1.tuple hq
    refine wpAny_pyIter_tuple (show s1.heap.IsTuple a its.toArray from p) ?_
    refine ⟨s1.heap.objs.size,[s1.heap.objs.size],_,_,H1,rfl,I1.kept (t':=s1.toks) fun b o e=>Heap.get?_push_of_some _ e,turn_tuple a _,⟨_,Heap.get?_push_size _ rfl,rfl,rfl⟩,fun b hb=>?_,q⟩
    have e:b=s1.heap.objs.size:=by simpa using hb
    subst e
    exact I1.fpOk (Nat.le_refl _) (I1.hok.fresh (Nat.le_refl _))
  · obtain ⟨t,rfl⟩:=r1
    cases ha:x.cps.all (· < 128)
    · exact wpAny_pyIter_wide ha (pi_one (tk:=s1.toks) I1 _ (turn_str _ x t "str_iterator" (.inr rfl)) ⟨_,Heap.get?_push_size _ rfl,rfl,rfl⟩ q)
    · exact wpAny_pyIter_ascii ha (pi_one (tk:=s1.toks) I1 _ (turn_str _ x t "str_ascii_iterator" (.inl rfl)) ⟨_,Heap.get?_push_size _ rfl,rfl,rfl⟩ q)
section
variable {K:Fg} [WD K] {W:WS} {M M' M1 M2:Hp} {env env' env1 env2:Ev} {σ σ' σ1:L2.St} {H H' H1 H2:Hp} {x y:X} {v u:V} {te:TE} {de:Ev→RE X} {ta:TA} {da:Ev→RE (List X)}
theorem ag8 {a:Addr} {vs:List V} {xs:List D} {as:List Addr} (r:Reps K M xs vs) (src:∀ M2 H2,Same M M2→Same M2 H2→(∀ b∈as,∀ o,H b=some o→H2 b=some o)→SqL K H2 a vs):ItOk K (Itl K a) as M H xs where
  go:=fun M2 H2 i d q e1 e2 f=>by
    obtain ⟨v,h1,h2⟩:=r.get q
    have s:=src M2 H2 e1 e2 f
    refine ⟨⟨vs,v,s,h1⟩,fun w H3 hy=>?_⟩
    obtain ⟨rfl,hy⟩:=hy
    have e:w=v:=Option.some.inj ((hy vs s).symm.trans h1)
    subst e
    exact ⟨M2,Ext.refl e2,Rep.mono e1 _ _ h2⟩
  stop:=fun M2 H2 e1 e2 f=>⟨vs,src M2 H2 e1 e2 f,by rw [r.length]; exact Nat.le_refl _⟩
theorem amG {a:Addr} {vs:List V} {xs:List D} (r:Reps K M xs vs) (h:SqT K M a vs):ItOk K (Itt K a) [] M H xs where
  go:=fun M2 H2 i d q e1 e2 f=>by
    obtain ⟨v,h1,h2⟩:=r.get q
    have s:SqT K H2 a vs:=aa2 (e1.trans e2) h
    refine ⟨⟨vs,v,s,h1⟩,fun w H3 hy=>?_⟩
    obtain ⟨rfl,hy⟩:=hy
    have e:w=v:=Option.some.inj ((hy vs s).symm.trans h1)
    subst e
    exact ⟨M2,Ext.refl e2,Rep.mono e1 _ _ h2⟩
  stop:=fun M2 H2 e1 e2 f=>⟨vs,aa2 (e1.trans e2) h,by rw [r.length]; exact Nat.le_refl _⟩
theorem aqA {z:Str}:ItOk K (L2.Its z) [] M H (z.cps.toList.map fun c=>D.str ⟨#[c]⟩) where
  go:=fun M2 H2 i d q e1 e2 f=>by
    rw [List.getElem?_map] at q
    obtain ⟨c,h1,rfl⟩:=Option.map_eq_some_iff.mp q
    have h2:z.cps[i]?=some c:=by simpa using h1
    refine ⟨(Array.getElem?_eq_some_iff.mp h2).1,fun w H3 hy=>?_⟩
    obtain ⟨rfl,c',h3,rfl⟩:=hy
    rw [h2] at h3
    cases h3
    exact ⟨M2,Ext.refl e2,aaA⟩
  stop:=fun M2 H2 e1 e2 f=>by show z.cps.size≤_; simp
theorem arp {lo:Int} {n:Nat}:ItOk K (Itr lo n) [] M H (rgD lo n) where
  go:=fun M2 H2 i d q e1 e2 f=>by
    unfold rgD at q
    rw [List.getElem?_map] at q
    obtain ⟨c,h1,rfl⟩:=Option.map_eq_some_iff.mp q
    have hi:i < n:=by
      have:=(List.getElem?_eq_some_iff.mp h1).1
      simpa using this
    have hc:c=i:=by
      rw [List.getElem?_range hi] at h1
      exact (Option.some.inj h1).symm
    subst hc
    refine ⟨hi,fun w H3 hy=>?_⟩
    obtain ⟨rfl,rfl⟩:=hy
    exact ⟨M2,Ext.refl e2,Y6⟩
  stop:=fun M2 H2 e1 e2 f=>by show n≤_; unfold rgD; simp
theorem ajH:∀ ns:List Int,Reps K M (ns.map D.int) (ns.map V.int)
  | []=>Reps.nil
  | n :: ns=>Reps.cons Y6 (ajH ns)
theorem aqB {j:Nat} {p:Bool} {o:OD} (e:env[j]?=some (Sl.ow p o)):ofX env (.sl j)=match o with
      | .lst xs=>some (xs,some j)
      | _=>none:=by
  unfold ofX
  simp only [e]
  cases o <;> rfl
theorem Z5 (h:DE K W te de):DI K W (iSeq K te) (diSeq de):=fun M σ H env hh=>by
  refine Sat.bind (c:=fun v H1 (R:It→Hp→Prop)=>(∃ a xs,v=V.ref a∧SqL K H1 a xs∧R (Itl K a) H1)∨(∃ a xs,v=V.ref a∧SqT K H1 a xs∧R (Itt K a) H1)∨∃ z,v=V.str z∧R (L2.Its z) H1) back_i hh (h M σ H env hh) (fun Q q=>q) fun M1 H1 env1 x v g1 s1 hh1 r1=>?_
  obtain ⟨r,n⟩:=r1
  cases x with
  | im d=>
    cases d with
    | lst xs=>
      refine fun Q k=>?_
      simp only [RepX,Rep] at r
      obtain ⟨a,vs,rfl,h1,h2⟩:=r
      exact .inl ⟨a,vs,rfl,SqL.of (hh1.ex _ _ h1),k _ M1 H1 .refl (.refl _) hh1 ⟨[],(fun a z=>nomatch z),ag8 h2 fun M2 H2 e1 e2 f=>SqL.of (e2 _ _ (e1 _ _ h1)),(fun j z=>nomatch z)⟩⟩
    | tup xs=>
      refine fun Q k=>?_
      simp only [RepX,Rep] at r
      obtain ⟨a,vs,rfl,h1,h2⟩:=r
      exact .inr (.inl ⟨a,vs,rfl,aa2 hh1.ex h1.t,k _ M1 H1 .refl (.refl _) hh1 ⟨[],(fun a z=>nomatch z),amG h2 h1.t,(fun j z=>nomatch z)⟩⟩)
    | tupW xs=>
      refine fun Q k=>?_
      simp only [RepX,Rep] at r
      obtain ⟨a,vs,rfl,h1,h2⟩:=r
      exact .inr (.inl ⟨a,vs,rfl,aa2 hh1.ex h1,k _ M1 H1 .refl (.refl _) hh1 ⟨[],(fun a z=>nomatch z),amG h2 h1,(fun j z=>nomatch z)⟩⟩)
    | scr ns=>
      refine fun Q k=>?_
      simp only [RepX,Rep] at r
      obtain ⟨a,rfl,h1⟩:=r
      have rr:Reps K M1 (ns.map D.int) (ns.map V.int):=by
        exact ajH ns
      exact .inl ⟨a,_,rfl,hh1.ex.seq h1,k _ M1 H1 .refl (.refl _) hh1 ⟨[],(fun a z=>nomatch z),ag8 rr fun M2 H2 e1 e2 f=>(e1.trans e2).seq h1,(fun j z=>nomatch z)⟩⟩
    | str z=>
      refine fun Q k=>?_
      have hv:v=.str z:=by simpa [RepX,Rep] using r
      exact .inr (.inr ⟨z,hv,k _ M1 H1 .refl (.refl _) hh1 ⟨[],(fun a z=>nomatch z),aqA,(fun j z=>nomatch z)⟩⟩)
    | non=>trivial
    | bl _=>trivial
    | int _=>trivial
    | obj _ _=>trivial
    | ty _=>trivial
    | cls _=>trivial
    | exn _ _=>trivial
    | dk _=>trivial
    | dt _=>trivial
  | ow o=>
    cases o with
    | lst xs=>
      refine fun Q k=>?_
      obtain ⟨a,rfl,⟨vs,h1,h2⟩,m,no⟩:=r
      exact .inl ⟨a,vs,rfl,SqL.of h1,k _ M1 H1 .refl (.refl _) hh1 ⟨[a],fun b hb=>by
        have:b=a:=by simpa using hb
        subst this
        exact ⟨no,_,h1⟩,ag8 h2 fun M2 H2 e1 e2 f=>SqL.of (f a (by simp) _ h1),(fun j z=>nomatch z)⟩⟩
    | ob _ _=>trivial
    | dk _=>trivial
    | dt _=>trivial
  | sl j=>
    obtain ⟨⟨p,o,e1⟩,e2⟩:=r
    show Sat K W M1 σ H1 env1 (opt (ofX env1 (.sl j)) env1) (RI K σ) _
    rw [aqB e1]
    cases o with
    | lst xs=>
      refine fun Q k=>?_
      obtain ⟨a,e4,⟨vs,h1,h2⟩,m⟩:=hh1.slot j _ e1
      rw [e2] at e4
      cases e4
      exact .inl ⟨a,vs,rfl,SqL.of h1,k _ M1 H1 .refl (.refl _) hh1 ⟨[a],fun b hb=>by
        have:b=a:=by simpa using hb
        subst this
        refine ⟨fun z=>?_,_,h1⟩
        obtain ⟨i,p2,o2,hi,q1,q2⟩:=aek z
        exact hh1.dj i j _ p2 o2 p _ hi q1 e1 q2 e2,ag8 h2 fun M2 H2 e1 e2 f=>SqL.of (f a (by simp) _ h1),fun i z=>by cases z; exact ⟨p,_,e1⟩⟩⟩
    | ob _ _=>trivial
    | dk _=>trivial
    | dt _=>trivial
theorem rds1 {xs:List X} {vs:List V} {i:Int} (hh:Holds K M env σ H) (r:RepXs K M H env σ xs vs) (e:rds env xs=some [.int i]):vs=[.int i]:=by
  have:=agt hh r e
  cases this with
  | cons a b=>
    cases b
    rw [a.int]
theorem aeJ (h:DA K W ta da):DI K W (iRng1 ta) (diR1 da):=fun M σ H env hh=>by
  refine Sat.bind (c:=fun vs H1 (R:It→Hp→Prop)=>∃ j:Int,vs=[V.int j]∧-(2 ^ 62)≤j∧j < 2 ^ 62∧R (Itr 0 j.toNat) H1) back_i hh (h M σ H env hh) (fun Q q=>q) fun M1 H1 env1 x v g1 s1 hh1 r1=>?_
  split
  · rename_i j e
    split
    · rename_i hb
      exact fun Q k=>⟨j,rds1 hh1 (ani r1) e,(adf hb).2,(adf hb).1,k _ M1 H1 .refl (.refl _) hh1 ⟨[],(fun a z=>nomatch z),arp,(fun j z=>nomatch z)⟩⟩
    · trivial
  · trivial
abbrev rLenU (K:Fg):List V→Hp→VK→Prop:=fun xs H Q=>(∃ p ys,xs=[.ref p]∧(SqL K H p ys∨SqT K H p ys)∧Q (.int ys.length) H)∨∃ z,xs=[.str z]∧z.length≤sizeLine∧Q (.int z.length) H
theorem R5 {X:Cx}:CallR X (.builtin "len") (rLenU X.K):=call_len_seq.or call_len_str
theorem aaI {d:D} {vs:List V} (r:Paired (Rd2 K M H) [d] vs):∃ v,vs=[v]∧Rd2 K M H d v:=by
  cases r with
  | cons a b=>cases b; exact ⟨_,rfl,a⟩
theorem V6:CallOk K (rLenU K) pLen:=by
  intro M H ds x vs e r hf Q q
  unfold pLen at hf
  split at hf
  · cases hf
    obtain ⟨v,rfl,h⟩:=aaI r
    obtain ⟨a,us,rfl,h1,h2⟩:=h.lst e
    rw [h2.length] at q
    exact .inl ⟨a,us,rfl,.inl (SqL.of h1),q.im0 e Y6⟩
  · cases hf
    obtain ⟨v,rfl,h⟩:=aaI r
    obtain ⟨a,us,rfl,h1,h2⟩:=h.tup e
    rw [h2.length] at q
    exact .inl ⟨a,us,rfl,.inr h1,q.im0 e Y6⟩
  · cases hf
    obtain ⟨v,rfl,h⟩:=aaI r
    obtain ⟨a,rfl,h1⟩:=h.scr e
    refine .inl ⟨a,_,rfl,.inl h1,?_⟩
    rw [List.length_map]
    exact q.im0 e Y6
  · split at hf
    · rename_i hz
      cases hf
      obtain ⟨v,rfl,h⟩:=aaI r
      rw [h.str]
      exact .inr ⟨_,rfl,aae hz,q.im0 e Y6⟩
    · cases hf
  · cases hf
def pInt:List D→Option X
  | [.int i]=>some (.im (.int i))
  | [.bl b]=>some (.im (.int (if b then 1 else 0)))
  | _=>none
theorem agB:CallOk K (fun xs H Q=>(∃ i,xs=[.int i]∧Q (.int i) H)∨∃ k,xs=[.bl k]∧Q (.int (if k then 1 else 0)) H) pInt:=by
  intro M H ds x vs e r hf Q q
  unfold pInt at hf
  split at hf
  · cases hf
    obtain ⟨v,rfl,h⟩:=aaI r
    rw [h.int]
    exact .inl ⟨_,rfl,q.im0 e Y6⟩
  · cases hf
    obtain ⟨v,rfl,h⟩:=aaI r
    rw [h.bl]
    exact .inr ⟨_,rfl,q.im0 e Y6⟩
  · cases hf
abbrev rTupleU (K:Fg):List V→Hp→VK→Prop:=fun xs H Q=>∃ p ys,xs=[.ref p]∧((SqL K H p ys∧∀ l (o:Obj),H l=none→o.dict=none→Q (.ref l) (upd H l (.frz o (.tup ys))))∨(SqT K H p ys∧Q (.ref p) H))
theorem aax {X:Cx}:CallR X (.type "tuple") (rTupleU X.K):=by
  intro pins s σ H xs us Q I r h
  obtain ⟨p,ys,rfl,h⟩:=h
  obtain ⟨u,rfl,rx⟩:=vals1 r
  cases rx
  rcases h with ⟨hq,q⟩ | ⟨hq,q⟩
  · obtain ⟨its,r',pl,hz⟩:=I.list hq
    have hlen:=r'.length
    refine call_tuple_list pl.isList (fun h' kp=>?_) (by simp only [List.size_toArray] <;> omega)
    have I1:Inv X pins σ H { s with heap:=h' }:=I.kept (t':=s.toks) kp
    exact ⟨.ref h'.objs.size,_,I1.newTup r' hz,rfl,q _ _ (I1.hok.fresh (Nat.le_refl _)) rfl⟩
  · obtain ⟨its,_,p1,_⟩:=I.tuple hq
    exact call_tuple_same (items:=its.toArray) p1 ⟨.ref p,H,I,rfl,q⟩
theorem ab0:CallOk K (rTupleU K) pTuple:=by
  intro M H ds x vs e r hf Q q
  unfold pTuple at hf
  split at hf
  · cases hf
    obtain ⟨v,rfl,h⟩:=aaI r
    obtain ⟨a,us,rfl,h1,h2⟩:=h.lst e
    exact ⟨a,us,rfl,.inl ⟨SqL.of h1,fun l o n hd=>q.tup e h2 n hd⟩⟩
  · cases hf
    obtain ⟨v,rfl,h⟩:=aaI r
    have hr:=h.tupR
    obtain ⟨a,us,rfl,h1,h2⟩:=h.tup e
    exact ⟨a,us,rfl,.inr ⟨h1,q.im0 e hr⟩⟩
  · cases hf
def pList:List D→Option X
  | [.lst xs]=>some (.ow (.lst xs))
  | [.tup xs]=>some (.ow (.lst xs))
  | [.str z]=>if fit z.length then some (.ow (.lst (z.cps.toList.map fun c=>D.str ⟨#[c]⟩))) else none
  | _=>none
abbrev rListU (K:Fg):List V→Hp→VK→Prop:=fun xs H Q=>(∃ p ys,xs=[.ref p]∧(SqL K H p ys∨SqT K H p ys)∧∀ l,H l=none→Q (.ref l) (upd H l (.lst ys)))∨
  ∃ z,xs=[.str z]∧z.length≤sizeLine∧∀ l,H l=none→Q (.ref l) (upd H l (.lst (z.cps.toList.map fun c=>V.str ⟨#[c]⟩)))
theorem ano {z:Str} {acc:Array Value} (h:ItemsOf (SignAt z) acc z.cps.size):Vals (z.cps.toList.map fun c=>V.str ⟨#[c]⟩) acc.toList:=by
  obtain ⟨h1,h2⟩:=h
  have key:∀ (cs:List Nat) (us:List Value),cs.length=us.length→(∀ (i:Nat) (c:Nat) (u:Value),cs[i]?=some c→us[i]?=some u→RelV (V.str ⟨#[c]⟩) u)→Vals (cs.map fun c=>V.str ⟨#[c]⟩) us:=by
    intro cs
    induction cs with
    | nil=>
      intro us hl _
      cases us with
      | nil=>exact .nil
      | cons u us=>simp at hl
    | cons c cs ih=>
      intro us hl hv
      cases us with
      | nil=>simp at hl
      | cons u us=>exact .cons (hv 0 c u rfl rfl) (ih us (by simpa using hl) fun i c u a b=>hv (i+1) c u (by simpa using a) (by simpa using b))
  refine key _ _ (by simpa using h1.symm) fun i c u a b=>?_
  have hi:i < z.cps.size:=by
    have:=(List.getElem?_eq_some_iff.mp a).1
    simpa using this
  obtain ⟨c',t,e1,e2⟩:=h2 i u (by simpa using b)
  have a':z.cps[i]?=some c:=by simpa using a
  rw [a'] at e1
  cases e1
  exact ⟨t,e2⟩
theorem anp {X:Cx} (hc:X.calm=true):CallR X (.type "list") (fun xs H Q=>∃ z,xs=[.str z]∧z.length≤sizeLine∧∀ l,H l=none→Q (.ref l) (upd H l (.lst (z.cps.toList.map fun c=>V.str ⟨#[c]⟩)))):=by
  intro pins s σ H xs us Q I r h
  obtain ⟨z,rfl,hz,q⟩:=h
  obtain ⟨u,rfl,t,rfl⟩:=vals1 r
  refine call_list_str (I.ok.hd hc) z t (fun h' tk acc c k e it=>?_) hz
  have new:ObjOk X.prog X.w (upd H s.heap.objs.size (.lst (z.cps.toList.map fun c=>V.str ⟨#[c]⟩))) h' s.heap.objs.size (.lst (z.cps.toList.map fun c=>V.str ⟨#[c]⟩)):=
    ⟨by rw [List.length_map,Array.length_toList]; exact hz,acc.toList,c,ano it,by simpa using e⟩
  exact ⟨.ref _,_,I.laid (t':=tk) k (Nat.le_refl _) new,rfl,q _ I.fresh⟩
theorem aiq {X:Cx} (hc:X.calm=true):CallR X (.type "list") (rListU X.K):=call_list_of.or (anp hc)
theorem anq {cs:List Nat}:Reps K M (cs.map fun c=>D.str ⟨#[c]⟩) (cs.map fun c=>V.str ⟨#[c]⟩):=by
  induction cs with
  | nil=>exact Reps.nil
  | cons c cs ih=>exact Reps.cons aaA ih
theorem amH:CallOk K (rListU K) pList:=by
  intro M H ds x vs e r hf Q q
  unfold pList at hf
  split at hf
  · cases hf
    obtain ⟨v,rfl,h⟩:=aaI r
    obtain ⟨a,us,rfl,h1,h2⟩:=h.lst e
    exact .inl ⟨a,us,rfl,.inl (SqL.of h1),fun l n=>q.lst e h2 n⟩
  · cases hf
    obtain ⟨v,rfl,h⟩:=aaI r
    obtain ⟨a,us,rfl,h1,h2⟩:=h.tup e
    exact .inl ⟨a,us,rfl,.inr h1,fun l n=>q.lst e h2 n⟩
  · split at hf
    · rename_i hz
      cases hf
      obtain ⟨v,rfl,h⟩:=aaI r
      rw [h.str]
      exact .inr ⟨_,rfl,aae hz,fun l n=>q.lst e anq n⟩
    · cases hf
  · cases hf
def D.tyN:D→Option String
  | .non=>some "NoneType"
  | .bl _=>some "bool"
  | .int _=>some "int"
  | .str _=>some "str"
  | .tup _=>some "tuple"
  | .lst _=>some "list"
  | .scr _=>some "list"
  | _=>none
def pIsi:List D→Option X
  | [d,.ty n]=>(d.tyN.bind fun t=>L2.kitB t n).map fun b=>.im (.bl b)
  | _=>none
theorem arq {d:D} {t:String} {v:V} (s:Same M H) (h:Rd2 K M H d v) (e:d.tyN=some t):TyX K H v (.type t):=by
  cases d with
  | non=>cases e; rw [h.non]; exact .base .non
  | bl b=>cases e; rw [h.bl]; exact .base (.bl b)
  | int i=>cases e; rw [h.int]; exact .base (.int i)
  | str i=>cases e; rw [h.str]; exact .base (.str i)
  | tup xs=>
    cases e
    obtain ⟨a,us,rfl,h1,h2⟩:=h.tup s
    rcases h1 with (h1 | ⟨o,h1⟩) | ⟨o,its,n,h1,h2,_⟩
    · exact .base (.tup h1)
    · exact .fTuple h1
    · exact .kTuple h1 h2
  | lst xs=>
    cases e
    obtain ⟨a,us,rfl,h1,h2⟩:=h.lst s
    exact .base (.lst h1)
  | scr xs=>
    cases e
    obtain ⟨a,rfl,h1⟩:=h.scr s
    rcases h1 with (h1 | ⟨o,h1⟩) | ⟨o,its,n,h1,h2,_⟩
    · exact .base (.lst h1)
    · exact .base (.frz h1)
    · exact .kList h1 h2
  | _=>cases e
theorem abx:CallOk K (rIsi K) pIsi:=by
  intro M H ds x vs e r hf Q q
  unfold pIsi at hf
  split at hf
  · rename_i d n
    obtain ⟨b,h1,rfl⟩:=Option.map_eq_some_iff.mp hf
    obtain ⟨t,h2,h3⟩:=Option.bind_eq_some_iff.mp h1
    cases r with
    | cons a r=>
      cases r with
      | cons a2 r=>
        cases r
        rw [a2.ty]
        exact ⟨_,_,.type t,.type n,b,rfl,.ty n,arq e a h2,kit_ty h3,q.im0 e aaG⟩
  · cases hf
theorem acF {n:String}:DE K W (tC (.ty n)) (dC (.ty n)):=akH _ _ fun M=>by simp [Rep]
theorem adJ {i:Nat} {p:Bool} {o o':OD} {l:Addr} {ho:HO} (hh:Holds K M env σ H) (e:env[i]?=some (Sl.ow p o)) (es:σ[i]?=some (some (V.ref l))) (a:At K M (upd H l ho) l o'):
    Holds K M (env.set i (.ow p o')) σ (upd H l ho)∧Grow M env σ H M (env.set i (.ow p o')) σ (upd H l ho)∧Shape env (env.set i (.ow p o')):=by
  have hi:i < env.length:=(List.getElem?_eq_some_iff.mp e).1
  obtain ⟨l',e1,a1,m1⟩:=hh.slot i _ e
  rw [es] at e1
  cases e1
  obtain ⟨u0,hu0⟩:=a1.there
  have shp:Shape env (env.set i (.ow p o')):=by
    show List.map Sl.kind (env.set i (.ow p o'))=env.map Sl.kind
    apply List.ext_getElem?
    intro j
    rw [List.getElem?_map,List.getElem?_map]
    by_cases hj:j=i
    · subst hj
      rw [List.getElem?_set_self hi,e]
      rfl
    · rw [List.getElem?_set_ne (Ne.symm hj)]
  have ow:∀ l2,Own (env.set i (.ow p o')) σ l2→Own env σ l2:=fun l2 z=>abX shp z
  refine ⟨⟨fun b u q=>?_,by rw [List.length_set]; exact hh.len,fun j s q=>?_,fun j k l2 p1 o1 p2 o2 hjk q1 q2 q3 q4=>?_⟩,⟨Same.refl M,fun l2 u q n=>?_,fun _ _ z=>.inl z,fun l2 z=>.inl (ow l2 z),fun j s q pn=>⟨rfl,?_⟩,fun l2 z=>?_,by rw [List.length_set]⟩,shp⟩
  · have:b≠l:=fun z=>by subst z; rw [m1] at q; cases q
    rw [upd_ne this]
    exact hh.ex b u q
  · by_cases hj:j=i
    · subst hj
      rw [List.getElem?_set_self hi] at q
      cases q
      exact ⟨l,es,a,m1⟩
    · rw [List.getElem?_set_ne (Ne.symm hj)] at q
      have:=hh.slot j s q
      cases s with
      | no=>trivial
      | hid=>trivial
      | im d=>exact this
      | ow p2 o2=>
        obtain ⟨l2,e2,a2,m2⟩:=this
        have hne:l2≠l:=fun z=>hh.dj j i l p2 o2 p o hj q e (z▸e2) es
        exact ⟨l2,e2,a2.mono (Same.refl M) fun u z=>by rw [upd_ne hne]; exact z,m2⟩
  · have f:∀ (j:Nat) (p1:Bool) (o1:OD),(env.set i (.ow p o'))[j]?=some (Sl.ow p1 o1)→∃ o3,env[j]?=some (Sl.ow p1 o3):=fun j p1 o1 q=>(show Shape (env.set i (.ow p o')) env from Eq.symm shp).ow q
    obtain ⟨o3,h1⟩:=f j p1 o1 q1
    obtain ⟨o4,h2⟩:=f k p2 o2 q2
    exact hh.dj j k l2 p1 o3 p2 o4 hjk h1 h2 q3 q4
  · have:l2≠l:=fun z=>n ⟨i,p,o,e,z▸es⟩
    rw [upd_ne this]
    exact q
  · have:=congrArg (fun l=>l[j]?) (show (env.set i (.ow p o')).map Sl.kind=env.map Sl.kind from shp)
    simp only [List.getElem?_map] at this
    rw [q] at this
    obtain ⟨s',e1,e2⟩:=Option.map_eq_some_iff.mp this
    exact ⟨s',e1,e2⟩
  · by_cases hz:l2=l
    · subst hz; rw [upd_same] at z; cases z
    · rw [upd_ne hz] at z; exact z
def slotOf (env:Ev) (i:Nat):Option (Bool×OD):=match env[i]? with
  | some (.ow p o)=>some (p,o)
  | _=>none
theorem aaY {i:Nat} {p:Bool} {o:OD} (h:slotOf env i=some (p,o)):env[i]?=some (Sl.ow p o):=by
  unfold slotOf at h
  split at h
  · cases h; assumption
  · cases h
def optE (o:Option (X×Ev)):RE X:=match o with
  | some r=>.ok r.1 r.2
  | none=>.bad
def OD.isL:OD→Bool
  | .lst _=>true
  | _=>false
def dMut (i:Nat) (isT:OD→Bool) (f:OD→List D→Option (D×OD)) (da:Ev→RE (List X)):Ev→RE X:=fun env=>if ((slotOf env i).map fun r=>isT r.2)=some true then (da env).bind fun xs e1=>optE ((frzs xs).bind fun ds=>(slotOf e1 i).bind fun po=>(f po.2 ds).bind fun r=>some (X.im r.1,e1.set i (.ow po.1 r.2))) else .bad
def MutOk (K:Fg) [WD K] (r:V→List V→Hp→VK→Prop) (f:OD→List D→Option (D×OD)):Prop:=∀ M H l o ds vs d o',Same M H→At K M H l o→M l=none→Reps K M ds vs→f o ds=some (d,o')→∀ Q:VK,(∀ z ho,At K M (upd H l ho) l o'→Rep K M d z→Q z (upd H l ho))→r (.ref l) vs H Q
def TyOk (K:Fg) [WD K] (T:String) (isT:OD→Bool):Prop:=∀ M H l o,At K M H l o→isT o=true→tyV K T (.ref l) H
theorem Z8:TyOk K "list" OD.isL:=fun M H l o a e=>by
  cases o with
  | lst xs=>obtain ⟨vs,h,_⟩:=a; exact .inl ⟨rfl,vs,SqL.of h⟩
  | _=>cases e
theorem ahH {i:Nat} {T:String} {isT:OD→Bool} {r:V→List V→Hp→VK→Prop} {f:OD→List D→Option (D×OD)} {t:L2.St→Hp→VK→Prop} (hT:TyOk K T isT) (hr:MutOk K r f) (ha:DA K W ta da)
    (ht:∀ σ H Q v,σ[i]?=some (some v)→tyV K T v H→ta σ H (fun xs H2=>r v xs H2 Q)→t σ H Q):DE K W t (dMut i isT f da):=fun M σ H env hh=>by
  have h1:=ha M σ H env hh
  unfold dMut
  by_cases hc:((slotOf env i).map fun r=>isT r.2)=some true
  · rw [if_pos hc]
    obtain ⟨⟨p0,o0⟩,q1,q2⟩:=Option.map_eq_some_iff.mp hc
    obtain ⟨l,es,a0,m0⟩:=hh.slot i _ (aaY q1)
    have ty:=hT M H l o0 a0 q2
    cases e1:da env with
    | bad=>trivial
    | exc e env1=>rw [e1] at h1; exact fun Q k=>ht σ H Q _ es ty (h1 _ k)
    | ok xs env1=>
      rw [e1] at h1
      show Sat K W M σ H env (optE ((frzs xs).bind fun ds=>(slotOf env1 i).bind fun po=>(f po.2 ds).bind fun r=>some (X.im r.1,env1.set i (.ow po.1 r.2)))) (RX K σ) _
      cases e2:((frzs xs).bind fun ds=>(slotOf env1 i).bind fun po=>(f po.2 ds).bind fun r=>some (X.im r.1,env1.set i (.ow po.1 r.2))) with
      | none=>trivial
      | some rr=>
        obtain ⟨ds,t1,e3⟩:=Option.bind_eq_some_iff.mp e2
        obtain ⟨⟨p,o⟩,t2,e4⟩:=Option.bind_eq_some_iff.mp e3
        obtain ⟨⟨d,o'⟩,t3,e5⟩:=Option.bind_eq_some_iff.mp e4
        cases e5
        refine fun Q k=>ht σ H Q _ es ty (h1 _ fun vs M1 H1 g s hh1 r1=>?_)
        have g2:=abq g
        have hh2:=aaU (H:=H) hh1
        have rs:=aej r1 t1
        obtain ⟨l',es',a',m'⟩:=hh2.slot i _ (aaY t2)
        rw [es] at es'
        cases es'
        refine hr _ H1 l o ds vs d o' hh2.ex a' m' rs t3 Q fun z ho az rz=>?_
        obtain ⟨w1,w2,w3⟩:=adJ hh2 (aaY t2) es az
        exact k z _ _ (g2.trans hh w2) (s.trans w3) w1 (abQ rz)
  · rw [if_neg hc]
    trivial
theorem ab1 {i:Nat} {T:String} {isT:OD→Bool} {r:V→List V→Hp→VK→Prop} {f:OD→List D→Option (D×OD)} (hT:TyOk K T isT) (hr:MutOk K r f) (ha:DA K W ta da):DE K W (tBM K T r (tVar i) ta) (dMut i isT f da):=
  ahH (t:=tBM K T r (tVar i) ta) hT hr ha fun σ H Q v e ty q=>⟨v,e,ty,q⟩
theorem apG {i:Nat} {T:String} {isT:OD→Bool} {r:V→List V→Hp→VK→Prop} {f:OD→List D→Option (D×OD)} (hT:TyOk K T isT) (hr:MutOk K r f):DE K W (tBM0 K T r (tVar i)) (dMut i isT f o7):=
  ahH (t:=tBM0 K T r (tVar i)) hT hr j8 fun σ H Q v e ty q=>⟨v,e,ty,q⟩
def mApp:OD→List D→Option (D×OD)
  | .lst xs,[d]=>if fit (xs.length+1) then some (.non,.lst (xs++[d])) else none
  | _,_=>none
def mPopAt:OD→List D→Option (D×OD)
  | .lst xs,[.int k]=>if 0≤k∧k < xs.length∧rgOk k=true then (xs[k.toNat]?).map fun d=>(d,.lst (xs.eraseIdx k.toNat)) else none
  | _,_=>none
def mPop:OD→List D→Option (D×OD)
  | .lst xs,[]=>(xs[xs.length - 1]?).map fun d=>(d,.lst xs.dropLast)
  | _,_=>none
theorem akS {d:D} {vs:List V} (r:Reps K M [d] vs):∃ v,vs=[v]∧Rep K M d v:=by
  simp only [Reps] at r
  obtain ⟨v,r',rfl,h,rfl⟩:=r
  exact ⟨v,rfl,h⟩
theorem apH (h:Reps K M xs vs) (f:fit (xs.length+1)=true):vs.length < sizeLine:=by
  have:=aae f
  have:=h.length
  omega
theorem acx:MutOk K rAppend mApp:=by
  intro M H l o ds vs d o' e a m r hf Q k
  unfold mApp at hf
  split at hf
  · split at hf
    · rename_i hz
      cases hf
      obtain ⟨v,rfl,h⟩:=akS r
      obtain ⟨us,h1,h2⟩:=a
      exact ⟨l,us,v,rfl,rfl,h1,apH h2 hz,k _ _ ⟨us++[v],upd_same,h2.append (Reps.cons h Reps.nil)⟩ ai0⟩
    · cases hf
  · cases hf
theorem aoK:MutOk K rPopAt mPopAt:=by
  intro M H l o ds vs d o' e a m r hf Q k
  unfold mPopAt at hf
  split at hf
  · rename_i xs i
    split at hf
    · rename_i hz
      have hz2:=adf hz.2.2
      obtain ⟨d',h0,h1⟩:=Option.map_eq_some_iff.mp hf
      cases h1
      obtain ⟨v,rfl,h⟩:=akS r
      have hv:v=.int i:=by simpa [Rep] using h
      subst hv
      obtain ⟨us,h1,h2⟩:=a
      obtain ⟨u,h3,h4⟩:=h2.get h0
      have hl:=h2.length
      have lim:sizeLine=16777216:=sizeLine_eq
      have hi:i.toNat < us.length:=(List.getElem?_eq_some_iff.mp h3).1
      have e2:seqIndex? i us.length=some i.toNat:=by
        obtain ⟨e3,_⟩:=ixN_seq (n:=us.length) (i:=i) (j:=i.toNat) (by unfold ixN; rw [if_pos hz.1,if_pos (by omega)])
        exact e3
      exact ⟨l,us,i,i.toNat,u,rfl,rfl,h1,by omega,by omega,e2,h3,k _ _ ⟨_,upd_same,h2.eraseIdx _⟩ h4⟩
    · cases hf
  · cases hf
theorem aqC:MutOk K rPop mPop:=by
  intro M H l o ds vs d o' e a m r hf Q k
  unfold mPop at hf
  split at hf
  · obtain ⟨d',h0,h1⟩:=Option.map_eq_some_iff.mp hf
    cases h1
    simp only [Reps] at r
    subst r
    obtain ⟨us,h1,h2⟩:=a
    rw [h2.length] at h0
    obtain ⟨u,h3,h4⟩:=h2.get h0
    refine ⟨l,us,u,rfl,rfl,h1,h3,k _ _ ⟨_,upd_same,?_⟩ h4⟩
    rw [List.dropLast_eq_take,List.dropLast_eq_take,h2.length]
    exact h2.take _
  · cases hf
theorem Sat.stmB {α β:Type} {r:RE α} {R:Hp→Hp→Hp→Ev→α→β→Prop} {f:α→Ev→RS} {t:(β→Hp→Prop)→Prop} {t':Ends→Prop} {c:β→Hp→Ends→Prop} (hh:Holds K M env σ H) (g1:Grow M env σ H M1 env1 σ H1) (h:Sat K W M1 σ H1 env1 r R t)
    (ht:∀ D,t (fun v H1=>c v H1 D)→t' D) (hf:∀ M2 H2 env2 x v,Grow M1 env1 σ H1 M2 env2 σ H2→Shape env1 env2→Holds K M2 env2 σ H2→R H1 M2 H2 env2 x v→SatS K W M σ H env (f x env2) (c v H2)):SatS K W M σ H env (r.stm f) t':=by
  cases r with
  | bad=>trivial
  | exc e env1=>exact fun D k=>ht D (h _ fun cls d M' H' g s hh' r=>k cls d σ M' H' (g1.trans hh g) hh' r)
  | ok x env1=>
    show SatS K W M σ H env (f x env1) t'
    cases e2:f x env1 with
    | bad=>trivial
    | nx env'=>exact fun D k=>ht D (h _ fun v M' H' g s hh' r=>(by have:=hf M' H' env1 x v g s hh' r; rw [e2] at this; exact this D k))
    | bk env'=>exact fun D k=>ht D (h _ fun v M' H' g s hh' r=>(by have:=hf M' H' env1 x v g s hh' r; rw [e2] at this; exact this D k))
    | ct env'=>exact fun D k=>ht D (h _ fun v M' H' g s hh' r=>(by have:=hf M' H' env1 x v g s hh' r; rw [e2] at this; exact this D k))
    | rt y env'=>exact fun D k=>ht D (h _ fun v M' H' g s hh' r=>(by have:=hf M' H' env1 x v g s hh' r; rw [e2] at this; exact this D k))
    | exc e env'=>exact fun D k=>ht D (h _ fun v M' H' g s hh' r=>(by have:=hf M' H' env1 x v g s hh' r; rw [e2] at this; exact this D k))
def setI (ds:List D) (po:Bool×OD):Option OD:=match ds,po.2 with
  | [d,.int k],.lst xs=>(ixN xs.length k).map fun j=>.lst (xs.set j d)
  | _,_=>none
def dSetI (i:Nat) (de dk:Ev→RE X):Ev→RS:=fun env=>if (slotOf env i).isSome=true then (de env).stm fun y e1=>(dk e1).stm fun k e2=>optS ((frzs [y,k]).bind fun ds=>(slotOf e2 i).bind fun po=>(setI ds po).map fun o=>e2.set i (.ow po.1 o)) else .bad
theorem ai3 {i:Nat} {tk:TE} {dk:Ev→RE X} (h:DE K W te de) (hk:DE K W tk dk):DS K W (tAsg te (gSub (tVar i) tk rSetL)) (dSetI i de dk):=fun M σ H env hh=>by
  unfold dSetI
  by_cases hc:(slotOf env i).isSome=true
  · rw [if_pos hc]
    obtain ⟨⟨p0,o0⟩,q1⟩:=Option.isSome_iff_exists.mp hc
    obtain ⟨l,es,a0,m0⟩:=hh.slot i _ (aaY q1)
    refine Sat.stm (c:=fun x H1 D=>∃ v,σ[i]?=some (some v)∧tk σ H1 fun k H2=>rSetL v k x H2 fun H3=>D.nx σ H3) hh (h M σ H env hh) (fun D q=>q) fun M1 H1 env1 y x g1 s1 hh1 r1=>?_
    refine Sat.stmB (c:=fun k H2 D=>rSetL (.ref l) k x H2 fun H3=>D.nx σ H3) hh g1 (hk M1 σ H1 env1 hh1) (fun D q=>⟨_,es,q⟩) fun M2 H2 env2 yk kv g2 s2 hh2 r2=>?_
    cases e2:((frzs [y,yk]).bind fun ds=>(slotOf env2 i).bind fun po=>(setI ds po).map fun o=>env2.set i (.ow po.1 o)) with
    | none=>trivial
    | some env'=>
      obtain ⟨ds,t1,e3⟩:=Option.bind_eq_some_iff.mp e2
      obtain ⟨⟨p,o⟩,t2,e4⟩:=Option.bind_eq_some_iff.mp e3
      obtain ⟨o',t3,rfl⟩:=Option.map_eq_some_iff.mp e4
      refine fun D k=>?_
      have g:=g1.trans hh g2
      have gz:=abq g
      have hz:=aaU (H:=H) hh2
      have ra:RA K σ H M2 H2 env2 [y,yk] [x,kv]:=Paired.cons ⟨RepX.grow hh1 r1.1 g2 s2,r1.2⟩ (Paired.cons (V2 _ _ _ _ _ _ _ g1.dom r2) Paired.nil)
      have rs:=aej ra t1
      obtain ⟨l',es',a',m'⟩:=hz.slot i _ (aaY t2)
      rw [es] at es'
      cases es'
      unfold setI at t3
      split at t3
      · rename_i d j xs0 eo
        obtain ⟨jj,t4,rfl⟩:=Option.map_eq_some_iff.mp t3
        have eo':o=.lst xs0:=eo
        subst eo'
        simp only [Reps] at rs
        obtain ⟨x',r1',e9,hx,kk,r2',e8,hk2,e7⟩:=rs
        subst e7
        cases e8
        cases e9
        have ek:kv=.int j:=by simpa [Rep] using hk2
        subst ek
        obtain ⟨us,h1,h2⟩:=a'
        have az:At K (frzM M2 H H2 env2 σ) (upd H2 l (.lst (us.set jj x))) l (.lst (xs0.set jj d)):=⟨_,upd_same,h2.set hx jj⟩
        obtain ⟨w1,w2,w3⟩:=adJ hz (aaY t2) es az
        exact ⟨l,us,j,jj,rfl,rfl,h1,by rw [← h2.length]; exact t4,k σ _ _ (gz.trans hh w2) w1⟩
      · cases t3
  · rw [if_neg hc]
    trivial
def textsD:List D→Option (List Str)
  | []=>some []
  | .str z :: xs=>(textsD xs).map fun r=>z :: r
  | _=>none
def pJoin:D→D→Option X
  | .str a,.lst xs=>(textsD xs).bind fun ys=>if fit ((ys.map (·.length)).sum+ys.length * a.length)=true then some (.im (.str (Txt.join a ys))) else none
  | .str a,.tup xs=>(textsD xs).bind fun ys=>if fit ((ys.map (·.length)).sum+ys.length * a.length)=true then some (.im (.str (Txt.join a ys))) else none
  | _,_=>none
def M1Ok (K:Fg) [WD K] (r:V→List V→Hp→VK→Prop) (f:D→D→Option X):Prop:=∀ M H dx dy x v u,Same M H→Rd2 K M H dx v→Rd2 K M H dy u→f dx dy=some x→∀ Q:VK,Fin K M H x Q→r v [u] H Q
theorem ach {r:V→List V→Hp→VK→Prop} {f:D→D→Option X} {tb:TE} {db:Ev→RE X} (ho:M1Ok K r f) (ha:DE K W te de) (hb:DE K W tb db):DE K W (tM1 r te tb) (dM1 f de db):=fun M σ H env hh=>by
  refine Sat.bind (c:=fun v H1 Q=>(∃ a,v=V.str a)∧tb σ H1 fun y H2=>r v [y] H2 Q) V2 hh (ha M σ H env hh) (fun Q q=>q) fun M1 H1 env1 x v g1 s1 hh1 r1=>?_
  by_cases hc:((rd env1 x).map isS)=some true
  · rw [if_pos hc]
    obtain ⟨d0,q1,q2⟩:=Option.map_eq_some_iff.mp hc
    have hv:∃ a,v=V.str a:=by
      cases d0 with
      | str a=>exact ⟨a,(abP hh1 r1.1 q1).str⟩
      | _=>cases q2
    refine Sat.bind (c:=fun u H2 Q=>r v [u] H2 Q) V2 hh1 (hb M1 σ H1 env1 hh1) (fun Q q=>⟨hv,q⟩) fun M2 H2 env2 y u g2 s2 hh2 r2=>?_
    refine ad7 hh2 fun z e Q q=>?_
    obtain ⟨dx,e1,e⟩:=Option.bind_eq_some_iff.mp e
    obtain ⟨dy,e2,e⟩:=Option.bind_eq_some_iff.mp e
    exact ho M2 H2 dx dy z v u hh2.ex (abP hh2 (RepX.grow hh1 r1.1 g2 s2) e1) (abP hh2 r2.1 e2) e Q q
  · rw [if_neg hc]
    trivial
theorem agC:∀ {xs:List D} {ys:List Str} {vs:List V},textsD xs=some ys→Reps K M xs vs→vs=ys.map V.str
  | [],ys,vs,e,r=>by
    simp only [textsD] at e
    cases e
    simp only [Reps] at r
    exact r
  | x :: xs,ys,vs,e,r=>by
    cases x with
    | str z=>
      simp only [textsD] at e
      obtain ⟨r1,e1,rfl⟩:=Option.map_eq_some_iff.mp e
      simp only [Reps] at r
      obtain ⟨v,r',rfl,h1,h2⟩:=r
      rw [agC e1 h2,show v=.str z by simpa [Rep] using h1]
      rfl
    | _=>cases e
abbrev rJoin (K:Fg):V→List V→Hp→VK→Prop:=fun x xs H Q=>∃ a p,∃ ys:List Str,x=.str a∧xs=[.ref p]∧(SqL K H p (ys.map V.str)∨SqT K H p (ys.map V.str))∧(ys.map (·.length)).sum+ys.length * a.length≤16777216∧Q (.str (Txt.join a ys)) H
theorem aci:M1Ok K (rJoin K) pJoin:=by
  intro M H dx dy x v u e hx hy hf Q q
  unfold pJoin at hf
  split at hf
  · obtain ⟨ys,h1,hf⟩:=Option.bind_eq_some_iff.mp hf
    split at hf
    · rename_i hz
      cases hf
      obtain ⟨a,us,rfl,h3,h4⟩:=hy.lst e
      rw [agC h1 h4] at h3
      exact ⟨_,a,ys,hx.str,rfl,.inl (SqL.of h3),(by have h9:=aae hz; rw [sizeLine_eq] at h9; exact h9),q.im0 e aaA⟩
    · cases hf
  · obtain ⟨ys,h1,hf⟩:=Option.bind_eq_some_iff.mp hf
    split at hf
    · rename_i hz
      cases hf
      obtain ⟨a,us,rfl,h3,h4⟩:=hy.tup e
      rw [agC h1 h4] at h3
      exact ⟨_,a,ys,hx.str,rfl,.inr h3,(by have h9:=aae hz; rw [sizeLine_eq] at h9; exact h9),q.im0 e aaA⟩
    · cases hf
  · cases hf
end
end Dn
namespace Dn
open PySem PySem.Spec PyProof.Rows L2
section
variable {P:Program} {w:World} {K:Fg} [WD K] {mg:Str→Option Value} {base:Heap} {X:Cx}
theorem G4 {iw:WD X.K} {CX:CXT} {k:Nat} {x:Str} {ps:List Str} {m:Ev→RE Dn.X} {E:XK} {p pos:Pos} {e:Expr} {es:List Expr} {t:TA} (c:CallF CX X.prog X.w X.K X.mg X.base k x ps m) (hr:Room k X.A) (hx:Passes CX X E) (hg:Gl X x) (ha:PA X (e :: es) t)
    (hdb:(x == ("__debug__":Str))=false:=by decide) (he:starEach (e :: es) X.env=(false,eval e X.env) :: starEach es X.env:=by rfl) (hpl:(backTo pos (starEach es X.env)).any (·.1)=false:=by rfl):
    PE X (.Call (.Name x p) (e :: es) [] pos) (tCall (spD X.K m) [] E t):=by
  obtain ⟨f,fd,h1,h2,h3,h4⟩:=c
  exact pe_call h4 hr hg h1 h2 h3 .nil hx ha hdb he hpl
theorem passN {E:XK}:Passes CX0 X E:=fun _ _ _ _ _ _ _ h=>h.elim
theorem Q6 {x:Str} {ps N:List Str} {k n nn:Nat} {st:Stmt} {f:Addr} {ds:Ev→RS} (F:∃ fd,FunD K x x (defArgs st) (defBody st) (defScope st) [] [] f fd) (g:mg x=some (.ref f)) (S:FnScope N ps (defScope st)) (hn:ps.length=n) (hN:N.length=nn)
    (b:∀ (kV doc pm:Value) (an:Option Addr) (cdv ct:Value) (us:List Value),us.length=ps.length→bindArgs (PySem.W.fnOf x x (defArgs st) (defBody st) (defScope st) .none kV doc pm an cdv ct) ⟨us,[]⟩=pure (ps.zip us))
    (h:∀ (cdv:Value) (A:Around) (outer:List Env) (s:Shared) (H:Hp) (E:XK),Room k (A.deeper (envOfC x (defScope st) s.heap.objs.size f cdv))→
      ∃ t,PSs (cxOf CX0 P w K mg base N x (defScope st) f cdv A outer s H E).nox (defBody st) t∧DS K (fun _=>E) t ds):CallF CX0 P w K mg base (k+1) x ps (fnM nn n ds):=by
  subst hn hN
  obtain ⟨fd,F⟩:=F
  refine ⟨f,fd,g,F.kp,F.bindsN b,F.ok S (fun vs H Q E h=>afn h) fun cdv A outer s H vs Q E hr hs=>?_⟩
  obtain ⟨t,h1,h2⟩:=h cdv A outer s H E hr
  exact ⟨t,PSs.nox h1,afm h2 hs⟩
theorem apI {x:Str} {ps N:List Str} {k n nn:Nat} {st:Stmt} {f:Addr} {fd:FuncData} {ds:Ev→RS} (F:FunD K x x (defArgs st) (defBody st) (defScope st) [] [] f fd) (S:FnScope N ps (defScope st)) (hn:ps.length=n) (hN:N.length=nn)
    (h:∀ (cdv:Value) (A:Around) (outer:List Env) (s:Shared) (H:Hp) (E:XK),Room k (A.deeper (envOfC x (defScope st) s.heap.objs.size f cdv))→
      ∃ t,PSs (cxOf CX0 P w K mg base N x (defScope st) f cdv A outer s H E).nox (defBody st) t∧DS K (fun _=>E) t ds):FnOk P w K mg base CX0 (k+1) f fd ps (spD K (fnM nn n ds)):=by
  subst hn hN
  refine F.ok S (fun vs H Q E h=>afn h) fun cdv A outer s H vs Q E hr hs=>?_
  obtain ⟨t,h1,h2⟩:=h cdv A outer s H E hr
  exact ⟨t,PSs.nox h1,afm h2 hs⟩
theorem ai4 {x:Str} {ps N:List Str} {k:Nat} {st:Stmt} {f:Addr} (F:∃ fd,FunD K x x (defArgs st) (defBody st) (defScope st) [] [] f fd) (g:mg x=some (.ref f)) (S:FnScope N ps (defScope st))
    (b:∀ (kV doc pm:Value) (an:Option Addr) (cdv ct:Value) (us:List Value),us.length=ps.length→bindArgs (PySem.W.fnOf x x (defArgs st) (defBody st) (defScope st) .none kV doc pm an cdv ct) ⟨us,[]⟩=pure (ps.zip us)) {CX:CXT}:CallF CX P w K mg base (k+1) x ps (fun _=>.bad):=by
  obtain ⟨fd,F⟩:=F
  refine ⟨f,fd,g,F.kp,F.bindsN b,F.ok S (fun vs H Q E h=>?_) fun cdv A outer s H vs Q E hr hs=>?_⟩
  · obtain ⟨M,ps,_,z⟩:=h
    exact z.elim
  · obtain ⟨M,ps,_,z⟩:=hs
    exact z.elim
theorem abu:NoSl (fun _=>.bad):=fun _ _ _ e=>by cases e
theorem room64 {k:Nat} {A:Around} (r:Room k A):A.units+64 < cLine:=r.units
theorem room65 {k:Nat} {A:Around} (r:Room k A):A.units+65 < cLine:=by have:=r.un; omega
end
theorem apJ {K:Fg} [WD K] {m:Ev→RE X} {ns:List Int} {H:Hp} {a:Addr} {env':Ev} (hS:SqL K H a (ns.map V.int)) (hm:m [.im (.scr ns)]=.ok (.im (.bl true)) env'):spD K m [.ref a] H (fun v _=>v=.bl true) fun _ _ _=>False:=by
  refine ⟨H,[.im (.scr ns)],⟨Same.refl H,rfl,fun i s q=>?_,fun i j l p o p' o' hij q1 q2 q3 q4=>?_⟩,?_⟩
  · cases i with
    | zero=>
      simp at q
      subst q
      refine ⟨.ref a,rfl,?_⟩
      simp only [Rep]
      exact ⟨a,rfl,hS⟩
    | succ i=>simp at q
  · cases i with
    | zero=>simp at q1
    | succ i=>simp at q1
  · rw [hm]
    intro v M' H' g s hh r
    have:=r.1
    simpa [RepX,Rep] using this
theorem anU {l:PySem.W.OpenLaw} {n k:Nat} {q:Program} {loose:List Str} {XP:(Str→Option Value)→Heap→Prop} {YP:World→Heap→Prop} {d:DefRec} {CX:CXT} {x:Str}
    (hn:l.most=some n) (hn2:n≤sizeLine) (hdf:d.params.defaults=[]) (hr:Room k callerA)
    (F:∀ (w:World) (mg:Str→Option Value) (fa:Addr) (h:Heap),YP w h→h.Ns mainGlobals mg→mg d.name=some (.ref fa)→
      ∃ (K:PySem.W.Frag) (fd:FuncData) (sp:Sp),K.In h∧(∀ (s:Shared) (u:Value),BindsTo s fd ⟨[u],[]⟩ [(x,u)])∧
        (∀ (H:Hp) (a:Addr) (ns:List Int),ns.length≤n→(∀ z∈ns,Builtin.Int.intBits z≤1048576)→Only H→SqL K H a (ns.map V.int)→sp [.ref a] H (fun v _=>v=.bl true) fun _ _ _=>False)∧
        ∀ base:Heap,K.In base→base.Ns mainGlobals mg→FnOk l.prog w K mg base CX k fa fd [x] sp)
    (hCX:∀ (H:Hp) (s:Shared) (e:Value) (s':Shared),CX [] H s (fun _ _ _=>False) e s'→False):
    PySem.W.WalkO q loose XP YP l.row.toRowW d [] (fun f vs=>PySem.call f vs):=by
  refine Att.attach_callB hn hdf fun w s₀ s₁ mg mb fa o pm cd doc a vs ns G Y ho hd hcd hmg hobj hints hlen hbits hg=>?_
  obtain ⟨K,fd,sp,KX,hb,hsp,hF⟩:=F w mg fa _ Y G.T.g hmg
  exact law_call KX G.T.g G.T.b G.T.builtins G.T.nolimit hg hobj hints (Nat.le_trans hlen hn2) hr hF hb (fun H hO hS=>hsp H a ns hlen hbits hO hS) fun H e s'=>hCX H s₁ e s'
end Dn
namespace Dn
open PySem PySem.Spec PyProof.Rows L2 TL
theorem log2_small {n:Nat} {k:Nat} (h:n < 2 ^ k):n.log2≤k:=by
  by_cases z:n=0
  · subst z; simp
  · exact Nat.le_of_lt ((Nat.log2_lt z).mpr h)
theorem ab2 {i j:Int} {a b:Nat} (h:i.natAbs < 2 ^ a) (h':j.natAbs < 2 ^ b) (k:a+b < 100000000):mulFit i j=true:=by
  unfold mulFit
  have:=log2_small h
  have:=log2_small h'
  exact decide_eq_true (by omega)
theorem akT {j:Int} (h:-1000000≤j) (h':j≤1000000):rgOk j=true:=by
  have:=log2_small (k:=20) (show j.natAbs < 2 ^ 20 by omega)
  exact decide_eq_true (by omega)
theorem aqD (x y:Str):(x++y).cps.toList=x.cps.toList++y.cps.toList:=tl_append x y
theorem amI (x y:Str):(x++y).length=x.length+y.length:=by rw [len_tl,len_tl x,len_tl y,tl_append,List.length_append]
theorem apK (z:Str) (n:Nat):(repS z n).cps.toList=(List.replicate n z.cps.toList).flatten:=by
  unfold repS
  simp
theorem LowS.app {x y:Str} (h:LowS x) (h':LowS y):LowS (x++y):=fun c hc=>by
  rw [aqD,List.mem_append] at hc
  exact hc.elim (h c) (h' c)
theorem LowS.rep {z:Str} (h:LowS z) (n:Nat):LowS (repS z n):=fun c hc=>by
  rw [apK] at hc
  obtain ⟨l,h1,h2⟩:=List.mem_flatten.mp hc
  rw [(List.mem_replicate.mp h1).2] at h2
  exact h c h2
theorem akU:∀ ws:List Str,(Txt.join "" ws).cps.toList=(ws.map fun w=>w.cps.toList).flatten:=fun ws=>by
  rw [join_eq]
  show tl (Str.join "" ws)=_
  rw [tl_join]
  have e:tl ("":Str)=[]:=rfl
  rw [e]
  have key:∀ l:List (List Nat),joinL [] l=l.flatten:=by
    intro l
    induction l with
    | nil=>rfl
    | cons p l ih=>
      cases l with
      | nil=>simp [joinL]
      | cons q r=>
        show p++([]++joinL [] (q :: r))=_
        rw [ih]
        simp
  exact key _
theorem ah3:∀ n:Nat,(List.replicate n 1).sum=n
  | 0=>rfl
  | n+1=>by rw [List.replicate_succ,List.sum_cons,ah3 n]; omega
theorem ajI:∀ ws:List Str,(∀ w∈ws,w.length=1)→(Txt.join "" ws).length=ws.length:=fun ws h=>by
  rw [len_tl]
  show (Txt.join "" ws).cps.toList.length=_
  rw [akU,List.length_flatten,List.map_map]
  have:ws.map (List.length∘fun w=>w.cps.toList)=List.replicate ws.length 1:=by
    rw [List.eq_replicate_iff]
    refine ⟨by simp,fun b hb=>?_⟩
    obtain ⟨w,hw,rfl⟩:=List.mem_map.mp hb
    have:=h w hw
    rw [len_tl] at this
    exact this
  rw [this,ah3]
theorem aoL:∀ ws:List Str,(∀ w∈ws,w.length=1)→(ws.map (·.length)).sum=ws.length:=fun ws h=>by
  have:ws.map (·.length)=List.replicate ws.length 1:=by
    rw [List.eq_replicate_iff]
    refine ⟨by simp,fun b hb=>?_⟩
    obtain ⟨w,hw,rfl⟩:=List.mem_map.mp hb
    exact h w hw
  rw [this,ah3]
theorem anV:∀ ws:List Str,(∀ w∈ws,LowS w)→LowS (Txt.join "" ws):=fun ws h c hc=>by
  rw [akU] at hc
  obtain ⟨l,h1,h2⟩:=List.mem_flatten.mp hc
  obtain ⟨w,hw,rfl⟩:=List.mem_map.mp h1
  exact h w hw c h2
theorem afF:∀ ws:List Str,textsD (ws.map D.str)=some ws
  | []=>rfl
  | w :: ws=>by
    show (textsD (ws.map D.str)).map _=_
    rw [afF ws]
    rfl
abbrev ALs:Str:="abcdefghijklmnopqrstuvwxyz"
theorem anr:(ALs.cps.toList)=[97,98,99,100,101,102,103,104,105,106,107,108,109,110,111,112,113,114,115,116,117,118,119,120,121,122]:=by decide+kernel
theorem ars {r:Int} (h:0≤r) (h':r < 26):∃ c,pIx (.str "abcdefghijklmnopqrstuvwxyz") (.int r)=some (.im (.str ⟨#[c]⟩))∧97≤c∧c≤122:=by
  have hf:fit (ALs.length)=true:=by decide+kernel
  have hl:ALs.cps.toList.length=26:=by rw [anr]; rfl
  refine ⟨97+r.toNat,?_,by omega,by omega⟩
  show (if fit ALs.length=true then (atI ALs.cps.toList r).map (fun c=>X.im (.str ⟨#[c]⟩)) else none)=_
  rw [if_pos hf,aii h,anr]
  have key:∀ k:_root_.Fin 26,([97,98,99,100,101,102,103,104,105,106,107,108,109,110,111,112,113,114,115,116,117,118,119,120,121,122]:List Nat)[k.val]?=some (97+k.val):=by decide
  have:=key ⟨r.toNat,by omega⟩
  simp only at this
  rw [this]
  rfl
theorem ag9 {c:Nat} (h:97≤c) (h':c≤122):LowS ⟨#[c]⟩:=fun d hd=>by
  simp at hd
  omega
theorem aah {n:Nat} (h:n≤100000):fit n=true:=by
  have:=log2_small (k:=17) (show n < 2 ^ 17 by omega)
  exact decide_eq_true (by omega)
theorem ad3:∀ ns:List Str,scals (ns.map D.str)=some (ns.map V.str)
  | []=>rfl
  | n :: ns=>by simp [scals,ad3 ns,D.scal]
theorem afG (w:Str):∀ ns:List Str,inV (.str w) (ns.map V.str)=decide (w∈ns)
  | []=>by simp [inV]
  | n :: ns=>by
    show ((n == w) || inV (.str w) (ns.map V.str))=_
    rw [afG w ns]
    by_cases h:n=w
    · subst h; simp
    · have h2:w≠n:=fun z=>h z.symm
      simp [h,h2]
theorem aqE (w:Str) (ns:List Str):pIn (.str w) (.lst (ns.map D.str))=some (.im (.bl (decide (w∈ns)))):=by
  simp [pIn,pInB,D.scal,ad3,afG]
theorem anW (w:Str) (ns:List Str):pNotIn (.str w) (.tup (ns.map D.str))=some (.im (.bl (!decide (w∈ns)))):=by
  simp [pNotIn,pInB,D.scal,ad3,afG]
theorem anY (w:Str) (ns:List Str):pNotIn (.str w) (.lst (ns.map D.str))=some (.im (.bl (!decide (w∈ns)))):=by
  simp [pNotIn,pInB,D.scal,ad3,afG]
theorem pigeon {α:Type} [DecidableEq α]:∀ (l ns:List α),l.Nodup→(∀ x∈l,x∈ns)→l.length≤ns.length
  | [],ns,_,_=>Nat.zero_le _
  | x :: l,ns,nd,h=>by
    have hx:=h x (by simp)
    have nd':=List.nodup_cons.mp nd
    have:=pigeon l (ns.erase x) nd'.2 fun y hy=>(List.mem_erase_of_ne (fun z=>nd'.1 (by rw [← z]; exact hy))).mpr (h y (by simp [hy]))
    have e:=List.length_erase_of_mem hx
    have:0 < ns.length:=List.length_pos_of_mem hx
    simp
    omega
theorem amJ {α:Type}:∀ (l:List α) (i:Nat) (h:i < l.length),l.Perm (l[i] :: l.eraseIdx i)
  | x :: l,0,_=>List.Perm.refl _
  | x :: l,i+1,h=>by
    have:=amJ l i (by simpa using h)
    exact (List.Perm.cons x this).trans (List.Perm.swap _ _ _)
theorem anZ {α:Type} (l cs:List α) (i:Nat) (h:i < l.length):(l.eraseIdx i++(cs++[l[i]])).Perm (l++cs):=by
  have h1:=amJ l i h
  rw [← List.append_assoc]
  refine (List.perm_append_comm (l₁:=l.eraseIdx i++cs) (l₂:=[l[i]])).trans ?_
  exact (List.Perm.append_right cs h1).symm
theorem art (w:Str):w.length=w.cps.toList.length:=len_tl w
theorem agD {α:Type} {w:List α} {r:Int} (h:0≤r) (h':r≤w.length):cutD w none (some r)=w.take r.toNat:=by
  have e:HT.sIx w.length w.length (some r)=r.toNat:=by
    show (if r < 0 then _ else min r.toNat w.length)=_
    rw [if_neg (by omega)]
    omega
  unfold cutD
  rw [e,HT.sIx_none]
  simp
end Dn
namespace PySem
open Sem (wp)
open AutoSeq1 (wpAny_loadPart')
end PySem
namespace L2
open PySem PySem.Spec PyProof.Rows
end L2
namespace L2
open PySem PySem.Spec PyProof.Rows
end L2
namespace Dn
open PySem PySem.Spec PyProof.Rows L2
section
open Dn
variable {K:Fg} [WD K] {W:WS} {M M' M1 M2:Hp} {env env' env1 env2:Ev} {σ σ' σ1:L2.St} {H H' H1 H2:Hp} {x y:X} {v u:V} {te:TE} {de:Ev→RE X} {ta:TA} {da:Ev→RE (List X)}
theorem akV:∀ {xs:List D} {vs:List V} {bs:List Bool},Reps K M xs vs→blsD xs=some bs→vs=bs.map V.bl
  | [],vs,bs,h,e=>by
    simp only [Reps] at h
    cases e
    exact h
  | x :: xs,vs,bs,h,e=>by
    simp only [Reps] at h
    obtain ⟨v,r,rfl,h1,h2⟩:=h
    cases x with
    | bl b=>
      obtain ⟨cs,e1,rfl⟩:=Option.map_eq_some_iff.mp (show (blsD xs).map (b :: ·)=some bs from e)
      rw [akV h2 e1,show v=.bl b by simpa [Rep] using h1]
      rfl
    | _=>cases e
theorem ok_all:CallOk K (rAll K) pAll:=by
  intro M H ds x vs e r hf Q q
  unfold pAll at hf
  split at hf
  · obtain ⟨bs,h1,rfl⟩:=Option.map_eq_some_iff.mp hf
    obtain ⟨v,rfl,h⟩:=aaI r
    obtain ⟨a,us,rfl,h2,h3⟩:=h.lst e
    rw [akV h3 h1] at h2
    exact ⟨a,bs,rfl,SqL.of h2,q.im0 e aaG⟩
  · cases hf
def dMutR (i:Nat) (isT:OD→Bool) (f:OD→List D→Option (D×OD)) (da:Ev→RE (List X)):Ev→RE X:=fun env=>if ((slotOf env i).map fun r=>isT r.2)=some true then (da env).bind fun xs e1=>optE ((rds e1 xs).bind fun ds=>(slotOf e1 i).bind fun po=>(f po.2 ds).bind fun r=>some (X.im r.1,e1.set i (.ow po.1 r.2))) else .bad
def MutOkR (K:Fg) [WD K] (r:V→List V→Hp→VK→Prop) (f:OD→List D→Option (D×OD)):Prop:=∀ M H l o ds vs d o',Same M H→At K M H l o→M l=none→Paired (Rd2 K M H) ds vs→f o ds=some (d,o')→∀ Q:VK,(∀ z ho,At K M (upd H l ho) l o'→Rep K M d z→Q z (upd H l ho))→r (.ref l) vs H Q
theorem apL {i:Nat} {T:String} {isT:OD→Bool} {r:V→List V→Hp→VK→Prop} {f:OD→List D→Option (D×OD)} (hT:TyOk K T isT) (hr:MutOkR K r f) (ha:DA K W ta da):DE K W (tBM K T r (tVar i) ta) (dMutR i isT f da):=fun M σ H env hh=>by
  have ht:∀ σ H Q v,σ[i]?=some (some v)→tyV K T v H→ta σ H (fun xs H2=>r v xs H2 Q)→tBM K T r (tVar i) ta σ H Q:=fun σ H Q v e ty q=>⟨v,e,ty,q⟩
  have h1:=ha M σ H env hh
  unfold dMutR
  by_cases hc:((slotOf env i).map fun r=>isT r.2)=some true
  · rw [if_pos hc]
    obtain ⟨⟨p0,o0⟩,q1,q2⟩:=Option.map_eq_some_iff.mp hc
    obtain ⟨l,es,a0,m0⟩:=hh.slot i _ (aaY q1)
    have ty:=hT M H l o0 a0 q2
    cases e1:da env with
    | bad=>trivial
    | exc e env1=>rw [e1] at h1; exact fun Q k=>ht σ H Q _ es ty (h1 _ k)
    | ok xs env1=>
      rw [e1] at h1
      show Sat K W M σ H env (optE ((rds env1 xs).bind fun ds=>(slotOf env1 i).bind fun po=>(f po.2 ds).bind fun r=>some (X.im r.1,env1.set i (.ow po.1 r.2)))) (RX K σ) _
      cases e2:((rds env1 xs).bind fun ds=>(slotOf env1 i).bind fun po=>(f po.2 ds).bind fun r=>some (X.im r.1,env1.set i (.ow po.1 r.2))) with
      | none=>trivial
      | some rr=>
        obtain ⟨ds,t1,e3⟩:=Option.bind_eq_some_iff.mp e2
        obtain ⟨⟨p,o⟩,t2,e4⟩:=Option.bind_eq_some_iff.mp e3
        obtain ⟨⟨d,o'⟩,t3,e5⟩:=Option.bind_eq_some_iff.mp e4
        cases e5
        refine fun Q k=>ht σ H Q _ es ty (h1 _ fun vs M1 H1 g s hh1 r1=>?_)
        have rs:=agt hh1 (ani r1) t1
        obtain ⟨l',es',a',m'⟩:=hh1.slot i _ (aaY t2)
        rw [es] at es'
        cases es'
        refine hr _ H1 l o ds vs d o' hh1.ex a' m' rs t3 Q fun z ho az rz=>?_
        obtain ⟨w1,w2,w3⟩:=adJ hh1 (aaY t2) es az
        exact k z _ _ (g.trans hh w2) (s.trans w3) w1 (abQ rz)
  · rw [if_neg hc]
    trivial
def mExt:OD→List D→Option (D×OD)
  | .lst xs,[.lst ys]=>if fit (xs.length+ys.length) then some (.non,.lst (xs++ys)) else none
  | _,_=>none
theorem aqF:MutOkR K rExtend mExt:=by
  intro M H l o ds vs d o' e a m r hf Q k
  unfold mExt at hf
  split at hf
  · split at hf
    · rename_i hz
      cases hf
      obtain ⟨v,rfl,h⟩:=aaI r
      obtain ⟨b,ws,rfl,h3,h4⟩:=h.lst e
      obtain ⟨us,h1,h2⟩:=a
      exact ⟨l,b,us,ws,rfl,rfl,h1,h3,by rw [← h2.length,← h4.length]; exact aae hz,k _ _ ⟨_,upd_same,h2.append h4⟩ ai0⟩
    · cases hf
  · cases hf
theorem afH {X:Cx} {x:Str} {pos:Pos} {v:V} (hg:Gl X x) (hm:∃ u,X.mg x=some u∧RelV v u) (hd:(x == ("__debug__":Str))=false:=by decide):PE X (.Name x pos) (tC v):=by
  obtain ⟨u,h,r⟩:=hm
  exact pe_glob hg h r hd
end
end Dn
namespace Dn
open PySem PySem.Spec PyProof.Rows L2
section
variable {K:Fg} [WD K] {W:WS} {M M' M1 M2:Hp} {env env' env1 env2:Ev} {σ σ' σ1:L2.St} {H H' H1 H2:Hp} {x y:X} {v u:V} {te:TE} {de:Ev→RE X} {ta:TA} {da:Ev→RE (List X)} {ts:TS} {ds:Ev→RS}
theorem aqG {i:Nat} (hh:Holds K M env σ H) (e:fzE i env=some env'):∃ M',Grow M env σ H M' env' σ H∧Holds K M' env' σ H:=by
  unfold fzE at e
  split at e
  · cases e
    exact ⟨M,.refl,hh⟩
  · rename_i o e0
    obtain ⟨d,e1,rfl⟩:=Option.map_eq_some_iff.mp e
    have hi:i < env.length:=(List.getElem?_eq_some_iff.mp e0).1
    obtain ⟨l,es,a,m⟩:=hh.slot i _ e0
    obtain ⟨u,hu⟩:=a.there
    have sm:Same M (upd M l u):=fun b o q=>by
      rw [upd_ne (ne_of_none q m)]
      exact q
    have ow:∀ l2,Own (env.set i (.im d)) σ l2→Own env σ l2∧l2≠l:=fun l2 ⟨j,p,o2,q1,q2⟩=>by
      by_cases hj:j=i
      · subst hj
        rw [List.getElem?_set_self hi] at q1
        cases q1
      · rw [List.getElem?_set_ne (Ne.symm hj)] at q1
        exact ⟨⟨j,p,o2,q1,q2⟩,fun z=>hh.dj j i l2 p o2 false o hj q1 e0 q2 (z▸es)⟩
    have rp:Rep K (upd M l u) d (.ref l):=by
      cases o with
      | lst xs=>
        cases e1
        obtain ⟨vs,h1,h2⟩:=a
        rw [h1] at hu
        cases hu
        simp only [Rep]
        exact ⟨l,vs,rfl,upd_same,Reps.mono sm _ _ h2⟩
      | ob c fs=>
        cases e1
        obtain ⟨dx,fvs,h1,h2⟩:=a
        rw [h1] at hu
        cases hu
        simp only [Rep]
        exact ⟨l,dx,fvs,rfl,upd_same,RepF.mono sm _ _ h2⟩
      | dk kvs=>
        cases e1
        obtain ⟨o,vs,h1,h3,h2⟩:=a
        rw [h1] at hu
        cases hu
        simp only [Rep]
        exact ⟨l,o,vs,rfl,upd_same,h3,aeg.mpr (RepK.mono sm h2)⟩
      | dt kvs=>
        cases e1
        obtain ⟨o,vs,h1,h3,h2⟩:=a
        rw [h1] at hu
        cases hu
        simp only [Rep]
        exact ⟨l,o,vs,rfl,upd_same,h3,aeh.mpr (RepT.mono sm h2)⟩
    refine ⟨upd M l u,⟨sm,fun _ _ q _=>q,fun b o2 q=>?_,fun l2 z=>.inl (ow l2 z).1,fun j s q pn=>⟨rfl,?_⟩,fun _ q=>q,by rw [List.length_set]⟩,⟨fun b o2 q=>?_,by rw [List.length_set]; exact hh.len,fun j s q=>?_,fun j k l2 p1 o1 p2 o2 hjk q1 q2 q3 q4=>?_⟩⟩
    · by_cases hb:b=l
      · subst hb
        exact .inr (.inr ⟨i,false,o,e0,es⟩)
      · rw [upd_ne hb] at q
        exact .inl q
    · have hj:j≠i:=fun z=>by
        subst z
        rw [e0] at q
        cases q
        cases pn
      exact ⟨s,by rw [List.getElem?_set_ne (Ne.symm hj)]; exact q,rfl⟩
    · by_cases hb:b=l
      · subst hb
        rw [upd_same] at q
        cases q
        exact hu
      · rw [upd_ne hb] at q
        exact hh.ex _ _ q
    · by_cases hj:j=i
      · subst hj
        rw [List.getElem?_set_self hi] at q
        cases q
        exact ⟨_,es,rp⟩
      · rw [List.getElem?_set_ne (Ne.symm hj)] at q
        have:=hh.slot j s q
        cases s with
        | no=>trivial
        | hid=>trivial
        | im d2=>obtain ⟨w,e2,r⟩:=this; exact ⟨w,e2,Rep.mono sm _ _ r⟩
        | ow p2 o2=>
          obtain ⟨l2,e2,a2,m2⟩:=this
          have hne:l2≠l:=fun z=>hh.dj j i l2 p2 o2 false o hj q e0 e2 (z▸es)
          exact ⟨l2,e2,a2.mono sm fun _ z=>z,by rw [upd_ne hne]; exact m2⟩
    · have f:∀ (j:Nat) (p:Bool) (o1:OD),(env.set i (.im d))[j]?=some (Sl.ow p o1)→env[j]?=some (Sl.ow p o1):=fun j p o1 q=>by
        by_cases hj:j=i
        · subst hj
          rw [List.getElem?_set_self hi] at q
          cases q
        · rwa [List.getElem?_set_ne (Ne.symm hj)] at q
      exact hh.dj j k l2 p1 o1 p2 o2 hjk (f j p1 o1 q1) (f k p2 o2 q2) q3 q4
  · cases e
    exact ⟨M,.refl,hh⟩
  · cases e
theorem akW:∀ (is:List Nat) {M:Hp} {env env':Ev},Holds K M env σ H→fzAll is env=some env'→∃ M',Grow M env σ H M' env' σ H∧Holds K M' env' σ H
  | [],M,env,env',hh,e=>by
    cases e
    exact ⟨M,.refl,hh⟩
  | i :: is,M,env,env',hh,e=>by
    obtain ⟨e1,h1,h2⟩:=Option.bind_eq_some_iff.mp (show (fzE i env).bind (fzAll is)=some env' from e)
    obtain ⟨M1,g1,hh1⟩:=aqG hh h1
    obtain ⟨M2,g2,hh2⟩:=akW is hh1 h2
    exact ⟨M2,g1.trans hh g2,hh2⟩
theorem apn {is:List Nat} (h:DS K W ts ds):DS K W ts (dFz is ds):=fun M σ H env hh=>by
  unfold dFz
  cases e:fzAll is env with
  | none=>trivial
  | some env'=>
    obtain ⟨M',g,hh'⟩:=akW is hh e
    exact SatS.later hh g (h M' σ H env' hh')
end
end Dn
namespace Dn
open PySem PySem.Spec PyProof.Rows L2 NdefX
end Dn
namespace Dn
open PySem PySem.Spec PyProof.Rows L2 NdefX
structure OexS (K:Fg) (C:Addr):Prop extends OexC K C where
  ve:PySem.W.subIn K (.ref C) (.type "ValueError")=some true
  self:PySem.W.mroIn K C (.ref C)=some true
  sup:PySem.W.ks_superIn K C C "__init__"=some (some (.builtin "ValueError.__init__"))
  opq:PySem.W.nsIn K cStatics "thirdparty.any"=some none
end Dn
namespace Dn
open PySem PySem.Spec PyProof.Rows L2 NdefX
section
variable {K:Fg} [WD K] {W:WS} {M M' M1 M2:Hp} {env env' env1 env2:Ev} {σ σ' σ1:L2.St} {H H' H1 H2:Hp} {ta:TA} {da:Ev→RE (List X)}
theorem RepF.append:∀ {xs ys:List (Str×D)} {vs us:List (Str×V)},RepF K M xs vs→RepF K M ys us→RepF K M (xs++ys) (vs++us)
  | [],ys,vs,us,h,h'=>by
    simp only [RepF] at h
    subst h
    exact h'
  | (k,x) :: xs,ys,vs,us,h,h'=>by
    simp only [RepF] at h
    obtain ⟨v,r,rfl,h1,h2⟩:=h
    simp only [List.cons_append,RepF]
    exact ⟨v,_,rfl,h1,RepF.append h2 h'⟩
theorem RepF.reverse:∀ {xs:List (Str×D)} {vs:List (Str×V)},RepF K M xs vs→RepF K M xs.reverse vs.reverse
  | [],vs,h=>by
    simp only [RepF] at h
    subst h
    simp [RepF]
  | (k,x) :: xs,vs,h=>by
    simp only [RepF] at h
    obtain ⟨v,r,rfl,h1,h2⟩:=h
    rw [List.reverse_cons,List.reverse_cons]
    refine RepF.append (RepF.reverse h2) ?_
    simp only [RepF]
    exact ⟨v,[],rfl,h1,rfl⟩
end
end Dn
namespace Dn
open PySem PySem.Spec PyProof.Rows L2 NdefX
end Dn
namespace Dn
open PySem PySem.Spec PyProof.Rows L2 NdefX
end Dn
namespace Dn
open PySem PySem.Spec PyProof.Rows L2 NdefX
section
variable {K:Fg} [WD K] {W:WS} {te:TE} {de:Ev→RE X} {cs:List Str} {n:Str}
theorem aeX {M:Hp}:∀ {xs:List (Str×D)} {vs:List (Str×V)} {d:D},RepF K M xs vs→xs.lookup n=some d→∃ v,vs.lookup n=some v∧Rep K M d v
  | [],vs,d,h,e=>nomatch e
  | (k,x) :: xs,vs,d,h,e=>by
    simp only [RepF] at h
    obtain ⟨v,r,rfl,h1,h2⟩:=h
    rw [List.lookup_cons] at e ⊢
    cases q:(n == k) with
    | true=>
      rw [q] at e
      cases e
      exact ⟨v,rfl,h1⟩
    | false=>
      rw [q] at e
      exact aeX h2 e
end
end Dn
namespace PySem.W
open PySem PySem.Spec PySem.Calls PyProof.Rows
end PySem.W
namespace Dn
open PySem PySem.Spec PyProof.Rows L2 NdefX
theorem akX {K:Fg} [WD K] {C:Addr} (h:excCB K C=true):ExcC K C∧XfC K C:=by
  obtain ⟨h1,h⟩:=He.ba h
  obtain ⟨h2,h⟩:=He.ba h
  obtain ⟨h3,h⟩:=He.ba h
  obtain ⟨h4,h⟩:=He.ba h
  obtain ⟨h5,h⟩:=He.ba h
  obtain ⟨h6,h⟩:=He.ba h
  obtain ⟨h7,h8⟩:=He.ba h
  exact ⟨⟨of_decide_eq_true h1,of_decide_eq_true h2,of_decide_eq_true h3,h4,of_decide_eq_true h5,of_decide_eq_true h6,of_decide_eq_true h7,of_decide_eq_true h8⟩,⟨of_decide_eq_true h1,of_decide_eq_true h2,of_decide_eq_true h3,h4⟩⟩
theorem apM {K:Fg} [WD K] {C:Addr} (h:oexB K C=true):OexC K C:=by
  obtain ⟨h1,h⟩:=He.ba h
  obtain ⟨h2,h⟩:=He.ba h
  obtain ⟨h3,h⟩:=He.ba h
  obtain ⟨h4,h5⟩:=He.ba h
  refine ⟨?_,of_decide_eq_true h2,of_decide_eq_true h3,of_decide_eq_true h4,h5⟩
  split at h1
  · rename_i dd cd sl ho
    split at h1
    · rename_i C' bm k0 k1 k2 k3 n k5 hm hs
      simp only [Bool.and_eq_true,beq_iff_eq,Bool.not_eq_true'] at h1
      obtain ⟨rfl,rfl,hdel,hdict,ht⟩:=h1
      obtain ⟨nm,bs,mro,ns,qn,hd,sn,sub,ab,col,del⟩:=cd
      dsimp only at hm hdel hdict
      subst hm hdel hdict
      have hsl:sl=#[k0,k1,k2,k3,some (.builtin "ValueError.__new__"),k5]:=by
        obtain ⟨l⟩:=sl
        simp only at hs
        rw [hs]
      subst hsl
      exact ⟨nm,qn,ns,bs,bm,sn,sub,ab,col,dd,k0,k1,k2,k3,k5,ho,ht⟩
    · cases h1
  · cases h1
theorem aoM {K:Fg} [WD K] {C:Addr} (h:oexSB K C=true):OexS K C:=by
  obtain ⟨h1,h⟩:=He.ba h
  obtain ⟨h2,h⟩:=He.ba h
  obtain ⟨h3,h⟩:=He.ba h
  obtain ⟨h4,h5⟩:=He.ba h
  exact { apM h1 with ve:=of_decide_eq_true h2,self:=of_decide_eq_true h3,sup:=of_decide_eq_true h4,opq:=of_decide_eq_true h5 }
section
variable {mf:Str} {fa:List He.Fa} {fn:List He.DefD} {fx:List Fx} {fs:List FnS} {K:Fg} [WD K]
theorem SaysX.dd (c:SaysX mf fa fn fx fs K):He.SaysD fa fn K:=congrArg (fun z:AlX=>z.1) c
theorem SaysX.fact (c:SaysX mf fa fn fx fs K) (i:Nat) {f:Fx} (h:fx[i]?=some f:=by rfl):f.ok K=true:=by
  have c1:=(He.ba (show ((fx.all fun f=>f.ok K)&&fs.all fun d=>d.ok mf K)=true from congrArg (fun z:AlX=>z.2.1) c)).1
  exact List.all_eq_true.mp c1 f (List.mem_of_getElem? h)
end
end Dn
namespace Dn
open PySem PySem.Spec PyProof.Rows L2 NdefX
end Dn
namespace Dn
open PySem PySem.Spec PyProof.Rows L2
end Dn
namespace Dn
open PySem PySem.Spec PyProof.Rows L2 NdefX
section
variable {K:Fg} [WD K] {W:WS} {E:XK} {M M' M1 M2:Hp} {env env' env1 env2:Ev} {σ σ' σ1:L2.St} {H H' H1 H2:Hp} {x y:X} {v u:V} {xs:List X} {vs:List V} {m:Ev→RE X} {Q:VK}
theorem an0 {r:RE X} {t:(V→Hp→Prop)→Prop} (h:∀ Q,KX K (W σ) M σ H env Q r→t Q):Sat K W M σ H env r (RX K σ) t:=by
  cases r with
  | bad=>trivial
  | ok y env2=>exact fun Q k=>h Q k
  | exc e env2=>exact fun Q k=>h Q k
theorem Sat.bindG {α β γ δ:Type} {r:RE α} {f:α→Ev→RE γ} {R:Hp→Hp→Hp→Ev→α→β→Prop} {R':Hp→Hp→Hp→Ev→γ→δ→Prop} {t:(β→Hp→Prop)→Prop} {t':(δ→Hp→Prop)→Prop} {c:β→Hp→(δ→Hp→Prop)→Prop}
    (h:Sat K W M σ H env r R t) (ht:∀ Q,t (fun v H1=>c v H1 Q)→t' Q)
    (hf:∀ M1 H1 env1 x v,Grow M env σ H M1 env1 σ H1→Shape env env1→Holds K M1 env1 σ H1→R H M1 H1 env1 x v→Sat K W M σ H env (f x env1) R' (c v H1)):Sat K W M σ H env (r.bind f) R' t':=by
  cases r with
  | bad=>trivial
  | exc e env1=>exact fun Q k=>ht Q (h _ k)
  | ok x env1=>
    show Sat K W M σ H env (f x env1) R' t'
    cases e2:f x env1 with
    | bad=>trivial
    | exc e env2=>
      refine fun Q k=>ht Q (h _ fun v M1 H1 g1 s1 hh1 r1=>?_)
      have h2:=hf M1 H1 env1 x v g1 s1 hh1 r1
      rw [e2] at h2
      exact h2 Q k
    | ok y env2=>
      refine fun Q k=>ht Q (h _ fun v M1 H1 g1 s1 hh1 r1=>?_)
      have h2:=hf M1 H1 env1 x v g1 s1 hh1 r1
      rw [e2] at h2
      exact h2 Q k
theorem aoN (hm:NoSl m) (hh:Holds K M env σ H) (g:Grow M env σ H M1 env1 σ H1) (s:Shape env env1) (hh1:Holds K M1 env1 σ H1) (r:RA K σ H M1 H1 env1 xs vs) (k:KX K E M σ H env Q (callD m xs env1)):spD K m vs H1 Q E:=by
  unfold callD at k
  cases e2:passXs env1 xs with
  | none=>rw [e2] at k; exact k.elim
  | some ps=>
    rw [e2] at k
    by_cases nd:(slots xs).Nodup∧temps xs≤1
    · have k:KX K E M σ H env Q (if (slots xs).Nodup∧temps xs≤1 then match m ps with
        | .ok y ps'=>.ok y (wb xs ps' env1)
        | .exc e ps'=>.exc e (wb xs ps' env1)
        | .bad=>.bad
      else .bad):=k
      rw [if_pos nd] at k
      refine ⟨_,ps,call_in hh g hh1 r e2 nd.1 nd.2,?_⟩
      cases e3:m ps with
      | bad=>rw [e3] at k; exact k.elim
      | ok y ps'=>
        rw [e3] at k
        intro v M2 H2 g2 s2 hh2 ry
        obtain ⟨a,b,c,d⟩:=ade hh g s hh1 r e2 nd.1 g2 s2 hh2
        exact k v M2 H2 a b c (d y v ry (hm ps y ps' e3))
      | exc x ps'=>
        rw [e3] at k
        intro cls dd M2 H2 g2 s2 hh2 ry
        obtain ⟨a,b,c,d⟩:=ade hh g s hh1 r e2 nd.1 g2 s2 hh2
        exact k cls dd M2 H2 a b c ry
    · have k:KX K E M σ H env Q (if (slots xs).Nodup∧temps xs≤1 then match m ps with
        | .ok y ps'=>.ok y (wb xs ps' env1)
        | .exc e ps'=>.exc e (wb xs ps' env1)
        | .bad=>.bad
      else .bad):=k
      rw [if_neg nd] at k
      exact k.elim
theorem ai5 {c:Str} {fs:List (Str×D)} (hh:Holds K M env σ H) (r:RepX K M H env σ x v) (e:recvX env x=some (c,fs)):∃ a dx fvs,v=.ref a∧H a=some (.ins (He.ga K c) dx fvs)∧RepF K M fs fvs:=by
  cases x with
  | im d=>
    cases d with
    | obj c' fs'=>
      cases e
      simp only [RepX,Rep] at r
      obtain ⟨a,dx,fvs,h1,h2,h3⟩:=r
      exact ⟨a,dx,fvs,h1,hh.ex _ _ h2,h3⟩
    | _=>cases e
  | ow o=>cases e
  | sl i=>
    obtain ⟨⟨p,o,q1⟩,q2⟩:=r
    have e':(match env[i]? with
      | some (.ow _ (.ob c fs))=>some (c,fs)
      | _=>none)=some (c,fs):=e
    rw [q1] at e'
    cases o with
    | ob c' fs'=>
      cases e'
      obtain ⟨l,q3,a,_⟩:=hh.slot i _ q1
      rw [q2] at q3
      cases q3
      obtain ⟨dx,fvs,h1,h2⟩:=a
      exact ⟨l,dx,fvs,rfl,h1,h2⟩
    | _=>cases e'
theorem aoO {c:Str} {fs:List (Str×D)} (e:recvX env x=some (c,fs)):NewX H x v:=fun o z=>by
  subst z
  cases e
theorem ajJ {n:Str}:∀ {xs:List (Str×D)} {vs:List (Str×V)},RepF K M xs vs→xs.lookup n=none→vs.lookup n=none
  | [],vs,h,e=>by
    simp only [RepF] at h
    subst h
    rfl
  | (k,x) :: xs,vs,h,e=>by
    simp only [RepF] at h
    obtain ⟨v,r,rfl,h1,h2⟩:=h
    rw [List.lookup_cons] at e ⊢
    cases q:(n == k) with
    | true=>
      rw [q] at e
      cases e
    | false=>
      rw [q] at e
      exact ajJ h2 e
structure CxIs (X:Cx) (K:Fg) (P:Program) (w:World) (mg:Str→Option Value) (base:Heap):Prop where
  hK:X.K=K
  hP:X.prog=P
  hw:X.w=w
  hmg:X.mg=mg
  hb:X.base=base
def tMethF (K:Fg) [WD K] (tab:Str→Option (Ev→RE X)) (m:Str) (E:L2.St→XK) (ta:TE) (t:TA):TE:=fun σ H Q=>ta σ H fun x H1=>∃ a dx fs c den,x=.ref a∧H1 a=some (.ins (He.ga K c) dx fs)∧tab c=some den∧fs.lookup m=none∧t σ H1 fun vs H2=>spD K den (x :: vs) H2 Q (E σ)
theorem acL {tab:Str→Option (Ev→RE X)} {n:Str} {te:TE} {de:Ev→RE X} {ta:TA} {da:Ev→RE (List X)} (ht:∀ c den,tab c=some den→NoSl den) (h:DE K W te de) (ha:DA K W ta da):DE K W (tMethF K tab n W te ta) (dMethF tab n de da):=fun M σ H env hh=>by
  refine Sat.bind (c:=fun x H1 Q=>∃ a dx fs c den,x=V.ref a∧H1 a=some (.ins (He.ga K c) dx fs)∧tab c=some den∧fs.lookup n=none∧ta σ H1 fun vs H2=>spD K den (x :: vs) H2 Q (W σ)) V2 hh (h M σ H env hh) (fun Q q=>q) fun M1 H1 env1 x v g1 s1 hh1 r1=>?_
  cases e1:recvX env1 x with
  | none=>trivial
  | some cf=>
    obtain ⟨c,fs⟩:=cf
    obtain ⟨a,dx,fvs,rfl,ea,rf⟩:=ai5 hh1 r1.1 e1
    show Sat K W M1 σ H1 env1 (match tab c with
      | none=>.bad
      | some den=>if (fs.lookup n).isNone=true then (da env1).bind fun xs e2=>callD den (x :: xs) e2 else .bad) (RX K σ) _
    cases e2:tab c with
    | none=>trivial
    | some den=>
      by_cases hn:(fs.lookup n).isNone=true
      · show Sat K W M1 σ H1 env1 (if (fs.lookup n).isNone=true then (da env1).bind fun xs e2=>callD den (x :: xs) e2 else .bad) (RX K σ) _
        rw [if_pos hn]
        refine Sat.bindG (c:=fun vs H2 Q=>spD K den (.ref a :: vs) H2 Q (W σ)) (ha M1 σ H1 env1 hh1) (fun Q q=>⟨a,dx,fvs,c,den,rfl,ea,e2,ajJ rf (Option.isNone_iff_eq_none.mp hn),q⟩) fun M2 H2 env2 xs vs g2 s2 hh2 r2=>?_
        refine an0 fun Q k=>?_
        exact aoN (ht c den e2) hh1 g2 s2 hh2 (xs:=x :: xs) (Paired.cons ⟨RepX.grow hh1 r1.1 g2 s2,aoO e1⟩ r2) k
      · show Sat K W M1 σ H1 env1 (if (fs.lookup n).isNone=true then (da env1).bind fun xs e2=>callD den (x :: xs) e2 else .bad) (RX K σ) _
        rw [if_neg hn]
        trivial
end
theorem akY {X:Cx} {CX:CXT} {k:Nat} {f:Addr} {sp:Sp} {E:XK} {Q:VK} {us:List Value} {vs:List V} {pins:List (Addr×Obj)} {σ:L2.St} {H:Hp} {s:Shared} (F:FnR X.prog X.w X.K X.mg X.base CX k f sp) (hr:Room k X.A) (hx:PassesAt CX X σ E) (I:Inv X pins σ H s) (r:Vals vs us) (h:sp vs H Q E):
    codeAny (model X.prog X.w) X.A (.call (.ref f) ⟨us,[]⟩) (fun r s'=>match r with | .ok (.ret v)=>EP X pins σ Q v s' | .ok _=>False | .error e=>X.xe e s') s:=by
  refine codeAny_mono (F X.A X.stack s H us vs Q E hr I.env0 r h) fun r s' hq=>?_
  cases r with
  | error e=>exact hx pins H s e s' I hq
  | ok fl=>
    cases fl with
    | ret u=>exact I.after hq
    | next=>exact False.elim hq
    | brk=>exact False.elim hq
    | cont=>exact False.elim hq
theorem an1 {P:Program} {w:World} {K:Fg} [WD K] {mg:Str→Option Value} {base:Heap} {CX:CXT} {k:Nat} {f:Addr} {fd:FuncData} {ps:List Str} {sp:Sp} (F:FnOk P w K mg base CX k f fd ps sp) (hb:Binds K fd ps []):FnR P w K mg base CX k f sp:=fun A outer s H us vs Q E hr e0 r hs=>by
  have KX:K.In s.heap:=e0.mod.kin.keeps fun b o e=>(e0.bs b o e).1
  have hl:us.length=ps.length:=by rw [← r.length]; exact F.len _ _ _ _ hs
  have b:=hb s us KX (by rw [List.append_nil]; exact hl)
  rw [List.append_nil] at b
  exact F.run A outer s H ⟨us,[]⟩ us vs Q E hr e0 b r hs
section
variable {X:Cx} {CX:CXT} {K:Fg} [WD K] {P:Program} {w:World} {mg:Str→Option Value} {base:Heap} {k:Nat} {tab:Str→Option (Ev→RE Dn.X)} {E:L2.St→XK} {m c:Str} {p pos apos:Pos} {e o:Expr} {es:List Expr} {ta:TE} {t:TA} {den:Ev→RE Dn.X}
theorem aoP {pl:Sem Bool} (cx:CxIs X K P w mg base) (ht:∀ c den,tab c=some den→MethF CX P w K mg base k c m den) (hr:Room k X.A) (hx:∀ σ,PassesAt CX X σ (E σ)) (he:PE X o ta) (ha:PA X (e :: es) t)
    (hst:starEach (e :: es) X.env=(false,eval e X.env) :: starEach es X.env:=by rfl) (hpl:(backTo pos (starEach es X.env)).any (·.1)=false:=by rfl)
    (hte:eval (.Call (.Attribute o m apos) (e :: es) [] pos) X.env=(do
      let ov ← eval o X.env
      standAt apos.atName
      let (f,first) ← holding [ov] (getMethod ov m pl)
      callWith pos f first (backTo pos (starEach (e :: es) X.env)) (backToKw pos (keywordEach [] X.env))):=by rfl):
    PE X (.Call (.Attribute o m apos) (e :: es) [] pos) (tMethF K tab m E ta t):=by
  obtain ⟨rfl,rfl,rfl,rfl,rfl⟩:=cx
  refine ⟨fun pins s σ H Q I h=>?_⟩
  refine PySem.W.methodCall_KW (pl:=pl) (thn (he.run pins s σ H _ I h) fun u s1 ⟨x,H1,I1,rx,a,dx,fs,c,den,ex,ea,et,l,q⟩=>?_) hte
  subst ex
  obtain rfl:u=Value.ref a:=rx
  obtain ⟨f,c1,hm,F,_⟩:=ht c den et
  refine getmeth_ok I1 ea c1 hm l ?_
  refine PySem.W.callWith_K (first:=[.ref a]) (h₀:=X.base) I.ok.mod.kin hm.kp (thn (ha.run pos pins s1 σ H1 _ I1 q) fun us s2 ⟨vs,H2,I2,r,q2⟩=>⟨I2.kIn,?_⟩) hst hpl
  exact wpAny_call (akY (us:=.ref a :: us) (vs:=.ref a :: vs) F hr (hx σ) I2 (.cons rfl r) q2)
theorem aeK {pl:Sem Bool} (cx:CxIs X K P w mg base) (ht:∀ c den,tab c=some den→MethF CX P w K mg base k c m den) (hr:Room k X.A) (hx:∀ σ,PassesAt CX X σ (E σ)) (he:PE X o ta)
    (hte:eval (.Call (.Attribute o m apos) [] [] pos) X.env=(do
      let ov ← eval o X.env
      standAt apos.atName
      let (f,first) ← holding [ov] (getMethod ov m pl)
      callWith pos f first (backTo pos (starEach [] X.env)) (backToKw pos (keywordEach [] X.env))):=by rfl):
    PE X (.Call (.Attribute o m apos) [] [] pos) (tMethF K tab m E ta tNil):=by
  obtain ⟨rfl,rfl,rfl,rfl,rfl⟩:=cx
  refine ⟨fun pins s σ H Q I h=>?_⟩
  refine PySem.W.methodCall_KW (pl:=pl) (thn (he.run pins s σ H _ I h) fun u s1 ⟨x,H1,I1,rx,a,dx,fs,c,den,ex,ea,et,l,q⟩=>?_) hte
  subst ex
  obtain rfl:u=Value.ref a:=rx
  obtain ⟨f,c1,hm,F,_⟩:=ht c den et
  refine getmeth_ok I1 ea c1 hm l ?_
  exact PySem.W.callWith_K0 (first:=[.ref a]) I1.kIn hm.kp (wpAny_call (akY (us:=[.ref a]) (vs:=[.ref a]) F hr (hx σ) I1 (.cons rfl .nil) q))
def MkF (CX:CXT) (P:Program) (w:World) (K:Fg) [WD K] (mg:Str→Option Value) (base:Heap) (k:Nat) (c:Str) (den:Ev→RE Dn.X):Prop:=
  ∃ f,Mk K (He.ga K c) f∧mg c=some (.ref (He.ga K c))∧FnR P w K mg base CX k f (spD K den)∧NoSl den
def tMakeF (K:Fg) [WD K] (c:Str) (den:Ev→RE Dn.X) (E:L2.St→XK) (t:TA):TE:=fun σ H Q=>t σ H fun vs H1=>∀ x dx,H1 x=none→H1 dx=none→dx≠x→
  spD K den (V.ref x :: vs) (upd (upd H1 dx (.own x)) x (.ins (He.ga K c) dx [])) (fun v H2=>v=.non∧Q (.ref x) H2) (E σ)
theorem an2 {C f:Addr} {sp:Sp} {σ:L2.St} {pins:List (Addr×Obj)} {H:Hp} {s:Shared} {Q:VK} {us:List Value} {vs:List V} (M:Mk X.K C f) (F:FnR X.prog X.w X.K X.mg X.base CX k f sp) (hr:Room (k+1) X.A)
    (hx:PassesAt CX X σ (E σ)) (I:Inv X pins σ H s) (r:Vals vs us)
    (h:∀ x dx,H x=none→H dx=none→dx≠x→sp (.ref x :: vs) (upd (upd H dx (.own x)) x (.ins C dx [])) (fun v H2=>v=.non∧Q (.ref x) H2) (E σ)):
    wpAny (model X.prog X.w) X.A (call (.ref C) us) (EP X pins σ Q) X.xe s:=by
  have hq:=h (s.heap.objs.size+1) s.heap.objs.size (I.hok.fresh (Nat.le_succ _)) (I.hok.fresh (Nat.le_refl _)) (Nat.ne_of_lt (Nat.lt_succ_self _))
  have I2:=Inv.made (C:=C) I
  have r2:Vals (V.ref (s.heap.objs.size+1) :: vs) (Value.ref (s.heap.objs.size+1) :: us):=.cons rfl r
  refine wpAny_call (make_map (f:=f) I.kIn M.makes M.init (beq_iff_eq.mp M.fn) (codeAny_mono (F _ X.stack _ _ (Value.ref (s.heap.objs.size+1) :: us) _ _ (E σ) (hr.make C us []) (I2.env0.make C us []) r2 hq) fun r s' hq'=>?_))
  cases r with
  | error e=>exact hx pins _ _ e s' I2 hq'
  | ok fl=>
    cases fl with
    | ret u=>
      obtain ⟨v,H',I3,rv,ev,q3⟩:=I2.after hq'
      subst ev
      exact ⟨rv,⟨V.ref (s.heap.objs.size+1),H',I3,rfl,q3⟩⟩
    | next=>exact False.elim hq'
    | brk=>exact False.elim hq'
    | cont=>exact False.elim hq'
theorem aoQ (cx:CxIs X K P w mg base) (hm:MkF CX P w K mg base k c den) (hr:Room (k+1) X.A) (hg:Gl X c) (hx:∀ σ,PassesAt CX X σ (E σ)) (ha:PA X (e :: es) t)
    (hdb:(c == ("__debug__":Str))=false:=by decide) (he:starEach (e :: es) X.env=(false,eval e X.env) :: starEach es X.env:=by rfl) (hpl:(backTo pos (starEach es X.env)).any (·.1)=false:=by rfl):
    PE X (.Call (.Name c p) (e :: es) [] pos) (tMakeF K c den E t):=by
  obtain ⟨rfl,rfl,rfl,rfl,rfl⟩:=cx
  obtain ⟨f,M,hmg,F,_⟩:=hm
  refine ⟨fun pins s σ H Q I h=>?_⟩
  refine wpAny_Call_Name_kw (ld_glob I hg hmg ?_ hdb)
  refine PySem.W.callWith_K (h₀:=X.base) I.ok.mod.kin M.kp (thn (ha.run pos pins s σ H _ I h) fun us s1 ⟨vs,H1,I1,r,q⟩=>⟨I1.kIn,?_⟩) he hpl
  exact an2 M F hr (hx σ) I1 r q
end
def makeD (c:Str) (m:Ev→RE X) (xs:List X) (env:Ev):RE X:=match passXs env xs with
  | none=>.bad
  | some ps=>if (slots xs).Nodup∧temps xs=0 then match m (.ow true (.ob c []) :: ps) with
      | .ok (.im .non) (.ow true o :: ps')=>.ok (.ow o) (wb xs ps' env)
      | .exc e (_ :: ps')=>.exc e (wb xs ps' env)
      | _=>.bad
    else .bad
section
variable {K:Fg} [WD K] {W:WS} {E:XK} {M M' M1 M2:Hp} {env env' env1 env2:Ev} {σ σ' σ1:L2.St} {H H' H1 H2:Hp} {x y:X} {v u:V} {xs:List X} {vs:List V} {m:Ev→RE X} {Q:VK} {c:Str}
theorem aoR (hh:Holds K M env σ H) (g:Grow M env σ H M1 env1 σ H1) (s:Shape env env1) (hh1:Holds K M1 env1 σ H1) (r:RA K σ H M1 H1 env1 xs vs) (k:KX K E M σ H env Q (makeD c m xs env1))
    (a dx:Addr) (ha:H1 a=none) (hd:H1 dx=none) (ne:dx≠a):spD K m (V.ref a :: vs) (upd (upd H1 dx (.own a)) a (.ins (He.ga K c) dx [])) (fun v H2=>v=.non∧Q (.ref a) H2) E:=by
  have same:Same H1 (upd (upd H1 dx (.own a)) a (.ins (He.ga K c) dx [])):=fun b o e=>by
    rw [upd_ne (ne_of_none e ha),upd_ne (ne_of_none e hd)]
    exact e
  have ex:Ext M1 H1 M1 (upd (upd H1 dx (.own a)) a (.ins (He.ga K c) dx [])):=⟨Same.refl M1,same,fun l o e=>.inl e,fun l o e=>same _ _ (hh1.ex _ _ e)⟩
  have g':=g.trans hh (ex.grow hh1)
  have hh1':=ex.holds hh1
  have noown:¬ Own env1 σ a:=fun z=>by
    obtain ⟨u,q⟩:=hh1.ownSome z
    rw [ha] at q
    cases q
  have ma:M1 a=none:=by
    cases q:M1 a with
    | none=>rfl
    | some o=>
      have:=hh1.ex _ _ q
      rw [ha] at this
      cases this
  have r':RA K σ H M1 (upd (upd H1 dx (.own a)) a (.ins (He.ga K c) dx [])) env1 (X.ow (.ob c []) :: xs) (V.ref a :: vs):=by
    refine Paired.cons ⟨⟨a,rfl,⟨dx,[],upd_same,by simp [RepF]⟩,ma,noown⟩,fun o z l e=>?_⟩ (Paired.imp1 (fun x v q=>⟨RepX.grow hh1 q.1 (ex.grow hh1) (.refl _),q.2⟩) r)
    cases e
    exact g.dom a ha
  unfold makeD at k
  cases e2:passXs env1 xs with
  | none=>rw [e2] at k; exact k.elim
  | some ps=>
    rw [e2] at k
    by_cases nd:(slots xs).Nodup∧temps xs=0
    · have k:KX K E M σ H env Q (if (slots xs).Nodup∧temps xs=0 then match m (.ow true (.ob c []) :: ps) with
        | .ok (.im .non) (.ow true o :: ps')=>.ok (.ow o) (wb xs ps' env1)
        | .exc e (_ :: ps')=>.exc e (wb xs ps' env1)
        | _=>.bad
      else .bad):=k
      rw [if_pos nd] at k
      have e2':passXs env1 (X.ow (.ob c []) :: xs)=some (.ow true (.ob c []) :: ps):=by
        show ((passX env1 (X.ow (.ob c []))).bind fun s=>(passXs env1 xs).bind fun ss=>some (s :: ss))=_
        rw [e2]
        rfl
      have nd1:(slots (X.ow (.ob c []) :: xs)).Nodup:=nd.1
      have nt1:temps (X.ow (.ob c []) :: xs)≤1:=by
        show temps xs+1≤1
        omega
      refine ⟨_,_,call_in hh g' hh1' r' e2' nd1 nt1,?_⟩
      cases e3:m (.ow true (.ob c []) :: ps) with
      | bad=>rw [e3] at k; exact k.elim
      | ok y ps'=>
        rw [e3] at k
        intro v M2 H2 g2 s2 hh2 ry
        have hlen:ps'.length=ps.length+1:=by
          have:=congrArg List.length (show ps'.map Sl.kind=_ from s2)
          simpa using this
        cases ps' with
        | nil=>simp at hlen
        | cons s0 ps'=>
          obtain ⟨a1,a2,a3,a4⟩:=ade hh g' s hh1' r' e2' nd1 g2 s2 hh2
          have k2:∀ o,y=.im .non→s0=.ow true o→v=.non∧Q (.ref a) H2:=fun o ey e0=>by
            subst ey e0
            refine ⟨by simpa [RepX,Rep] using ry.1,?_⟩
            obtain ⟨l,q1,q2,q3⟩:=hh2.slot 0 _ rfl
            cases q1
            refine k _ M2 H2 a1 a2 a3 ⟨⟨a,rfl,q2,q3,fun z=>?_⟩,fun o' z l e=>?_⟩
            · exact noown (abX (Eq.trans (show Shape env (wb xs ps' env1) from a2) (Eq.symm s)) z)
            · cases e
              exact g.dom a ha
          cases y with
          | im d=>
            cases d with
            | non=>
              cases s0 with
              | ow p o=>
                cases p with
                | true=>exact k2 o rfl rfl
                | false=>exact k.elim
              | _=>exact k.elim
            | _=>exact k.elim
          | _=>exact k.elim
      | exc x ps'=>
        rw [e3] at k
        intro cls dd M2 H2 g2 s2 hh2 ry
        have hlen:ps'.length=ps.length+1:=by
          have:=congrArg List.length (show ps'.map Sl.kind=_ from s2)
          simpa using this
        cases ps' with
        | nil=>simp at hlen
        | cons s0 ps'=>
          obtain ⟨a1,a2,a3,a4⟩:=ade hh g' s hh1' r' e2' nd1 g2 s2 hh2
          exact k cls dd M2 H2 a1 a2 a3 ry
    · have k:KX K E M σ H env Q (if (slots xs).Nodup∧temps xs=0 then match m (.ow true (.ob c []) :: ps) with
        | .ok (.im .non) (.ow true o :: ps')=>.ok (.ow o) (wb xs ps' env1)
        | .exc e (_ :: ps')=>.exc e (wb xs ps' env1)
        | _=>.bad
      else .bad):=k
      rw [if_neg nd] at k
      exact k.elim
def akZ (c:Str) (m:Ev→RE X) (da:Ev→RE (List X)):Ev→RE X:=fun env=>(da env).bind (makeD c m)
theorem aoS {ta:TA} {da:Ev→RE (List X)} (ha:DA K W ta da):DE K W (tMakeF K c m W ta) (akZ c m da):=fun M σ H env hh=>by
  refine Sat.bindG (c:=fun vs H1 Q=>∀ a dx,H1 a=none→H1 dx=none→dx≠a→spD K m (V.ref a :: vs) (upd (upd H1 dx (.own a)) a (.ins (He.ga K c) dx [])) (fun v H2=>v=.non∧Q (.ref a) H2) (W σ)) (ha M σ H env hh) (fun Q q=>q) fun M1 H1 env1 xs vs g1 s1 hh1 r1=>?_
  exact an0 fun Q k a dx h1 h2 h3=>aoR hh g1 s1 hh1 r1 k a dx h1 h2 h3
end
end Dn
namespace Dn
open PySem PySem.Spec PyProof.Rows L2 NdefX
section
variable {K:Fg} [WD K] {W:WS} {E:XK} {M M' M1 M2:Hp} {env env' env1 env2:Ev} {σ σ' σ1:L2.St} {H H' H1 H2:Hp} {x y:X} {v u:V} {xs:List X} {vs:List V} {m:Ev→RE X} {Q:VK} {te tv:TE} {de dv:Ev→RE X} {T:List Str}
theorem apO {c:Str} {fs:List (Str×D)} (hh:Holds K M env σ H) (r:RepX K M H env σ x v) (e:rcvA env x=some (c,fs)):∃ a dx fvs,v=.ref a∧H a=some (.ins (He.ga K c) dx fvs)∧RepF K M fs fvs:=by
  cases x with
  | im d=>exact ai5 hh r e
  | sl i=>exact ai5 hh r e
  | ow o=>
    cases o with
    | ob c' fs'=>
      cases e
      obtain ⟨l,rfl,⟨dx,fvs,h1,h2⟩,_⟩:=r
      exact ⟨l,dx,fvs,rfl,h1,h2⟩
    | _=>cases e
def FldT (K:Fg) (T:List Str) (f:Str):Prop:=∀ c∈T,Cls K (He.ga K c)∧NoAttr K (He.ga K c) f
theorem aea {f:Str} (hT:FldT K T f) (h:DE K W te de):DE K W (tFld K te f) (ad2 T f de):=fun M σ H env hh=>by
  refine Sat.bind (c:=fun x H1 Q=>∃ a C dx fs v,x=V.ref a∧H1 a=some (.ins C dx fs)∧Cls K C∧NoAttr K C f∧fs.lookup f=some v∧Q v H1) V2 hh (h M σ H env hh) (fun Q q=>q) fun M1 H1 env1 x v g1 s1 hh1 r1=>?_
  cases e1:rcvA env1 x with
  | none=>trivial
  | some cf=>
    obtain ⟨c,fs⟩:=cf
    obtain ⟨a,dx,fvs,rfl,ea,rf⟩:=apO hh1 r1.1 e1
    show Sat K W M1 σ H1 env1 (if c∈T then (match fs.lookup f with
      | some d=>.ok (.im d) env1
      | none=>.bad) else .bad) (RX K σ) _
    by_cases hc:c∈T
    · rw [if_pos hc]
      cases e2:fs.lookup f with
      | none=>trivial
      | some d=>
        obtain ⟨v,h1,h2⟩:=aeX rf e2
        exact fun Q k=>⟨a,_,dx,fvs,v,rfl,ea,(hT c hc).1,(hT c hc).2,h1,k _ _ _ .refl (.refl _) hh1 (abQ h2)⟩
    · rw [if_neg hc]
      trivial
theorem ah4 {f:Str} {d:D} (hd:Rep K M d v):∀ {xs:List (Str×D)} {vs:List (Str×V)},RepF K M xs vs→RepF K M (putFD f d xs) (putF f v vs)
  | [],vs,h=>by
    simp only [RepF] at h
    subst h
    simp only [putFD,putF,RepF]
    exact ⟨v,[],rfl,hd,rfl⟩
  | (k,x) :: xs,vs,h=>by
    simp only [RepF] at h
    obtain ⟨u,r,rfl,h1,h2⟩:=h
    unfold putFD putF
    by_cases hk:k=f
    · rw [if_pos hk,if_pos hk]
      simp only [RepF]
      exact ⟨v,r,rfl,hd,h2⟩
    · rw [if_neg hk,if_neg hk]
      simp only [RepF]
      exact ⟨u,_,rfl,h1,ah4 hd h2⟩
theorem ah5:∀ {xs:List (Str×D)} {vs:List (Str×V)},RepF K M xs vs→xs.length=vs.length
  | [],vs,h=>by
    simp only [RepF] at h
    subst h
    rfl
  | (k,x) :: xs,vs,h=>by
    simp only [RepF] at h
    obtain ⟨u,r,rfl,h1,h2⟩:=h
    simp [ah5 h2]
def dSetF (T:List Str) (i:Nat) (f:Str) (de:Ev→RE X):Ev→RS:=fun env=>(de env).stm fun x e1=>match frz x,e1[i]? with
  | some d,some (.ow p (.ob c fs))=>if c∈T∧fs.length < 900 then .nx (e1.set i (.ow p (.ob c (putFD f d fs)))) else .bad
  | _,_=>.bad
theorem amK {i:Nat} {f:Str} (hT:FldT K T f) (h:DE K W te de):DS K W (sFld K (tVar i) te f) (dSetF T i f de):=fun M σ H env hh=>by
  refine Sat.stm (c:=fun y H1 D=>tVar i σ H1 fun x H2=>∃ a C dx fs,x=V.ref a∧H2 a=some (.ins C dx fs)∧Cls K C∧NoAttr K C f∧fs.length < 1000∧D.nx σ (upd H2 a (.ins C dx (putF f y fs)))) hh (h M σ H env hh) (fun D q=>q) fun M1 H1 env1 x v g1 s1 hh1 r1=>?_
  cases e1:frz x with
  | none=>trivial
  | some d=>
    cases e2:env1[i]? with
    | none=>trivial
    | some sl=>
      cases sl with
      | ow p o=>
        cases o with
        | ob c fs=>
          show SatS K W M σ H env (if c∈T∧fs.length < 900 then RS.nx (env1.set i (.ow p (.ob c (putFD f d fs)))) else .bad) _
          by_cases hc:c∈T∧fs.length < 900
          · rw [if_pos hc]
            intro D k
            have gz:=abq g1
            have hz:=aaU (H:=H) hh1
            have rd:=afj r1 e1
            obtain ⟨l,es,a0,m0⟩:=hz.slot i _ e2
            obtain ⟨dx,fvs,h1,h2⟩:=a0
            have az:At K (frzM M1 H H1 env1 σ) (upd H1 l (.ins (He.ga K c) dx (putF f v fvs))) l (.ob c (putFD f d fs)):=⟨dx,_,upd_same,ah4 rd h2⟩
            obtain ⟨w1,w2,w3⟩:=adJ hz e2 es az
            exact ⟨_,es,l,_,dx,fvs,rfl,h1,(hT c hc.1).1,(hT c hc.1).2,by have:=ah5 h2; omega,k σ _ _ (gz.trans hh w2) w1⟩
          · rw [if_neg hc]
            trivial
        | _=>trivial
      | _=>trivial
end
section
variable {X:Cx} {CX:CXT} {K:Fg} [WD K] {P:Program} {w:World} {mg:Str→Option Value} {base:Heap} {k:Nat} {tab:Str→Option (Ev→RE Dn.X)} {E:L2.St→XK} {m c f:Str} {p pos pos' apos:Pos} {e o value:Expr} {es:List Expr} {ta tv:TE} {t:TA} {den:Ev→RE Dn.X}
theorem aeb (cx:CxIs X K P w mg base) (he:PE X e ta) (hb:attributeBase e f X.env (eval e X.env)=eval e X.env:=by rfl):PE X (.Attribute e f pos) (tFld K ta f):=by
  obtain ⟨rfl,rfl,rfl,rfl,rfl⟩:=cx
  exact pe_fld he hb
theorem amL (cx:CxIs X K P w mg base) (ha:PE X o ta) (hv:PE X value tv) (hs:swapsWith value (some (.Attribute o f pos')) pos.line X.env=pure false:=by rfl):PS X (.Assign [.Attribute o f pos'] value pos) (sFld K ta tv f):=by
  obtain ⟨rfl,rfl,rfl,rfl,rfl⟩:=cx
  exact ps_fld ha hv hs
end
end Dn
namespace PySem.W
open PySem PySem.Spec PySem.Calls PyProof.Rows
end PySem.W
namespace Dn
open PySem PySem.Spec PyProof.Rows L2 NdefX
abbrev R2S:=L2.St→R2
def OpRS (X:Cx) (f:Value→Value→Sem Value) (r:R2S):Prop:=
  ∀ (pins:List (Addr×Obj)) (s:Shared) (σ:L2.St) (H:Hp) (x y:V) (v u:Value) (Q:VK),Inv X pins σ H s→RelV x v→RelV y u→r σ x y H Q→wpAny (model X.prog X.w) X.A (f v u) (EP X pins σ Q) X.xe s
theorem OpRS.of {X:Cx} {f:Value→Value→Sem Value} {r:R2} (h:OpR X f r):OpRS X f (fun _=>r):=fun pins s σ H x y v u Q I rx ry q=>h pins s σ H x y v u Q I rx ry q
theorem OpRS.or {X:Cx} {f:Value→Value→Sem Value} {r r':R2S} (h:OpRS X f r) (h':OpRS X f r'):OpRS X f (fun σ x y H Q=>r σ x y H Q∨r' σ x y H Q):=fun pins s σ H x y v u Q I rx ry q=>by
  rcases q with q | q
  · exact h pins s σ H x y v u Q I rx ry q
  · exact h' pins s σ H x y v u Q I rx ry q
end Dn
namespace Dn
open PySem PySem.Spec PyProof.Rows L2 NdefX
section
variable {P:Program} {w:World} {K:Fg} [WD K] {mg:Str→Option Value} {base:Heap} {X:Cx}
theorem an3 {name qual:Str} {ps N:List Str} {k n nn:Nat} {st:Stmt} {f:Addr} {ds:Ev→RS} (F:∃ fd,FunD K name qual (defArgs st) (defBody st) (defScope st) [] [] f fd) (S:FnScope N ps (defScope st)) (hn:ps.length=n) (hN:N.length=nn)
    (b:∀ (kV doc pm:Value) (an:Option Addr) (cdv ct:Value) (us:List Value),us.length=ps.length→bindArgs (PySem.W.fnOf name qual (defArgs st) (defBody st) (defScope st) .none kV doc pm an cdv ct) ⟨us,[]⟩=pure (ps.zip us))
    (h:∀ (cdv:Value) (A:Around) (outer:List Env) (s:Shared) (H:Hp) (E:XK),Room k (A.deeper (envOfC qual (defScope st) s.heap.objs.size f cdv))→
      ∃ t,PSs (cxOf CX0 P w K mg base N qual (defScope st) f cdv A outer s H E).nox (defBody st) t∧DS K (fun _=>E) t ds):FnR P w K mg base CX0 (k+1) f (spD K (fnM nn n ds)):=by
  subst hn hN
  obtain ⟨fd,F⟩:=F
  refine an1 (F.ok S (fun vs H Q E h=>afn h) fun cdv A outer s H vs Q E hr hs=>?_) (F.bindsN b)
  obtain ⟨t,h1,h2⟩:=h cdv A outer s H E hr
  exact ⟨t,PSs.nox h1,afm h2 hs⟩
theorem apP {name qual:Str} {ps N:List Str} {k:Nat} {st:Stmt} {f:Addr} {CX:CXT} (F:∃ fd,FunD K name qual (defArgs st) (defBody st) (defScope st) [] [] f fd) (S:FnScope N ps (defScope st))
    (b:∀ (kV doc pm:Value) (an:Option Addr) (cdv ct:Value) (us:List Value),us.length=ps.length→bindArgs (PySem.W.fnOf name qual (defArgs st) (defBody st) (defScope st) .none kV doc pm an cdv ct) ⟨us,[]⟩=pure (ps.zip us)):FnR P w K mg base CX (k+1) f (spD K (fun _=>.bad)):=by
  obtain ⟨fd,F⟩:=F
  refine an1 (F.ok S (fun vs H Q E h=>?_) fun cdv A outer s H vs Q E hr hs=>?_) (F.bindsN b)
  · obtain ⟨M,ps,_,z⟩:=h
    exact z.elim
  · obtain ⟨M,ps,_,z⟩:=hs
    exact z.elim
end
end Dn
namespace Dn
open PySem PySem.Spec PyProof.Rows L2 NdefX StX
end Dn
namespace Dn
open PySem PySem.Spec PyProof.Rows L2 NdefX
end Dn
namespace Dn
open PySem PySem.Spec PyProof.Rows L2 NdefX
end Dn
namespace Dn
open PySem PySem.Spec PyProof.Rows L2 NdefX
theorem passN0 {X:Cx} {E:L2.St→XK}:∀ σ,PassesAt CX0 X σ (E σ):=fun _ _ _ _ _ _ _ h=>h.elim
theorem ah6 {CX:CXT} {P:Program} {w:World} {K:Fg} [WD K] {mg:Str→Option Value} {base:Heap} {k:Nat} {c m:Str} {den:Ev→RE X} (c1:Cls K (He.ga K c)) (m1:Meth K (He.ga K c) m (He.ma K (He.ga K c) m)) (F:FnR P w K mg base CX k (He.ma K (He.ga K c) m) (spD K den)) (n:NoSl den):MethF CX P w K mg base k c m den:=⟨_,c1,m1,F,n⟩
theorem aqH {CX:CXT} {P:Program} {w:World} {K:Fg} [WD K] {mg:Str→Option Value} {base:Heap} {k:Nat} {c:Str} {den:Ev→RE X} (m1:Mk K (He.ga K c) (He.ma K (He.ga K c) "__init__")) (g:mg c=some (.ref (He.ga K c))) (F:FnR P w K mg base CX k (He.ma K (He.ga K c) "__init__") (spD K den)) (n:NoSl den):MkF CX P w K mg base k c den:=⟨_,m1,g,F,n⟩
theorem amM {K:Fg} [WD K] {f:Str} {T:List Str} (h:fldB K f T=true):FldT K T f:=fun c hc=>by
  obtain ⟨h1,h2⟩:=He.ba (List.all_eq_true.mp h c hc)
  exact ⟨He.cls_ok h1,show PySem.W.findIn K (.ref (He.ga K c)) f=some none from of_decide_eq_true h2⟩
end Dn
namespace Dn
open PySem PySem.Spec PyProof.Rows L2
end Dn
namespace Dn
open PySem PySem.Spec PyProof.Rows L2
def pRevL:D→Option X
  | .lst xs=>some (.ow (.lst xs.reverse))
  | _=>none
theorem apQ {K:Fg} [WD K] {W:WS} {te:TE} {de:Ev→RE X} (h:DE K W te de):DE K W (tRevL K te) (dUn pRevL de):=by
  refine apl (r:=fun x H1 Q=>∃ a xs,x=V.ref a∧SqL K H1 a xs∧∀ p,H1 p=none→Q (.ref p) (upd H1 p (.lst xs.reverse))) ?_ h
  intro M H dx x v e hx hf Q q
  unfold pRevL at hf
  split at hf
  · cases hf
    obtain ⟨a,vs,rfl,h1,h2⟩:=hx.lst e
    exact ⟨a,vs,rfl,SqL.of h1,fun p n=>q.lst e h2.reverse n⟩
  · cases hf
end Dn
namespace Dn
open PySem PySem.Spec PyProof.Rows L2
end Dn
namespace Dn
open PySem PySem.Spec PyProof.Rows L2
end Dn
namespace Dn
open PySem PySem.Spec PyProof.Rows L2
end Dn
namespace Dn
open PySem PySem.Spec PyProof.Rows L2
end Dn
namespace Dn
open PySem PySem.Spec PyProof.Rows L2
end Dn
namespace Dn
open PySem PySem.Spec PyProof.Rows L2
def KeysAt (K:Fg) (H:Hp) (xs:List (List Key×Addr×Value)):Prop:=∀ x∈xs,SqN K H x.2.1 (x.1.map kV)
def DG1 (K:Fg) [WD K] (H:Hp) (a:Addr) (y:V) (r:Option V):Prop:=
  (∃ o vs k,H a=some (obO a o)∧DkF K a o vs∧y=kV k∧RelO r (valueAt vs k))∨
  ∃ o xs k b,H a=some (obO a o)∧DtF K a o xs∧KeysAt K H xs∧y=.ref b∧SqN K H b (k.map kV)∧RelO r ((atKey xs k).map (·.2))
def rInD (K:Fg) [WD K] (neg:Bool):R2:=fun y x H Q=>∃ a ov,x=.ref a∧DG1 K H a y ov∧Q (.bl (ov.isSome !=neg)) H
end Dn
namespace Dn
open PySem PySem.Spec PyProof.Rows L2
end Dn
namespace Dn
open PySem PySem.Spec PyProof.Rows L2
end Dn
namespace Dn
open PySem PySem.Spec PyProof.Rows L2
end Dn
namespace Dn
open PySem PySem.Spec PyProof.Rows L2
end Dn
namespace Dn
open PySem PySem.Spec PyProof.Rows L2
end Dn
namespace Dn
open PySem PySem.Spec PyProof.Rows L2
end Dn
namespace Dn
open PySem PySem.Spec PyProof.Rows L2
end Dn
namespace Dn
open PySem PySem.Spec PyProof.Rows L2
end Dn
namespace Dn
open PySem PySem.Spec PyProof.Rows L2 NdefX
end Dn
namespace Dn
open PySem PySem.Spec PyProof.Rows L2
end Dn
namespace Dn
open PySem PySem.Spec PyProof.Rows L2
end Dn
namespace Dn
open PySem PySem.Spec PyProof.Rows L2
def Ends (r:RS):Prop:=∃ e,r=.rt (.im (.bl true)) e
end Dn
namespace PySem.W
open PySem PySem.Spec PySem.Calls PyProof.Rows
end PySem.W
namespace Dn
open PySem PySem.Spec PyProof.Rows L2 NdefX
end Dn
namespace Dn
open PySem PySem.Spec PyProof.Rows L2
section
variable {K:Fg} [WD K] {W:WS} {M M1:Hp} {env env1 env2:Ev} {σ σ1:L2.St} {H H1:Hp}
theorem aru {i:Nat} (hh:Holds K M env σ H) (e:unSl i env=some env1):Holds K M env1 σ H∧Grow M env σ H M env1 σ H:=by
  unfold unSl at e
  cases hs:env[i]? with
  | none=>rw [hs] at e; cases e
  | some s=>
    rw [hs] at e
    have e2:env1=env.set i .no∧s.pinned=false:=by
      cases s with
      | no=>cases e; exact ⟨rfl,rfl⟩
      | im d=>cases e; exact ⟨rfl,rfl⟩
      | hid=>cases e
      | ow p o=>cases p with
        | true=>cases e
        | false=>cases e; exact ⟨rfl,rfl⟩
    obtain ⟨rfl,hp⟩:=e2
    have hi:i < env.length:=(List.getElem?_eq_some_iff.mp hs).1
    have get:∀ j s',(env.set i Sl.no)[j]?=some s'→(j=i∧s'=.no)∨(j≠i∧env[j]?=some s'):=fun j s' h=>by
      by_cases c:j=i
      · subst c
        rw [List.getElem?_set_self hi] at h
        cases h
        exact .inl ⟨rfl,rfl⟩
      · rw [List.getElem?_set_ne (fun z=>c z.symm)] at h
        exact .inr ⟨c,h⟩
    refine ⟨⟨hh.ex,by rw [List.length_set]; exact hh.len,fun j s' h=>?_,fun j k l p o p' o' hjk h1 h2 h3 h4=>?_⟩,⟨Same.refl M,fun l o h n=>h,fun l o h=>.inl h,fun l h=>?_,fun j s' h hp'=>⟨rfl,s',?_,rfl⟩,fun l h=>h,List.length_set⟩⟩
    · rcases get j s' h with ⟨rfl,rfl⟩ | ⟨_,h⟩
      · trivial
      · exact hh.slot j s' h
    · rcases get j _ h1 with ⟨_,q⟩ | ⟨_,h1⟩
      · cases q
      · rcases get k _ h2 with ⟨_,q⟩ | ⟨_,h2⟩
        · cases q
        · exact hh.dj j k l p o p' o' hjk h1 h2 h3 h4
    · obtain ⟨j,p,o,h1,h2⟩:=h
      rcases get j _ h1 with ⟨_,q⟩ | ⟨_,h1⟩
      · cases q
      · exact .inl ⟨j,p,o,h1,h2⟩
    · have:j≠i:=fun q=>by
        subst q
        rw [hs] at h
        cases h
        rw [hp] at hp'
        cases hp'
      rw [List.getElem?_set_ne (fun z=>this z.symm)]
      exact h
theorem ais:∀ (is:List Nat) {env env1:Ev},Holds K M env σ H→wps is env=some env1→Holds K M env1 σ H∧Grow M env σ H M env1 σ H
  | [],env,env1,hh,e=>by cases e; exact ⟨hh,.refl⟩
  | i :: is,env,env1,hh,e=>by
    unfold wps at e
    cases h:unSl i env with
    | none=>rw [h] at e; cases e
    | some e2=>
      rw [h] at e
      obtain ⟨h1,g1⟩:=aru hh h
      obtain ⟨h2,g2⟩:=ais is h1 e
      exact ⟨h2,g1.trans hh g2⟩
theorem acj {ts:TS} {ds:Ev→RS} {is:List Nat} (h:DS K W ts ds):DS K W ts (dWp is ds):=fun M σ H env hh=>by
  have:=h M σ H env hh
  unfold dWp
  cases hr:ds env with
  | nx e=>
    rw [hr] at this
    unfold RS.wp
    cases hw:wps is e with
    | none=>simp only [hw,optS]; trivial
    | some e2=>simp only [hw,optS]; exact fun D k=>this D fun σ' M' H' g h1=>(ais is h1 hw).elim fun h2 g2=>k σ' M' H' (g.trans hh g2) h2
  | bk e=>
    rw [hr] at this
    unfold RS.wp
    cases hw:wps is e with
    | none=>simp only [hw]; trivial
    | some e2=>simp only [hw]; exact fun D k=>this D fun σ' M' H' g h1=>(ais is h1 hw).elim fun h2 g2=>k σ' M' H' (g.trans hh g2) h2
  | ct e=>
    rw [hr] at this
    unfold RS.wp
    cases hw:wps is e with
    | none=>simp only [hw]; trivial
    | some e2=>simp only [hw]; exact fun D k=>this D fun σ' M' H' g h1=>(ais is h1 hw).elim fun h2 g2=>k σ' M' H' (g.trans hh g2) h2
  | rt x e=>rw [hr] at this; exact this
  | exc x e=>rw [hr] at this; exact this
  | bad=>trivial
end
end Dn
namespace Dn
open PySem PySem.Spec PyProof.Rows L2
end Dn
namespace Dn
open PySem PySem.Spec PyProof.Rows L2
end Dn
namespace Dn
open PySem PySem.Spec PyProof.Rows L2
end Dn
namespace Dn
open PySem PySem.Spec PyProof.Rows L2 NdefX
end Dn
namespace Dn
open PySem PySem.Spec PyProof.Rows L2
end Dn
namespace Dn
open PySem PySem.Spec PyProof.Rows L2
theorem aoT {ns:List Str} {n:Nat} {mf:Str} {fa:List He.Fa} {fn:List He.DefD} {fx:List Fx} {fs:List FnS} {g:Addr→Option Obj} {s:Shared} (h:∀ a,g a=s.heap.get? a):obsYG ns n mf fa fn fx fs g=(hookY ns n mf fa fn fx fs).obs s:=by
  have e:g=s.heap.get?:=funext h
  rw [e] <;> rfl
end Dn
namespace Dn
open PySem PySem.Spec PyProof.Rows L2
end Dn
namespace Dn
open PySem PySem.Spec PyProof.Rows L2
section
variable {K:Fg} [WD K] {W:WS}
def pFmt:D→Option X
  | .str y=>if fit y.length=true then some (.im (.str y)) else none
  | .int i=>if i.natAbs.log2 < 1920 then some (.im (.str (Str.ofString (toString i)))) else none
  | _=>none
def rFmt:V→Hp→VK→Prop:=fun x H Q=>(∃ y,x=V.str y∧y.length≤PySem.sizeLine∧Q (V.str y) H)∨∃ i,x=V.int i∧i.natAbs.log2 < 1920∧Q (V.str (PySem.Str.ofString (toString i))) H
theorem aqI:UnOk K rFmt pFmt:=by
  intro M H dx x v e r hf Q q
  unfold pFmt at hf
  split at hf
  · split at hf
    · rename_i hz
      cases hf
      rw [r.str]
      exact .inl ⟨_,rfl,(by have h9:=aae hz; rw [sizeLine_eq] at h9 ⊢; exact h9),q.im0 e aaA⟩
    · cases hf
  · split at hf
    · rename_i hz
      cases hf
      rw [r.int]
      exact .inr ⟨_,rfl,hz,q.im0 e aaA⟩
    · cases hf
  · cases hf
theorem agE {te:TE} {de:Ev→RE X} (h:DE K W te de):DE K W (tFmt te) (dUn pFmt de):=apl (r:=rFmt) aqI h
def pStrI:List D→Option X
  | [.int i]=>if i.natAbs.log2 < 1920 then some (.im (.str (Str.ofString (toString i)))) else none
  | _=>none
theorem ai6:CallOk K (fun xs H Q=>∃ i,xs=[V.int i]∧i.natAbs.log2 < 1920∧Q (V.str (PySem.Str.ofString (toString i))) H) pStrI:=by
  intro M H ds x vs e r hf Q q
  unfold pStrI at hf
  split at hf
  · split at hf
    · rename_i hz
      cases hf
      obtain ⟨v,rfl,h⟩:=aaI r
      rw [h.int]
      exact ⟨_,rfl,hz,q.im0 e aaA⟩
    · cases hf
  · cases hf
def dJn:Str→Ev→RE X:=fun acc env=>.ok (.im (.str acc)) env
def dJc (d:Ev→RE X) (r:Str→Ev→RE X):Str→Ev→RE X:=fun acc env=>(d env).bind fun x e1=>match rd e1 x with
  | some (.str y)=>if fit (acc.length+y.length)=true then r (acc++y) e1 else .bad
  | _=>.bad
def dJ0 (r:Str→Ev→RE X):Ev→RE X:=r Str.empty
def DJ (K:Fg) [WD K] (W:WS) (ts:List TE) (r:Str→Ev→RE X):Prop:=∀ acc,DE K W (fun σ H Q=>tJs ts acc σ H fun out H1=>Q (V.str out) H1) (r acc)
theorem aoU {α β:Type} {M:Hp} {σ:L2.St} {H:Hp} {env:Ev} {r:RE α} {R:Hp→Hp→Hp→Ev→α→β→Prop} {t t':(β→Hp→Prop)→Prop} (h:Sat K W M σ H env r R t) (ht:∀ Q,t Q→t' Q):Sat K W M σ H env r R t':=by
  cases r with
  | bad=>trivial
  | exc e env1=>exact fun Q k=>ht Q (h Q k)
  | ok x env1=>exact fun Q k=>ht Q (h Q k)
theorem an4:DJ K W [] dJn:=fun acc M σ H env hh=>by
  show Sat K W M σ H env (opt (some (.im (.str acc))) env) (RX K σ) _
  refine ad7 hh fun x e Q q=>?_
  cases e
  exact q.im0 hh.ex aaA
theorem abG {te:TE} {de:Ev→RE X} {ts:List TE} {r:Str→Ev→RE X} (h:DE K W te de) (hr:DJ K W ts r):DJ K W (te :: ts) (dJc de r):=fun acc M σ H env hh=>by
  unfold dJc
  refine Sat.bind (c:=fun v H1 Q=>∃ y,v=V.str y∧(acc++y).length≤PySem.sizeLine∧tJs ts (acc++y) σ H1 fun out H2=>Q (V.str out) H2) V2 hh (h M σ H env hh) (fun Q q=>q) fun M1 H1 env1 x v g1 s1 hh1 r1=>?_
  cases hx:rd env1 x with
  | none=>trivial
  | some d=>
    cases d with
    | str y=>
      dsimp only
      by_cases hz:fit (acc.length+y.length)=true
      · rw [if_pos hz]
        exact aoU (hr (acc++y) M1 σ H1 env1 hh1) fun Q q=>⟨y,(abP hh1 r1.1 hx).str,(by have h9:=aae hz; rw [Str.length_append,sizeLine_eq] at *; exact h9),q⟩
      · rw [if_neg hz]
        trivial
    | _=>trivial
theorem dj0 {ts:List TE} {r:Str→Ev→RE X} (h:DJ K W ts r):DE K W (fun σ H Q=>tJs ts Str.empty σ H fun out H1=>Q (V.str out) H1) (dJ0 r):=h Str.empty
end
end Dn
namespace Dn
open PySem PySem.Spec PyProof.Rows L2
end Dn
namespace Dn
open PySem PySem.Spec PyProof.Rows L2
abbrev rSplit:V→List V→Hp→VK→Prop:=fun x xs H Q=>∃ a b,x=.str a∧xs=[.str b]∧(b.length == 0)=false∧a.length+2≤sizeLine∧rNewStrs (Txt.split a b) H Q
section
variable {K:Fg} [WD K]
theorem ajK (K:Fg) [WD K] (M:Hp):∀ ys:List Str,Reps K M (ys.map D.str) (ys.map V.str)
  | []=>by simp [Reps]
  | y :: ys=>by
    simp only [List.map_cons,Reps]
    exact ⟨_,_,rfl,aaA (K:=K),ajK K M ys⟩
theorem afI:M1Ok K rSplit pSplit:=by
  intro M H dx dy x v u e hx hy hf Q q
  unfold pSplit at hf
  split at hf
  · split at hf
    · rename_i a b hz
      cases hf
      rw [hx.str,hy.str]
      exact ⟨a,b,rfl,rfl,hz.1,by have h9:=aae hz.2; rw [sizeLine_eq] at h9 ⊢; exact h9,fun p n=>q.lst e (ajK K M _) n⟩
    · cases hf
  · cases hf
theorem ai7:CallOk K (fun xs H Q=>∃ a n,xs=[.str a]∧PySem.intText? a=some n∧a.length≤640∧Q (.int n) H) pIntT:=by
  intro M H ds x vs e r hf Q q
  unfold pIntT at hf
  split at hf
  · split at hf
    · rename_i a hz
      obtain ⟨n,h1,rfl⟩:=Option.map_eq_some_iff.mp hf
      obtain ⟨v,rfl,h⟩:=aaI r
      rw [h.str]
      exact ⟨a,n,rfl,h1,hz,q.im0 e Y6⟩
    · cases hf
  · cases hf
end
end Dn
namespace Dn
open PySem PySem.Spec PyProof.Rows L2
end Dn
namespace Dn
open PySem PySem.Spec PyProof.Rows L2
end Dn
namespace Dn
open PySem PySem.Spec PyProof.Rows L2 NdefX StX
end Dn
namespace Dn
open PySem PySem.Spec PyProof.Rows L2 GenW
end Dn
namespace Dn
open PySem PySem.Spec PyProof.Rows L2 GenW
end Dn
namespace Dn
open PySem PySem.Spec PyProof.Rows L2 GenW
end Dn
namespace Dn
open PySem PySem.Spec PyProof.Rows L2 NdefX
end Dn
namespace Dn
open PySem PySem.Spec PyProof.Rows L2 NdefX
end Dn
namespace Dn
open PySem PySem.Spec PyProof.Rows L2
end Dn
namespace Dn
open PySem PySem.Spec PyProof.Rows L2
end Dn
namespace Dn
open PySem PySem.Spec PyProof.Rows L2
end Dn
namespace Dn
open PySem PySem.Spec PyProof.Rows L2 StX
section
variable {X:Cx} {pos p:Pos}
theorem ajL:∀ {xs:List V} {us:List Value} (k:Nat),Vals xs us→Vals (xs.drop k) (us.drop k)
  | _,_,0,h=>h
  | _,_,k+1,.nil=>.nil
  | _,_,k+1,.cons _ t=>ajL k t
theorem agF:∀ {xs:List V} {us:List Value} (k:Nat),Vals xs us→Vals (xs.take k) (us.take k)
  | _,_,0,_=>.nil
  | _,_,k+1,.nil=>.nil
  | _,_,k+1,.cons h t=>.cons h (agF k t)
end
section
variable {K:Fg} [WD K] {W:WS} {M M' M1 M2:Hp} {env env' env1 env2:Ev} {σ σ' σ1:L2.St} {H H' H1 H2:Hp} {x y:X} {v u:V} {te:TE} {de:Ev→RE X}
theorem apR (hh:Holds K M env σ H) {a:Addr} {vs:List V} (n:H a=none):Ext M H M (upd H a (.lst vs)):=by
  have same:Same H (upd H a (.lst vs)):=fun b o e=>by
    rw [upd_ne (ne_of_none e n)]
    exact e
  exact ⟨Same.refl M,same,fun l o e=>.inl e,fun l o e=>same _ _ (hh.ex _ _ e)⟩
theorem aqJ (hh:Holds K M env σ H) {a:Addr} (n:H a=none):M a=none:=by
  cases q:M a with
  | none=>rfl
  | some o=>
    have:=hh.ex _ _ q
    rw [n] at this
    cases this
theorem ahI {i:Nat} (g:Grow M env σ H M1 env1 σ1 H1) (hh:Holds K M1 env1 σ1 H1) (r:RX K σ1 H M1 H1 env1 x v) (e:setSl i x env1=some env'):
    Grow M env σ H M1 env' (σ1.set i (some v)) H1∧Holds K M1 env' (σ1.set i (some v)) H1:=by
  obtain ⟨h1,h2,h3,h4⟩:=akO hh r e
  refine ⟨⟨g.exM,g.fr,g.new,fun l z=>(h2 l z).elim (g.own l) .inr,fun j s q p=>?_,g.dom,h3.trans g.len⟩,h1⟩
  obtain ⟨e1,s1,e2,k1⟩:=g.pin j s q p
  obtain ⟨e3,s2,e4,k2⟩:=h4 j s1 e2 ((ahX k1).trans p)
  exact ⟨e3.trans e1,s2,e4,k2.trans k1⟩
end
end Dn
namespace Dn
open PySem PySem.Spec PyProof.Rows L2 StX
end Dn
namespace Dn
open PySem PySem.Spec PyProof.Rows L2 NdefX
end Dn
namespace Dn
open PySem PySem.Spec PyProof.Rows L2 NdefX
end Dn
namespace Dn
open PySem PySem.Spec PyProof.Rows L2 NdefX
end Dn
namespace Dn
open PySem PySem.Spec PyProof.Rows L2 NdefX
end Dn
namespace Dn
open PySem PySem.Spec PyProof.Rows L2
end Dn
namespace Dn
open PySem PySem.Spec PyProof.Rows L2
end Dn
namespace Dn
open PySem PySem.Spec PyProof.Rows L2 NdefX PySem.Calls PyProof.V
end Dn
namespace Dn
open PySem PySem.Spec PyProof.Rows L2
end Dn
namespace Dn
open PySem PySem.Spec PyProof.Rows L2
end Dn
namespace Dn
open PySem PySem.Spec PyProof.Rows L2
end Dn
namespace Dn
open PySem PySem.Spec PyProof.Rows L2
end Dn
namespace Dn
end Dn
namespace Dn
open PySem PySem.Spec PyProof.Rows L2
end Dn
namespace Dn
open PySem PySem.Spec PyProof.Rows L2
end Dn
namespace Dn
open PySem PySem.Spec PyProof.Rows L2
structure TrF (K:Fg) [WD K]:Prop where
  c:Cls K (He.ga K "Trial")
  d:NoAttr K (He.ga K "Trial") "desk"
  n:NoAttr K (He.ga K "Trial") "now"
  p:NoAttr K (He.ga K "Trial") "past"
  f:NoAttr K (He.ga K "Trial") "future"
  c2:Cls K (He.ga K "Desk")
  n2:NoAttr K (He.ga K "Desk") "now"
  p2:NoAttr K (He.ga K "Desk") "past"
  f2:NoAttr K (He.ga K "Desk") "future"
section
variable {K:Fg} [WD K] {H:Hp} {x dx l dl:Addr} {fvs:List (Str×V)} {n p f:V}
abbrev F1 (a:V):List (Str×V):=[("desk",a)]
abbrev F2 (a n:V):List (Str×V):=[("desk",a),("now",n)]
theorem len1 (a:V):(F1 a).length < 1000:=Nat.lt_of_sub_ne_zero (by simp)
theorem len2 (a n:V):(F2 a n).length < 1000:=Nat.lt_of_sub_ne_zero (by simp)
end
end Dn
namespace Dn
open PySem PySem.Spec PyProof.Rows L2
theorem TrF.of {K:Fg} [WD K] {L1 L2 L3 L4:List Str} (hd:FldT K L1 "desk") (hn:FldT K L2 "now") (hp:FldT K L3 "past") (hf:FldT K L4 "future") (a:("Trial":Str)∈L1) (b:("Trial":Str)∈L2) (c:("Trial":Str)∈L3) (d:("Trial":Str)∈L4)
    (b2:("Desk":Str)∈L2) (c2:("Desk":Str)∈L3) (d2:("Desk":Str)∈L4):TrF K:=⟨(hd _ a).1,(hd _ a).2,(hn _ b).2,(hp _ c).2,(hf _ d).2,(hn _ b2).1,(hn _ b2).2,(hp _ c2).2,(hf _ d2).2⟩
end Dn
namespace Dn
open PySem PySem.Spec PyProof.Rows L2
end Dn
namespace Dn
open PySem PySem.Spec PyProof.Rows L2
section
variable {X:Cx} {K:Fg} [WD K] {P:Program} {w:World} {mg:Str→Option Value} {base:Heap} {W:WS} {f:Str} {o value:Expr} {pos tpos:Pos} {ta tv:TE} {T:List Str} {i:Nat} {n:Int}
theorem apS (cx:CxIs X K P w mg base) (ha:PE X o ta) (hv:PE X value tv):PS X (.AugAssign (.Attribute o f tpos) .Add value pos) (sFldAug K ta tv rAdd f):=by
  obtain ⟨rfl,rfl,rfl,rfl,rfl⟩:=cx
  exact ps_fldaug ha hv in_add
theorem apT (hT:FldT K T f):DS K W (sFldAug K (tVar i) (tC (.int n)) rAdd f) (dAugF T i f n):=fun M σ H env hh=>by
  unfold dAugF
  split
  · rename_i p c fs e
    split
    · rename_i z lk
      by_cases hc:c∈T∧fs.length < 900
      · rw [if_pos hc]
        intro D k
        obtain ⟨l,es,⟨dx,fvs,hl,rf⟩,m0⟩:=hh.slot i _ e
        obtain ⟨v,q,r⟩:=aeX rf lk
        simp only [Rep] at r
        subst r
        have az:At K M (upd H l (.ins (He.ga K c) dx (putF f (.int (z+n)) fvs))) l (.ob c (putFD f (.int (z+n)) fs)):=⟨dx,_,upd_same,ah4 (by simp [Rep]) rf⟩
        obtain ⟨w1,w2,w3⟩:=adJ hh e es az
        exact ⟨_,es,l,_,dx,fvs,_,rfl,hl,(hT c hc.1).1,(hT c hc.1).2,q,z,n,rfl,rfl,dx,fvs,hl,by have:=ah5 rf; omega,k σ _ _ w2 w1⟩
      · rw [if_neg hc]
        trivial
    · trivial
  · trivial
end
theorem rgC3 {i j:Int} (h1:-(2 ^ 62)≤i) (h2:i < 2 ^ 62) (h3:-(2 ^ 62)≤j) (h4:j < 2 ^ 62):RgC i j 3 (rgN3 i j):=by
  have hs:Builtin.Range.rangeSize i j 3=(rgN3 i j:Int):=by
    unfold Builtin.Range.rangeSize rgN3
    simp only [show (3:Int) > 0 by decide,if_true]
    split <;> omega
  refine ⟨by decide,by decide,?_,hs⟩
  unfold Builtin.Range.small
  rw [hs]
  unfold rgN3
  simp only [Builtin.Range.rangeFitsLong,Bool.and_eq_true,Bool.or_eq_true,decide_eq_true_eq,beq_iff_eq,show (3:Int) > 0 by decide,if_true]
  omega
section
variable {K:Fg} [WD K] {W:WS} {M:Hp} {env:Ev} {σ:L2.St} {H:Hp} {ta:TA} {da:Ev→RE (List X)}
theorem aqK {lo:Int} {n:Nat}:ItOk K (Itc lo 3 n) [] M H (rgD3 lo n) where
  go:=fun M2 H2 i d q e1 e2 f=>by
    unfold rgD3 at q
    rw [List.getElem?_map] at q
    obtain ⟨c,h1,rfl⟩:=Option.map_eq_some_iff.mp q
    have hi:i < n:=by
      have:=(List.getElem?_eq_some_iff.mp h1).1
      simpa using this
    have hc:c=i:=by
      rw [List.getElem?_range hi] at h1
      exact (Option.some.inj h1).symm
    subst hc
    refine ⟨hi,fun w H3 hy=>?_⟩
    obtain ⟨rfl,rfl⟩:=hy
    exact ⟨M2,⟨Same.refl _,Same.refl _,fun l o e=>.inl e,e2⟩,by simp [Rep]⟩
  stop:=fun M2 H2 e1 e2 f=>by
    show n≤(rgD3 lo n).length
    simp [rgD3]
theorem rds3 {xs:List X} {vs:List V} {i j c:Int} (hh:Holds K M env σ H) (r:RepXs K M H env σ xs vs) (e:rds env xs=some [.int i,.int j,.int c]):vs=[.int i,.int j,.int c]:=by
  have:=agt hh r e
  cases this with
  | cons a b=>
    cases b with
    | cons b c=>
      cases c with
      | cons c d=>
        cases d
        rw [a.int,b.int,c.int]
theorem arv (h:DA K W ta da):DI K W (iRng3 ta) (diR3 da):=fun M σ H env hh=>by
  refine Sat.bind (c:=fun vs H1 (R:It→Hp→Prop)=>∃ (i j c:Int) (n:Nat),vs=[V.int i,V.int j,V.int c]∧RgC i j c n∧R (Itc i c n) H1) back_i hh (h M σ H env hh) (fun Q q=>q) fun M1 H1 env1 x v g1 s1 hh1 r1=>?_
  split
  · rename_i i j c e
    split
    · rename_i hb
      obtain ⟨rfl,b1,b2⟩:=hb
      exact fun Q k=>⟨i,j,3,rgN3 i j,rds3 hh1 (ani r1) e,rgC3 (adf b1).2 (adf b1).1 (adf b2).2 (adf b2).1,k _ M1 H1 .refl (.refl _) hh1 ⟨[],(fun a z=>nomatch z),aqK,(fun j z=>nomatch z)⟩⟩
    · trivial
  · trivial
end
end Dn
namespace Dn
open PySem PySem.Spec PyProof.Rows L2
def gLstU (K:Fg) (n:Nat) (t:TGs):TG:=fun v σ H Q=>∃ a xs,v=.ref a∧SqL K H a xs∧xs.length=n∧t xs σ H Q
section
variable {X:Cx} {pos:Pos}
theorem amN {es:List Expr} {k:Nat} {t:TGs} {n:Nat} (hc:X.calm=true) (h:PGs X es t)
    (hn:(assignEach es X.env).length=n:=by rfl) (hst:(assignEach es X.env).findIdx? (·.1)=none:=by rfl):PG X (.Tuple es k pos) (gLstU X.K n t):=by
  refine ⟨fun pins s σ H v u Q I r hw=>?_⟩
  obtain ⟨a,xs,rfl,hq,hl,hw⟩:=hw
  cases r
  obtain ⟨its,rv,⟨o,n0,e1,e2,e3,e4⟩,hz⟩:=I.list hq
  have len:xs.length=its.length:=rv.length
  rw [PyProof.Rows.assign_Tuple]
  refine wpAny_bind (wpAny_standAt ?_)
  unfold unpack
  rw [hn,hst]
  have sz:n=its.toArray.size:=by rw [List.size_toArray,← len,hl]
  rw [sz]
  refine wpAny_bind (wpAny_holding (PySem.W.kun_itemsOf (I.ok.hd hc) ⟨o,e1,e2,n0,e4⟩ fun h' hx=>?_))
  have I1:Inv X pins σ H { s with heap:=h' }:=I.kept (t':=s.toks) fun b o e=>hx b o (Nat.ne_of_lt (Heap.lt_size e)) e
  exact h.run pins _ σ H xs _ Q I1 (by simpa using rv) hw
end
section
variable {K:Fg} [WD K] {gs:TGs} {a:List D→Ev→Option Ev} {n:Nat} {vs:List Nat}
theorem aqL (ha:DGs K gs a):DG K (gLstU K n gs) (dgLst n a):=fun M σ H env env' d v hh r e Q k=>by
  cases d with
  | lst xs=>
    have e':(if xs.length=n then a xs env else none)=some env':=e
    by_cases hn:xs.length=n
    · rw [if_pos hn] at e'
      simp only [Rep] at r
      obtain ⟨b,us,rfl,h1,h2⟩:=r
      exact ⟨b,us,rfl,SqL.of (hh.ex _ _ h1),by rw [← h2.length]; exact hn,ha M σ H env env' xs us hh h2 e' Q k⟩
    · rw [if_neg hn] at e'
      cases e'
  | _=>cases e
theorem apU (ha:DGsv K gs a vs):DGv K (gLstU K n gs) (dgLst n a) vs:=by
  refine ⟨fun M σ H env env' d v hh r e Q k=>?_,fun d env env' e=>?_⟩
  · cases d with
    | lst xs=>
      have e':(if xs.length=n then a xs env else none)=some env':=e
      by_cases hn:xs.length=n
      · rw [if_pos hn] at e'
        simp only [Rep] at r
        obtain ⟨b,us,rfl,h1,h2⟩:=r
        exact ⟨b,us,rfl,SqL.of (hh.ex _ _ h1),by rw [← h2.length]; exact hn,ha.1 M σ H env env' xs us hh h2 e' Q k⟩
      · rw [if_neg hn] at e'
        cases e'
    | _=>cases e
  · cases d with
    | lst xs=>
      have e':(if xs.length=n then a xs env else none)=some env':=e
      by_cases hn:xs.length=n
      · rw [if_pos hn] at e'
        exact ha.2 _ _ _ e'
      · rw [if_neg hn] at e'
        cases e'
    | _=>cases e
end
end Dn
namespace Dn
open PySem PySem.Spec PyProof.Rows L2
section
variable {prog:Program} {w:World} {A:Around} {E:Value→Shared→Prop} {s:Shared}
theorem ant {l:Addr} {its:Array Value} {n i:Nat} {Q:List Value→Shared→Prop} (lst:s.heap.IsList l its) (calm:A.handled=none) (lt:i < n) (fit':n≤its.size+1) (small:its.size≤16384)
    (next:∀ (h2:Heap) (tk:Nat),(∀ b o,s.heap.get? b=some o→h2.get? b=some o)→Q (its.toList.take i++[.ref h2.objs.size]++(its.toList.drop i).drop (its.size+1 - n))
      { s with heap:=h2.push { cls:=.type "list",data:=.seq ((its.toList.drop i).take (its.size+1 - n)).toArray },toks:=tk }):wpAny (model prog w) A (unpackItems (.ref l) n (some i)) Q E s:=by
  have ne:l≠s.heap.objs.size:=by obtain ⟨o,ho,_⟩:=lst; exact Nat.ne_of_lt (Heap.lt_size ho)
  unfold unpackItems notIterableAtAll
  refine wpAny_bind (wpAny_bind (wpAny_specialOf lst.typeIs slot_list_iter.lookup (wpAny_pure ?_)))
  simp only [Bool.false_eq_true,if_false]
  refine wpAny_bind (wpAny_holding (wpAny_pyIter_list lst ?_))
  refine wpAny_bind (wpAny_holding (PySem.W.kun_draw ne i 0 _ _ ⟨_,Heap.get?_push_size _ rfl,rfl,rfl⟩ (lst.push _) (by omega) fun h1 at1 same1=>?_))
  have lst1:h1.IsList l its:=(lst.push _).extBut same1.extBut ne
  rw [Nat.zero_add] at at1
  have a1:=at1
  obtain ⟨oi,ei,_⟩:=a1
  have a2:=lst1
  obtain ⟨o2,e2,_⟩:=a2
  have len1:(its.toList.take i).length=i:=by rw [List.length_take,Array.length_toList]; omega
  have len2:(its.toList.drop i).length=its.size - i:=by rw [List.length_drop,Array.length_toList]
  have mid:(its.toList.drop i).length - (n - 1 - i)=its.size+1 - n:=by rw [len2]; omega
  rw [List.drop_zero]
  rw [if_neg (by rw [len1]; omega)]
  refine wpAny_bind (wpAny_holding (PySem.W.kun_collect (s:={ s with heap:=h1 }) (T:="list_iterator") (.inr (.inr (.inl rfl))) (Walks.list (A:=A.in1) calm s.heap.objs.size l ne its) (fun j u st=>st.1.typeIs) (k:=i) (by omega) ⟨at1,lst1⟩
    (Heap.lt_size ei) (Heap.lt_size e2) (fun h2 tk kept=>?_) (by rw [sizeLine_eq]; omega)))
  refine wpAny_ite (PySem.W.KPc.ite_no (by rw [len2]; omega) ?_)
  show wpAny _ _ (newList ((its.toList.drop i).take ((its.toList.drop i).length - (n - 1 - i))) >>=fun d=>pure (its.toList.take i++[d]++(its.toList.drop i).drop ((its.toList.drop i).length - (n - 1 - i)))) _ _ _
  rw [mid]
  refine wpAny_bind (wpAny_newList (wpAny_pure (next h2 tk fun b o e=>?_)) (by rw [List.length_take,len2,sizeLine_eq]; omega))
  have nb:b≠s.heap.objs.size:=Nat.ne_of_lt (Heap.lt_size e)
  exact kept b o nb (same1.extBut b o nb (Heap.get?_push_of_some _ e))
end
def mtI:List MI→List V→Option (List (Nat×V))
  | [],[]=>some []
  | .lit s :: ps,.str z :: vs=>if z=s then mtI ps vs else none
  | .cap i :: ps,v :: vs=>(mtI ps vs).map ((i,v) :: ·)
  | _,_=>none
def setA:List (Nat×V)→L2.St→L2.St
  | [],σ=>σ
  | (i,v) :: r,σ=>setA r (σ.set i (some v))
def StrV (v:V):Prop:=∃ z,v=V.str z
inductive PatR (X:Cx):Pattern→MI→Prop where
  | lit {s:Str} {j p pos}:PatR X (.MatchValue (.Constant (.str s) j p) pos) (.lit s)
  | cap {y:Str} {i:Nat} {pos}:NmR X y i→PatR X (.MatchAs none (some y) pos) (.cap i)
def BR (X:Cx) (p:Str×Value) (q:Nat×V):Prop:=NmR X p.1 q.1∧RelV q.2 p.2
section
variable {X:Cx} {pins:List (Addr×Obj)} {σ:L2.St} {H:Hp} {D:_root_.L2.Ends}
theorem aha {tl:List Pattern} {tlu:List Value} {nb':List (Str×Value)} (ht:∀ (s:Shared) (Q:Option (List (Str×Value))→Shared→Prop),Q (some nb') s→wpAny (model X.prog X.w) X.A (matchEach tl X.env tlu) Q X.xe s):
    ∀ {pats:List Pattern} {ps:List MI} {vs:List V} {us:List Value} {s:Shared} {Q:Option (List (Str×Value))→Shared→Prop},Paired (PatR X) pats ps→Vals vs us→vs.length=ps.length→(∀ v∈vs,StrV v)→Inv X pins σ H s→
      (∀ s',Inv X pins σ H s'→(mtI ps vs=none→Q none s')∧∀ bs nb,mtI ps vs=some bs→Paired (BR X) nb bs→Q (some (nb++nb')) s')→wpAny (model X.prog X.w) X.A (matchEach (pats++tl) X.env (us++tlu)) Q X.xe s
  | _,_,_,_,s,Q,.nil,.nil,_,_,I,k=>ht s Q ((k s I).2 [] [] rfl .nil)
  | _,_,_,_,s,Q,.nil,.cons _ _,hl,_,I,k=>by simp at hl
  | _,_,_,_,s,Q,.cons _ _,.nil,hl,_,I,k=>by simp at hl
  | p :: pats,m :: ps,v :: vs,u :: us,s,Q,.cons hp hps,.cons hv hvs,hl,hs,I,k=>by
    have hl':vs.length=ps.length:=by simpa using hl
    have hs':∀ v∈vs,StrV v:=fun x hx=>hs x (by simp [hx])
    have ih:=fun (s:Shared) (Q:Option (List (Str×Value))→Shared→Prop)=>aha (s:=s) (Q:=Q) ht hps hvs hl' hs'
    cases hp with
    | lit=>
      rename_i lt j p0 pos
      obtain ⟨z,rfl⟩:=hs v (by simp)
      refine wpAny_matchEach_cons (wpAny_matchPattern_Value (thn (pe_str.run pins s σ H (fun x H1=>x=.str lt∧H1=H) I ⟨rfl,rfl⟩) fun x s1 ⟨y,H1,I1,r1,e1,e2⟩=>?_))
      subst e1
      subst e2
      refine thn (op_eq pins s1 σ H1 (.str z) (.str lt) u x (fun c H2=>c=.bl (decide (V.str z=V.str lt))∧H2=H1) I1 hv r1 ⟨rfl,rfl,rfl⟩) fun c s2 ⟨y2,H2,I2,r2,e3,e4⟩=>?_
      subst e3
      subst e4
      obtain rfl:c=Value.bool _:=r2
      refine wpAny_truthy_bool ?_
      by_cases hz:z=lt
      · subst hz
        rw [decide_eq_true rfl]
        refine ih _ _ I2 fun s' I'=>?_
        have e:mtI (.lit z :: ps) (V.str z :: vs)=mtI ps vs:=if_pos rfl
        obtain ⟨k1,k2⟩:=k s' I'
        rw [e] at k1 k2
        exact ⟨k1,fun bs nb h1 h2=>k2 bs nb h1 h2⟩
      · rw [decide_eq_false (fun h=>hz (by cases h; rfl))]
        exact (k s2 I2).1 (if_neg hz)
    | cap nm=>
      rename_i y i pos
      refine wpAny_matchEach_cons (wpAny_matchPattern_Capture ?_)
      refine ih _ _ I fun s' I'=>?_
      obtain ⟨k1,k2⟩:=k s' I'
      have e:mtI (.cap i :: ps) (v :: vs)=(mtI ps vs).map ((i,v) :: ·):=by cases v <;> rfl
      rw [e] at k1 k2
      refine ⟨fun h=>k1 (by rw [h]; rfl),fun bs nb h1 h2=>?_⟩
      exact k2 ((i,v) :: bs) ((y,u) :: nb) (by rw [h1]; rfl) (.cons ⟨nm,hv⟩ h2)
theorem ah7:∀ {nb:List (Str×Value)} {bs:List (Nat×V)} {σ:L2.St} {s:Shared} {Q:Unit→Shared→Prop},Paired (BR X) nb bs→Inv X pins σ H s→(∀ s',Inv X pins (setA bs σ) H s'→Q () s')→
    wpAny (model X.prog X.w) X.A (assignInOrder (nb.map fun (n,_)=>bindName X.env n) (nb.map (·.2))) Q X.xe s
  | _,_,σ,s,Q,.nil,I,k=>wpAny_assignInOrder_none (k s I)
  | (y,u) :: nb,(i,v) :: bs,σ,s,Q,.cons h hs,I,k=>by
    show wpAny _ _ (assignInOrder (bindName X.env y :: nb.map fun (n,_)=>bindName X.env n) (u :: nb.map (·.2))) _ _ _
    exact wpAny_assignInOrder_more (m9 h.1 h.2 I fun s' I'=>ah7 hs I' k)
end
theorem ahJ {α β:Type} {F:α→β→Prop}:∀ {a:List α} {b:List β} {c:List α} {d:List β},Paired F a b→Paired F c d→Paired F (a++c) (b++d)
  | _,_,_,_,.nil,h=>h
  | _,_,_,_,.cons x t,h=>.cons x (ahJ t h)
def tMC (ps:List MI) (st:Option Nat) (vs:List V) (t els:TS):TS:=fun D σ H=>match st with
  | none=>(match mtI ps vs with
    | some bs=>t D (setA bs σ) H
    | none=>els D σ H)
  | some j=>(match mtI ps (vs.take ps.length) with
    | some bs=>∀ l,H l=none→t D (setA (bs++[(j,.ref l)]) σ) (upd H l (.lst (vs.drop ps.length)))
    | none=>els D σ H)
structure PMs (X:Cx) (cases:List MatchCase) (t:List V→TS):Prop where
  run:∀ (pins:List (Addr×Obj)) (s:Shared) (σ:L2.St) (H:Hp) (D:_root_.L2.Ends) (a:Addr) (vs:List V) (first:Bool),Inv X pins σ H s→SqL X.K H a vs→(∀ v∈vs,StrV v)→vs.length≤10000→t vs D σ H→
    wpAny (model X.prog X.w) X.A (matchCases cases X.env (.ref a) first) (SP X pins D) X.xe s
section
variable {X:Cx}
theorem ahb:∀ {ps:List MI} {vs:List V} {bs:List (Nat×V)},mtI ps vs=some bs→vs.length=ps.length
  | [],[],_,_=>rfl
  | [],_ :: _,_,h=>nomatch h
  | .lit _ :: _,[],_,h=>nomatch h
  | .cap _ :: _,[],_,h=>nomatch h
  | .lit s :: ps,.str z :: vs,bs,h=>by
    unfold mtI at h
    split at h
    · simp [ahb h]
    · cases h
  | .cap i :: ps,v :: vs,bs,h=>by
    have e:mtI (.cap i :: ps) (v :: vs)=(mtI ps vs).map ((i,v) :: ·):=by cases v <;> rfl
    rw [e] at h
    obtain ⟨b,h1,_⟩:=Option.map_eq_some_iff.mp h
    simp [ahb h1]
  | .lit s :: ps,.non :: vs,bs,h=>nomatch h
  | .lit s :: ps,.bl _ :: vs,bs,h=>nomatch h
  | .lit s :: ps,.int _ :: vs,bs,h=>nomatch h
  | .lit s :: ps,.byt _ :: vs,bs,h=>nomatch h
  | .lit s :: ps,.flt _ :: vs,bs,h=>nomatch h
  | .lit s :: ps,.ref _ :: vs,bs,h=>nomatch h
  | .lit s :: ps,.ty _ :: vs,bs,h=>nomatch h
theorem apV:PMs X [] fun _=>tNext:=⟨fun pins s σ H D a vs first I _ _ _ h=>wpAny_matchCases_nil ⟨σ,H,I,h⟩⟩
theorem an5 {pats:List Pattern} {ps:List MI} {pos:Pos} {body:List Stmt} {rest:List MatchCase} {t:TS} {u:List V→TS} (hc:X.calm=true) (hp:Paired (PatR X) pats ps) (hb:PSs X body t) (hr:PMs X rest u)
    (hstar:pats.findIdx? (·.isStar)=none:=by rfl) (hwild:(pats.all fun p=>p.isWildcard || (p.isStar&&p.names.isEmpty))=false:=by rfl):
    PMs X (⟨.MatchSequence pats pos,none,body⟩ :: rest) (fun vs=>tMC ps none vs t (u vs)):=by
  refine ⟨fun pins s σ H D a vs first I hq hs hz h=>?_⟩
  obtain ⟨its,rv,pl,hsz⟩:=I.list hq
  have len:vs.length=its.length:=rv.length
  have plen:pats.length=ps.length:=hp.length
  have I1:∀ tk,Inv X pins σ H { s with toks:=tk }:=fun tk=>I.kept (h':=s.heap) (t':=tk) fun b o e=>e
  refine wpAny_matchCases_cons ?_
  have go:∀ r s',Inv X pins σ H s'→((mtI ps vs=none→r=none)∧∀ bs,mtI ps vs=some bs→∃ nb,r=some nb∧Paired (BR X) nb bs)→(match r with
      | none=>wpAny (model X.prog X.w) X.A (matchCases rest X.env (.ref a) false) (SP X pins D) X.xe s'
      | some bs=>wpAny (model X.prog X.w) X.A (assignInOrder (bs.map fun (n,_)=>bindName X.env n) (bs.map (·.2))) (fun _ s₂=>wpAny (model X.prog X.w) X.A (execs body X.env) (SP X pins D) X.xe s₂) X.xe s'):=fun r s' I' ⟨k1,k2⟩=>by
    cases hm:mtI ps vs with
    | none=>
      rw [k1 hm]
      refine hr.run pins s' σ H D a vs false I' hq hs hz ?_
      have h:(match mtI ps vs with
        | some bs=>t D (setA bs σ) H
        | none=>u vs D σ H):=h
      rw [hm] at h
      exact h
    | some bs=>
      obtain ⟨nb,rfl,pb⟩:=k2 bs hm
      refine ah7 pb I' fun s2 I2=>?_
      have h:(match mtI ps vs with
        | some bs=>t D (setA bs σ) H
        | none=>u vs D σ H):=h
      rw [hm] at h
      exact hb.run pins s2 _ H D I2 h
  by_cases hl:vs.length=ps.length
  · have sz:its.toArray.size=pats.length:=by rw [List.size_toArray,← len,hl,plen]
    refine matchSeq_list_hit pl.isList (by rw [List.size_toArray]; omega) sz ?_ hstar hwild
    rw [← sz]
    refine PySem.W.kun_itemsOf (s:={ s with toks:=s.toks+1+1 }) (I.ok.hd hc) pl.isList fun h' hx=>?_
    have I2:Inv X pins σ H { s with heap:=h',toks:=s.toks+1+1 }:=I.kept (t':=s.toks+1+1) fun b o e=>hx b o (Nat.ne_of_lt (Heap.lt_size e)) e
    have e:=aha (X:=X) (pins:=pins) (σ:=σ) (H:=H) (tl:=[]) (tlu:=[]) (nb':=[]) (fun s Q q=>wpAny_matchEach_nil q) (Q:=fun r s₁=>match r with
      | none=>wpAny (model X.prog X.w) X.A (matchCases rest X.env (.ref a) false) (SP X pins D) X.xe s₁
      | some bs=>wpAny (model X.prog X.w) X.A (assignInOrder (bs.map fun (n,_)=>bindName X.env n) (bs.map (·.2))) (fun _ s₂=>wpAny (model X.prog X.w) X.A (execs body X.env) (SP X pins D) X.xe s₂) X.xe s₁) hp rv hl hs I2 fun s' I'=>?_
    · rw [List.append_nil,List.append_nil] at e
      rw [show its.toArray.toList=its from rfl]
      exact e
    · refine ⟨fun hm=>go none s' I' ⟨fun _=>rfl,fun bs h=>by rw [hm] at h; cases h⟩,fun bs nb hm pb=>?_⟩
      rw [List.append_nil]
      exact go (some nb) s' I' ⟨fun h=>(by rw [hm] at h; cases h),fun bs' h=>⟨nb,rfl,(by rw [hm] at h; cases h; exact pb)⟩⟩
  · refine matchSeq_list_miss pl.isList (by rw [List.size_toArray]; omega) (by rw [List.size_toArray,← len,plen]; exact hl) ?_ hstar hwild
    refine go none _ (I1 _) ⟨fun _=>rfl,fun bs h=>?_⟩
    exact absurd (ahb h) hl
theorem an6 {pats:List Pattern} {ps:List MI} {y:Str} {j:Nat} {sp pos:Pos} {body:List Stmt} {rest:List MatchCase} {t:TS} {u:List V→TS} (hc:X.calm=true) (hp:Paired (PatR X) pats ps) (nm:NmR X y j) (hb:PSs X body t) (hr:PMs X rest u)
    (hstar:(pats++[Pattern.MatchStar (some y) sp]).findIdx? (·.isStar)=some pats.length:=by rfl) (hwild:((pats++[Pattern.MatchStar (some y) sp]).all fun p=>p.isWildcard || (p.isStar&&p.names.isEmpty))=false:=by rfl) (h1:0 < ps.length:=by decide):
    PMs X (⟨.MatchSequence (pats++[Pattern.MatchStar (some y) sp]) pos,none,body⟩ :: rest) (fun vs=>tMC ps (some j) vs t (u vs)):=by
  refine ⟨fun pins s σ H D a vs first I hq hs hz h=>?_⟩
  obtain ⟨its,rv,pl,hsz⟩:=I.list hq
  have len:vs.length=its.length:=rv.length
  have plen:pats.length=ps.length:=hp.length
  have pl1:(pats++[Pattern.MatchStar (some y) sp]).length=ps.length+1:=by simp [plen]
  have I1:∀ tk,Inv X pins σ H { s with toks:=tk }:=fun tk=>I.kept (h':=s.heap) (t':=tk) fun b o e=>e
  refine wpAny_matchCases_cons ?_
  have h:(match mtI ps (vs.take ps.length) with
    | some bs=>∀ l,H l=none→t D (setA (bs++[(j,.ref l)]) σ) (upd H l (.lst (vs.drop ps.length)))
    | none=>u vs D σ H):=h
  by_cases hl:ps.length≤vs.length
  · have tl:(vs.take ps.length).length=ps.length:=by rw [List.length_take]; omega
    refine PySem.W.kun_seqL pl.isList (by rw [List.size_toArray]; omega) hstar hwild (by rw [List.getElem?_append_right (Nat.le_refl _)]; simp [Pattern.names]) (by rw [pl1]; omega) (by rw [pl1,List.size_toArray]; omega) ?_
    rw [pl1,plen]
    refine ant (s:={ s with toks:=s.toks+1+1 }) pl.isList (I.ok.hd hc) (by omega) (by rw [List.size_toArray]; omega) (by rw [List.size_toArray]; omega) fun h2 tk kept=>?_
    have I2:Inv X pins σ H { s with heap:=h2,toks:=tk }:=I.kept (t':=tk) kept
    have fr:H h2.objs.size=none:=I2.hok.fresh (Nat.le_refl _)
    have t0:its.toArray.toList=its:=rfl
    have d1:its.toArray.size+1 - (ps.length+1)=its.length - ps.length:=by rw [List.size_toArray]; omega
    have d2:(its.drop ps.length).take (its.length - ps.length)=its.drop ps.length:=List.take_of_length_le (by rw [List.length_drop]; omega)
    have d3:(its.drop ps.length).drop (its.length - ps.length)=[]:=List.drop_of_length_le (by rw [List.length_drop]; omega)
    rw [t0,d1,d2,d3,List.append_nil]
    have lm:(vs.drop ps.length).length≤sizeLine:=by rw [List.length_drop]; omega
    have I3:Inv X pins σ H { s with heap:=h2.push { cls:=.type "list",data:=.seq (its.drop ps.length).toArray },toks:=tk }:=I2.kept (t':=tk) fun b o e=>Heap.get?_push_of_some _ e
    have I4:Inv X pins σ (upd H h2.objs.size (.lst (vs.drop ps.length))) { s with heap:=h2.push { cls:=.type "list",data:=.seq (its.drop ps.length).toArray },toks:=tk }:=
      I2.laid (t':=tk) (fun b u e=>Heap.get?_push_of_some _ e) (Nat.le_refl _) ⟨lm,_,0,ajL _ rv,Heap.get?_push_size _ rfl⟩
    cases hm:mtI ps (vs.take ps.length) with
    | none=>
      rw [hm] at h
      refine aha (X:=X) (pins:=pins) (σ:=σ) (H:=H) (nb':=[(y,.ref h2.objs.size)]) (fun s Q q=>PySem.W.kun_each (name:=some y) (v:=.ref h2.objs.size) (wpAny_matchEach_nil q)) hp (agF _ rv) tl (fun v hv=>hs v (List.mem_of_mem_take hv)) I3 fun s' I'=>⟨fun _=>?_,fun bs nb e=>by rw [hm] at e; cases e⟩
      exact hr.run pins s' σ H D a vs false I' hq hs hz h
    | some bs=>
      rw [hm] at h
      refine aha (X:=X) (pins:=pins) (σ:=σ) (nb':=[(y,.ref h2.objs.size)]) (fun s Q q=>PySem.W.kun_each (name:=some y) (v:=.ref h2.objs.size) (wpAny_matchEach_nil q)) hp (agF _ rv) tl (fun v hv=>hs v (List.mem_of_mem_take hv)) I4 fun s' I'=>⟨fun e=>(by rw [hm] at e; cases e),fun bs' nb e pb=>?_⟩
      obtain rfl:bs=bs':=Option.some.inj (hm.symm.trans e)
      refine ah7 (bs:=bs++[(j,.ref h2.objs.size)]) (ahJ pb (.cons (show BR X (y,.ref h2.objs.size) (j,.ref h2.objs.size) from ⟨nm,(show L2.RelV (.ref _) (.ref _) from rfl)⟩) .nil)) I' fun s2 I2=>?_
      exact hb.run pins s2 _ _ D I2 (h _ fr)
  · have:mtI ps (vs.take ps.length)=none:=by
      cases e:mtI ps (vs.take ps.length) with
      | none=>rfl
      | some bs=>
        have:=ahb e
        rw [List.length_take] at this
        omega
    rw [this] at h
    refine PySem.W.kun_fewL pl.isList (by rw [List.size_toArray]; omega) hstar (by rw [pl1]; omega) (by rw [pl1,List.size_toArray]; omega) ?_
    exact hr.run pins _ σ H D a vs false (I1 _) hq hs hz h
def tMatch (K:Fg) (te:TE) (t:List V→TS):TS:=fun D σ H=>te σ H fun v H1=>∃ a vs,v=.ref a∧SqL K H1 a vs∧(∀ v∈vs,StrV v)∧vs.length≤10000∧t vs D σ H1
theorem aoV {e:Expr} {cases:List MatchCase} {pos:Pos} {te:TE} {t:List V→TS} (he:PE X e te) (hm:PMs X cases t):PS X (.Match e cases pos) (tMatch X.K te t):=by
  refine ⟨fun pins s σ H D I h=>?_⟩
  refine wpAny_Match (thn (he.run pins s σ H _ I h) fun v s1 ⟨x,H1,I1,r1,a,vs,ex,hq,hs,hz,q⟩=>?_)
  subst ex
  obtain rfl:v=Value.ref a:=r1
  exact hm.run pins s1 σ H1 D a vs true I1 hq hs hz q
end
section
variable {K:Fg} [WD K] {W:WS}
def DMs (K:Fg) [WD K] (W:WS) (t:List V→TS) (d:List D→Ev→RS):Prop:=∀ (M:Hp) (σ:L2.St) (H:Hp) (env:Ev) (xs:List D) (vs:List V),Holds K M env σ H→Reps K M xs vs→xs.all isStrD=true→SatS K W M σ H env (d xs env) (fun D=>t vs D σ H)
theorem amO {M:Hp} {d:D} {v:V} (h:isStrD d=true) (r:Rep K M d v):∃ z,d=.str z∧v=.str z:=by
  cases d with
  | str z=>exact ⟨z,rfl,by simpa [Rep] using r⟩
  | _=>exact absurd h (by simp [isStrD])
theorem ak0 {M:Hp}:∀ {ps:List MI} {xs:List D} {vs:List V},Reps K M xs vs→xs.all isStrD=true→(mtD ps xs=none∧mtI ps vs=none)∨∃ bs cs,mtD ps xs=some bs∧mtI ps vs=some cs∧Paired (fun (p:Nat×D) (q:Nat×V)=>p.1=q.1∧Rep K M p.2 q.2) bs cs
  | [],[],vs,r,_=>by
    simp only [Reps] at r
    subst r
    exact .inr ⟨[],[],rfl,rfl,.nil⟩
  | m :: ps,[],vs,r,_=>by
    simp only [Reps] at r
    subst r
    cases m <;> exact .inl ⟨rfl,rfl⟩
  | [],x :: xs,vs,r,_=>by
    simp only [Reps] at r
    obtain ⟨v,r',rfl,_,_⟩:=r
    exact .inl ⟨rfl,rfl⟩
  | m :: ps,x :: xs,vs,r,h=>by
    simp only [Reps] at r
    obtain ⟨v,r',rfl,h1,h2⟩:=r
    simp only [List.all_cons,Bool.and_eq_true] at h
    have ih:=ak0 (ps:=ps) h2 h.2
    cases m with
    | lit s=>
      obtain ⟨z,rfl,rfl⟩:=amO h.1 h1
      by_cases hz:z=s
      · have e1:mtD (.lit s :: ps) (.str z :: xs)=mtD ps xs:=if_pos hz
        have e2:mtI (.lit s :: ps) (V.str z :: r')=mtI ps r':=if_pos hz
        rw [e1,e2]
        exact ih
      · exact .inl ⟨if_neg hz,if_neg hz⟩
    | cap i=>
      have e1:mtD (.cap i :: ps) (x :: xs)=(mtD ps xs).map ((i,x) :: ·):=by cases x <;> rfl
      have e2:mtI (.cap i :: ps) (v :: r')=(mtI ps r').map ((i,v) :: ·):=by cases v <;> rfl
      rw [e1,e2]
      rcases ih with ⟨a,b⟩ | ⟨bs,cs,a,b,p⟩
      · exact .inl ⟨by rw [a]; rfl,by rw [b]; rfl⟩
      · exact .inr ⟨(i,x) :: bs,(i,v) :: cs,by rw [a]; rfl,by rw [b]; rfl,.cons ⟨rfl,h1⟩ p⟩
theorem ah8 {M H:Hp}:∀ {bs:List (Nat×D)} {cs:List (Nat×V)} {env env':Ev} {σ:L2.St},Paired (fun (p:Nat×D) (q:Nat×V)=>p.1=q.1∧Rep K M p.2 q.2) bs cs→Holds K M env σ H→setDs bs env=some env'→
    Grow M env σ H M env' (setA cs σ) H∧Holds K M env' (setA cs σ) H
  | _,_,env,env',σ,.nil,hh,e=>by
    cases e
    exact ⟨.refl,hh⟩
  | (i,d) :: bs,(j,v) :: cs,env,env',σ,.cons h hs,hh,e=>by
    obtain ⟨rfl,r⟩:=(h:i=j∧Rep K M d v)
    obtain ⟨e1,q1,q2⟩:=Option.bind_eq_some_iff.mp (show (setSl i (.im d) env).bind (setDs bs)=some env' from e)
    obtain ⟨g,hh1⟩:=ahI (.refl) hh (abQ (H0:=H) r) q1
    obtain ⟨g2,hh2⟩:=ah8 hs hh1 q2
    exact ⟨g.trans hh g2,hh2⟩
theorem apW:DMs K W (fun _=>tNext) (fun _=>O5):=fun M σ H env xs vs hh _ _=>M8 M σ H env hh
theorem aqM {ps:List MI} {t:TS} {u:List V→TS} {d:Ev→RS} {e:List D→Ev→RS} (h:DS K W t d) (hr:DMs K W u e):DMs K W (fun vs=>tMC ps none vs t (u vs)) (fun xs=>dMC ps none xs d (e xs)):=fun M σ H env xs vs hh r hs=>by
  unfold dMC tMC
  dsimp only
  rcases ak0 (ps:=ps) r hs with ⟨a,b⟩ | ⟨bs,cs,a,b,p⟩
  · rw [a,b]
    exact hr M σ H env xs vs hh r hs
  · rw [a,b]
    dsimp only
    cases q:setDs bs env with
    | none=>trivial
    | some e1=>
      obtain ⟨g,hh1⟩:=ah8 p hh q
      exact SatS.later hh g (h M (setA cs σ) H e1 hh1)
theorem ak1:∀ (cs:List (Nat×V)) (j:Nat) (v:V) (σ:L2.St),setA (cs++[(j,v)]) σ=(setA cs σ).set j (some v)
  | [],_,_,_=>rfl
  | (i,u) :: r,j,v,σ=>ak1 r j v (σ.set i (some u))
theorem aqN {ps:List MI} {j:Nat} {t:TS} {u:List V→TS} {d:Ev→RS} {e:List D→Ev→RS} (h:DS K W t d) (hr:DMs K W u e):DMs K W (fun vs=>tMC ps (some j) vs t (u vs)) (fun xs=>dMC ps (some j) xs d (e xs)):=fun M σ H env xs vs hh r hs=>by
  unfold dMC tMC
  dsimp only
  have r1:Reps K M (xs.take ps.length) (vs.take ps.length):=r.take _
  have r2:Reps K M (xs.drop ps.length) (vs.drop ps.length):=r.drop _
  have hs1:(xs.take ps.length).all isStrD=true:=List.all_eq_true.mpr fun x hx=>List.all_eq_true.mp hs x (List.mem_of_mem_take hx)
  rcases ak0 (ps:=ps) r1 hs1 with ⟨a,b⟩ | ⟨bs,cs,a,b,p⟩
  · rw [a,b]
    exact hr M σ H env xs vs hh r hs
  · rw [a,b]
    dsimp only
    cases q:(setDs bs env).bind (setSl j (.ow (.lst (xs.drop ps.length)))) with
    | none=>trivial
    | some e1=>
      obtain ⟨e2,q1,q2⟩:=Option.bind_eq_some_iff.mp q
      refine SatS.all fun l hl=>?_
      have ex:=apR hh (vs:=vs.drop ps.length) hl
      have hh2:=ex.holds hh
      have g2:=ex.grow (env:=env) (σ:=σ) hh
      obtain ⟨g3,hh3⟩:=ah8 (H:=upd H l (.lst (vs.drop ps.length))) p hh2 q1
      have g4:=g2.trans hh g3
      have no:¬ Own e2 (setA cs σ) l:=fun z=>by
        rcases g3.own l z with z | z
        · obtain ⟨u,q'⟩:=hh.ownSome z
          rw [hl] at q'
          cases q'
        · rw [upd_same] at z
          cases z
      have rx:RX K (setA cs σ) H M (upd H l (.lst (vs.drop ps.length))) e2 (.ow (.lst (xs.drop ps.length))) (.ref l):=
        ⟨⟨l,rfl,⟨_,upd_same,r2⟩,aqJ hh hl,no⟩,fun o z l' e=>by cases e; exact hl⟩
      obtain ⟨g5,hh5⟩:=ahI g4 hh3 rx q2
      rw [ak1]
      exact SatS.later hh g5 (h M _ _ e1 hh5)
theorem aoW {te:TE} {de:Ev→RE X} {t:List V→TS} {d:List D→Ev→RS} (h:DE K W te de) (hm:DMs K W t d):DS K W (tMatch K te t) (dMatch de d):=fun M σ H env hh=>by
  refine Sat.stm (c:=fun v H1 D=>∃ a vs,v=V.ref a∧SqL K H1 a vs∧(∀ v∈vs,StrV v)∧vs.length≤10000∧t vs D σ H1) hh (h M σ H env hh) (fun D q=>q) fun M1 H1 env1 x v g1 s hh1 r1=>?_
  cases x with
  | sl k=>trivial
  | ow o=>trivial
  | im d0=>
    cases d0 with
    | lst xs=>
      show SatS K W M σ H env (if xs.all isStrD=true∧xs.length≤10000 then d xs env1 else .bad) _
      by_cases hl:xs.all isStrD=true∧xs.length≤10000
      · rw [if_pos hl]
        have r0:Rep K M1 (.lst xs) v:=r1.1
        simp only [Rep] at r0
        obtain ⟨a,vs,rfl,ea,rp⟩:=r0
        have hsv:∀ {xs:List D} {vs:List V},Reps K M1 xs vs→xs.all isStrD=true→∀ v∈vs,StrV v:=by
          intro xs
          induction xs with
          | nil=>
            intro vs r _ v hv
            simp only [Reps] at r
            subst r
            cases hv
          | cons x xs ih=>
            intro vs r h v hv
            simp only [Reps] at r
            obtain ⟨v',r',rfl,h1,h2⟩:=r
            simp only [List.all_cons,Bool.and_eq_true] at h
            rcases List.mem_cons.mp hv with rfl | hv
            · obtain ⟨z,_,e⟩:=amO h.1 h1
              exact ⟨z,e⟩
            · exact ih h2 h.2 v hv
        have key:=hm M1 σ H1 env1 xs vs hh1 rp hl.1
        have sat:=SatS.later hh g1 key
        have lz:vs.length≤10000:=by rw [← rp.length]; exact hl.2
        have put:∀ D,t vs D σ H1→∃ a' vs',V.ref a=V.ref a'∧SqL K H1 a' vs'∧(∀ v∈vs',StrV v)∧vs'.length≤10000∧t vs' D σ H1:=fun D q=>⟨a,vs,rfl,SqL.of (hh1.ex _ _ ea),hsv rp hl.1,lz,q⟩
        generalize d xs env1=res at sat
        cases res with
        | bad=>trivial
        | nx env'=>exact fun D k=>put D (sat D k)
        | bk env'=>exact fun D k=>put D (sat D k)
        | ct env'=>exact fun D k=>put D (sat D k)
        | rt x env'=>exact fun D k=>put D (sat D k)
        | exc x env'=>exact fun D k=>put D (sat D k)
      · rw [if_neg hl]
        trivial
    | _=>trivial
theorem arw:DMs K W (fun _=>tNext) (dMs []):=apW
theorem apo {ps:List MI} {t:TS} {u:List V→TS} {d:Ev→RS} {r:List (List MI×Option Nat×(Ev→RS))} (h:DS K W t d) (hr:DMs K W u (dMs r)):DMs K W (fun vs=>tMC ps none vs t (u vs)) (dMs ((ps,none,d) :: r)):=aqM h hr
theorem apq {ps:List MI} {j:Nat} {t:TS} {u:List V→TS} {d:Ev→RS} {r:List (List MI×Option Nat×(Ev→RS))} (h:DS K W t d) (hr:DMs K W u (dMs r)):DMs K W (fun vs=>tMC ps (some j) vs t (u vs)) (dMs ((ps,some j,d) :: r)):=aqN h hr
end
end Dn
namespace Dn
open PySem PySem.Spec PyProof.Rows L2
theorem RoomP.of {k:Nat} {A:Around} (r:Room (k+1) A):RoomP k A:=⟨r.hd,by have:=r.dp; omega,by have:=r.un; omega⟩
theorem RoomP.room {k:Nat} {A:Around} (r:RoomP k A):Room k A:=⟨r.hd,by have:=r.dp; omega,by have:=r.un; omega⟩
theorem RoomP.deep {k:Nat} {A:Around} (r:Room (k+1) A) (env:Env):RoomP k (A.deeper env):=
  ⟨r.hd,by have:=r.dp; show A.depth+1+3 * k+6 < _; omega,by have:=r.un; show A.units+3+16 * k+203 < _; omega⟩
def FnP (P:Program) (w:World) (K:PySem.W.Frag) (mg:Str→Option Value) (base:Heap) (CX:CXT) (k:Nat) (f:Addr) (sp:Sp):Prop:=
  ∀ (A:Around) (outer:List Env) (s:Shared) (H:Hp) (us:List Value) (vs:List V) (Q:VK) (E:XK),RoomP k A→Env0 P w K mg base A outer s H→Vals vs us→sp vs H Q E→
    codeAny (model P w) A (.call (.ref f) ⟨us,[]⟩) (CR CX outer P w H s Q E) s
def MethP (CX:CXT) (P:Program) (w:World) (K:Fg) [WD K] (mg:Str→Option Value) (base:Heap) (k:Nat) (c m:Str) (den:Ev→RE X):Prop:=
  ∃ f,Cls K (He.ga K c)∧Meth K (He.ga K c) m f∧FnP P w K mg base CX k f (spD K den)∧NoSl den
theorem afJ {CX:CXT} {P:Program} {w:World} {K:Fg} [WD K] {mg:Str→Option Value} {base:Heap} {k:Nat} {c m:Str} {den:Ev→RE X} (c1:Cls K (He.ga K c)) (m1:Meth K (He.ga K c) m (He.ma K (He.ga K c) m)) (F:FnP P w K mg base CX k (He.ma K (He.ga K c) m) (spD K den)) (n:NoSl den):MethP CX P w K mg base k c m den:=⟨_,c1,m1,F,n⟩
section
variable {P:Program} {w:World} {K:Fg} [WD K] {mg:Str→Option Value} {base:Heap}
theorem amP {CX:CXT} {name qual:Str} {ps N:List Str} {k:Nat} {st:Stmt} {f:Addr} {sp:Sp} (F:∃ fd,FunD K name qual (defArgs st) (defBody st) (defScope st) [] [] f fd) (S:FnScope N ps (defScope st)) (len:∀ vs H Q E,sp vs H Q E→vs.length=ps.length)
    (b:∀ (kV doc pm:Value) (an:Option Addr) (cdv ct:Value) (us:List Value),us.length=ps.length→bindArgs (PySem.W.fnOf name qual (defArgs st) (defBody st) (defScope st) .none kV doc pm an cdv ct) ⟨us,[]⟩=pure (ps.zip us))
    (h:∀ (cdv:Value) (A:Around) (outer:List Env) (s:Shared) (H:Hp) (vs:List V) (Q:VK) (E:XK),Room k (A.deeper (envOfC qual (defScope st) s.heap.objs.size f cdv))→sp vs H Q E→
      ∃ t,PSs (cxOf CX P w K mg base N qual (defScope st) f cdv A outer s H E) (defBody st) t∧t { nx:=fun _ H'=>Q .non H',rt:=Q } (L2.start N vs) H):FnP P w K mg base CX k f sp:=by
  obtain ⟨fd,F⟩:=F
  have hb:=F.bindsN b
  obtain ⟨oc,od,dV,kV,doc,pm,an,cdv,ct,osl,rfl,lk,hcd,_,_⟩:=F.ex
  refine fun A outer s H us vs Q E hr e0 r hsp=>?_
  have hl:=len _ _ _ _ hsp
  have KX:K.In s.heap:=e0.mod.kin.keeps fun b o e=>(e0.bs b o e).1
  have lim:s.heap.NoLimit:=e0.mod.nolimit.keeps fun b o e=>(e0.bs b o e).1
  have hul:us.length=ps.length:=by rw [← r.length]; exact hl
  have hbt:=hb s us KX (by rw [List.append_nil]; exact hul)
  rw [List.append_nil] at hbt
  have hkind:∀ y∈ps.zip us,(defScope st).names.lookup y.1=some .local∨((defScope st).names.lookup y.1=some .cell∧((cellsFrom (s.heap.objs.size+1) (defScope st).names []).lookup y.1).isSome=true):=fun ⟨n,v⟩ hy=>by
    rcases S.par n (List.of_mem_zip hy).1 with q | q
    · exact .inl q
    · exact .inr ⟨q,PySem.W.cellsFrom_some _ _ _ (.inl q)⟩
  refine codeAny_call_function hr.depth (KX _ _ lk) rfl S.co S.gen rfl (PySem.W.codeRec_of KX hcd) (hbt _ _ _ _ ?_)
  refine wpAny_newFunctionEnv_cells S.kind hkind fun env he s1 x=>?_
  subst he
  refine ⟨lim.keeps x.toInCall.keep,codeAny_func ?_⟩
  obtain ⟨t,ht,hq⟩:=h cdv A outer s H vs Q E (hr.deeper _) hsp
  have I:Inv (cxOf CX P w K mg base N qual (defScope st) f cdv A outer s H E) [] (L2.start N vs) H s1:=inv_start S hr.hd e0 hl r x
  refine wpAny_mono (ht.run [] s1 (L2.start N vs) H _ I hq) (fun fl s' hs=>?_) fun e s' hs=>hs
  have fin:∀ {σ':L2.St} {H':Hp} {v:V} {u:Value},Inv (cxOf CX P w K mg base N qual (defScope st) f cdv A outer s H E) [] σ' H' s'→RelV v u→Q v H'→CE outer P w H s Q u s':=
    fun {σ' H' v u} J rv q=>⟨v,H',J.os,J.bare,J.base,J.hok,rv,q⟩
  cases fl with
  | ret u=>
    obtain ⟨v,σ',H',J,rv,q⟩:=hs
    exact fin J rv q
  | next=>
    obtain ⟨σ',H',J,q⟩:=hs
    exact fin (v:=V.non) (u:=Value.none) J rfl q
  | brk=>
    obtain ⟨_,_,_,q⟩:=hs
    exact False.elim q
  | cont=>
    obtain ⟨_,_,_,q⟩:=hs
    exact False.elim q
theorem an7 {name qual:Str} {ps N:List Str} {k n nn:Nat} {st:Stmt} {f:Addr} {ds:Ev→RS} (F:∃ fd,FunD K name qual (defArgs st) (defBody st) (defScope st) [] [] f fd) (S:FnScope N ps (defScope st)) (hn:ps.length=n) (hN:N.length=nn)
    (b:∀ (kV doc pm:Value) (an:Option Addr) (cdv ct:Value) (us:List Value),us.length=ps.length→bindArgs (PySem.W.fnOf name qual (defArgs st) (defBody st) (defScope st) .none kV doc pm an cdv ct) ⟨us,[]⟩=pure (ps.zip us))
    (h:∀ (cdv:Value) (A:Around) (outer:List Env) (s:Shared) (H:Hp) (E:XK),Room k (A.deeper (envOfC qual (defScope st) s.heap.objs.size f cdv))→
      ∃ t,PSs (cxOf CX0 P w K mg base N qual (defScope st) f cdv A outer s H E) (defBody st) t∧DS K (fun _=>E) t ds):FnP P w K mg base CX0 k f (spD K (fnM nn n ds)):=by
  subst hn hN
  refine amP F S (fun vs H Q E h=>afn h) b fun cdv A outer s H vs Q E hr hs=>?_
  obtain ⟨t,h1,h2⟩:=h cdv A outer s H E hr
  exact ⟨t,h1,afm h2 hs⟩
theorem apY {CX:CXT} {name qual:Str} {ps N:List Str} {k:Nat} {st:Stmt} {f:Addr} {sp:Sp} (F:∃ fd,FunD K name qual (defArgs st) (defBody st) (defScope st) [] [] f fd) (S:FnScope N ps (defScope st)) (len:∀ vs H Q E,sp vs H Q E→vs.length=ps.length)
    (b:∀ (kV doc pm:Value) (an:Option Addr) (cdv ct:Value) (us:List Value),us.length=ps.length→bindArgs (PySem.W.fnOf name qual (defArgs st) (defBody st) (defScope st) .none kV doc pm an cdv ct) ⟨us,[]⟩=pure (ps.zip us))
    (h:∀ (cdv:Value) (A:Around) (outer:List Env) (s:Shared) (H:Hp) (vs:List V) (Q:VK) (E:XK),RoomP k (A.deeper (envOfC qual (defScope st) s.heap.objs.size f cdv))→sp vs H Q E→
      ∃ t,PSs (cxOf CX P w K mg base N qual (defScope st) f cdv A outer s H E) (defBody st) t∧t { nx:=fun _ H'=>Q .non H',rt:=Q } (L2.start N vs) H):FnR P w K mg base CX (k+1) f sp:=by
  obtain ⟨fd,F⟩:=F
  have hb:=F.bindsN b
  obtain ⟨oc,od,dV,kV,doc,pm,an,cdv,ct,osl,rfl,lk,hcd,_,_⟩:=F.ex
  refine fun A outer s H us vs Q E hr e0 r hsp=>?_
  have hl:=len _ _ _ _ hsp
  have KX:K.In s.heap:=e0.mod.kin.keeps fun b o e=>(e0.bs b o e).1
  have lim:s.heap.NoLimit:=e0.mod.nolimit.keeps fun b o e=>(e0.bs b o e).1
  have hul:us.length=ps.length:=by rw [← r.length]; exact hl
  have hbt:=hb s us KX (by rw [List.append_nil]; exact hul)
  rw [List.append_nil] at hbt
  have hkind:∀ y∈ps.zip us,(defScope st).names.lookup y.1=some .local∨((defScope st).names.lookup y.1=some .cell∧((cellsFrom (s.heap.objs.size+1) (defScope st).names []).lookup y.1).isSome=true):=fun ⟨n,v⟩ hy=>by
    rcases S.par n (List.of_mem_zip hy).1 with q | q
    · exact .inl q
    · exact .inr ⟨q,PySem.W.cellsFrom_some _ _ _ (.inl q)⟩
  refine codeAny_call_function hr.depth (KX _ _ lk) rfl S.co S.gen rfl (PySem.W.codeRec_of KX hcd) (hbt _ _ _ _ ?_)
  refine wpAny_newFunctionEnv_cells S.kind hkind fun env he s1 x=>?_
  subst he
  refine ⟨lim.keeps x.toInCall.keep,codeAny_func ?_⟩
  obtain ⟨t,ht,hq⟩:=h cdv A outer s H vs Q E (RoomP.deep hr _) hsp
  have I:Inv (cxOf CX P w K mg base N qual (defScope st) f cdv A outer s H E) [] (L2.start N vs) H s1:=inv_start S hr.hd e0 hl r x
  refine wpAny_mono (ht.run [] s1 (L2.start N vs) H _ I hq) (fun fl s' hs=>?_) fun e s' hs=>hs
  have fin:∀ {σ':L2.St} {H':Hp} {v:V} {u:Value},Inv (cxOf CX P w K mg base N qual (defScope st) f cdv A outer s H E) [] σ' H' s'→RelV v u→Q v H'→CE outer P w H s Q u s':=
    fun {σ' H' v u} J rv q=>⟨v,H',J.os,J.bare,J.base,J.hok,rv,q⟩
  cases fl with
  | ret u=>
    obtain ⟨v,σ',H',J,rv,q⟩:=hs
    exact fin J rv q
  | next=>
    obtain ⟨σ',H',J,q⟩:=hs
    exact fin (v:=V.non) (u:=Value.none) J rfl q
  | brk=>
    obtain ⟨_,_,_,q⟩:=hs
    exact False.elim q
  | cont=>
    obtain ⟨_,_,_,q⟩:=hs
    exact False.elim q
theorem apZ {name qual:Str} {ps N:List Str} {k n nn:Nat} {st:Stmt} {f:Addr} {ds:Ev→RS} (F:∃ fd,FunD K name qual (defArgs st) (defBody st) (defScope st) [] [] f fd) (S:FnScope N ps (defScope st)) (hn:ps.length=n) (hN:N.length=nn)
    (b:∀ (kV doc pm:Value) (an:Option Addr) (cdv ct:Value) (us:List Value),us.length=ps.length→bindArgs (PySem.W.fnOf name qual (defArgs st) (defBody st) (defScope st) .none kV doc pm an cdv ct) ⟨us,[]⟩=pure (ps.zip us))
    (h:∀ (cdv:Value) (A:Around) (outer:List Env) (s:Shared) (H:Hp) (E:XK),RoomP k (A.deeper (envOfC qual (defScope st) s.heap.objs.size f cdv))→
      ∃ t,PSs (cxOf CX0 P w K mg base N qual (defScope st) f cdv A outer s H E) (defBody st) t∧DS K (fun _=>E) t ds):FnR P w K mg base CX0 (k+1) f (spD K (fnM nn n ds)):=by
  subst hn hN
  refine apY F S (fun vs H Q E h=>afn h) b fun cdv A outer s H vs Q E hr hs=>?_
  obtain ⟨t,h1,h2⟩:=h cdv A outer s H E hr
  exact ⟨t,h1,afm h2 hs⟩
theorem amQ {name qual:Str} {ps N:List Str} {k:Nat} {st:Stmt} {f:Addr} {CX:CXT} (F:∃ fd,FunD K name qual (defArgs st) (defBody st) (defScope st) [] [] f fd) (S:FnScope N ps (defScope st))
    (b:∀ (kV doc pm:Value) (an:Option Addr) (cdv ct:Value) (us:List Value),us.length=ps.length→bindArgs (PySem.W.fnOf name qual (defArgs st) (defBody st) (defScope st) .none kV doc pm an cdv ct) ⟨us,[]⟩=pure (ps.zip us)):FnP P w K mg base CX k f (spD K (fun _=>.bad)):=by
  refine amP F S (fun vs H Q E h=>?_) b fun cdv A outer s H vs Q E hr hs=>?_
  · obtain ⟨M,ps,_,z⟩:=h
    exact z.elim
  · obtain ⟨M,ps,_,z⟩:=hs
    exact z.elim
end
theorem ap0 {X:Cx} {CX:CXT} {k:Nat} {f:Addr} {sp:Sp} {E:XK} {Q:VK} {us:List Value} {vs:List V} {pins:List (Addr×Obj)} {σ:L2.St} {H:Hp} {s:Shared} (F:FnP X.prog X.w X.K X.mg X.base CX k f sp) (hr:RoomP k X.A) (hx:PassesAt CX X σ E) (I:Inv X pins σ H s) (r:Vals vs us) (h:sp vs H Q E):
    codeAny (model X.prog X.w) X.A (.call (.ref f) ⟨us,[]⟩) (fun r s'=>match r with | .ok (.ret v)=>EP X pins σ Q v s' | .ok _=>False | .error e=>X.xe e s') s:=by
  refine codeAny_mono (F X.A X.stack s H us vs Q E hr I.env0 r h) fun r s' hq=>?_
  cases r with
  | error e=>exact hx pins H s e s' I hq
  | ok fl=>
    cases fl with
    | ret u=>exact I.after hq
    | next=>exact False.elim hq
    | brk=>exact False.elim hq
    | cont=>exact False.elim hq
section
variable {X:Cx} {CX:CXT} {K:Fg} [WD K] {P:Program} {w:World} {mg:Str→Option Value} {base:Heap} {k:Nat} {tab:Str→Option (Ev→RE Dn.X)} {E:L2.St→XK} {m c:Str} {p pos apos:Pos} {e o:Expr} {es:List Expr} {ta:TE} {t:TA} {den:Ev→RE Dn.X}
theorem ak2 {pl:Sem Bool} (cx:CxIs X K P w mg base) (ht:∀ c den,tab c=some den→MethP CX P w K mg base k c m den) (hr:RoomP k X.A) (hx:∀ σ,PassesAt CX X σ (E σ)) (he:PE X o ta) (ha:PA X (e :: es) t)
    (hst:starEach (e :: es) X.env=(false,eval e X.env) :: starEach es X.env:=by rfl) (hpl:(backTo pos (starEach es X.env)).any (·.1)=false:=by rfl)
    (hte:eval (.Call (.Attribute o m apos) (e :: es) [] pos) X.env=(do
      let ov ← eval o X.env
      standAt apos.atName
      let (f,first) ← holding [ov] (getMethod ov m pl)
      callWith pos f first (backTo pos (starEach (e :: es) X.env)) (backToKw pos (keywordEach [] X.env))):=by rfl):
    PE X (.Call (.Attribute o m apos) (e :: es) [] pos) (tMethF K tab m E ta t):=by
  obtain ⟨rfl,rfl,rfl,rfl,rfl⟩:=cx
  refine ⟨fun pins s σ H Q I h=>?_⟩
  refine PySem.W.methodCall_KW (pl:=pl) (thn (he.run pins s σ H _ I h) fun u s1 ⟨x,H1,I1,rx,a,dx,fs,c,den,ex,ea,et,l,q⟩=>?_) hte
  subst ex
  obtain rfl:u=Value.ref a:=rx
  obtain ⟨f,c1,hm,F,_⟩:=ht c den et
  refine getmeth_ok I1 ea c1 hm l ?_
  refine PySem.W.callWith_K (first:=[.ref a]) (h₀:=X.base) I.ok.mod.kin hm.kp (thn (ha.run pos pins s1 σ H1 _ I1 q) fun us s2 ⟨vs,H2,I2,r,q2⟩=>⟨I2.kIn,?_⟩) hst hpl
  exact wpAny_call (ap0 (us:=.ref a :: us) (vs:=.ref a :: vs) F hr (hx σ) I2 (.cons rfl r) q2)
end
end Dn
namespace Dn
open PySem PySem.Spec PyProof.Rows L2
abbrev CR:=List Str×Int
def rwD (r:CR):D:=.tup [.tup (r.1.map D.str),.int r.2]
structure ChS where
  free:List CR
  srv:List (Str×List CR)
  spent:List CR
def srvGet (nm:Str):List (Str×List CR)→Option (List CR)
  | []=>none
  | (n,r) :: s=>if n=nm then some r else srvGet nm s
def srvSet (nm:Str) (rs:List CR):List (Str×List CR)→List (Str×List CR)
  | []=>[]
  | (n,r) :: s=>if n=nm then (n,rs) :: s else (n,r) :: srvSet nm rs s
def srvDrop (nm:Str) (s:List (Str×List CR)):List (Str×List CR):=s.filter fun p=>decide (p.1≠nm)
inductive SrvAt (K:Fg) [WD K] (M H:Hp):List (Str×List CR)→List (Key×V)→List Addr→Prop
  | nil:SrvAt K M H [] [] []
  | cons {nm:Str} {rs:List CR} {sv:List (Str×List CR)} {kvs:List (Key×V)} {l:Addr} {G:List Addr} {vs:List V} (e:H l=some (.lst vs)) (r:Reps K M (rs.map rwD) vs) (t:SrvAt K M H sv kvs G):SrvAt K M H ((nm,rs) :: sv) ((.inr nm,.ref l) :: kvs) (l :: G)
theorem aqO {G:List Addr} {l r:Addr} (h:l∈G) (n:r∉G):l≠r:=fun z=>n (z▸h)
theorem ap1 {G:List Addr} {l r:Addr} (h:r∈G) (n:l∉G):l≠r:=fun z=>n (z▸h)
section
variable {K:Fg} [WD K] {M M' H H':Hp} {sv:List (Str×List CR)} {kvs:List (Key×V)} {G:List Addr} {nm:Str}
theorem SrvAt.mono (h:SrvAt K M H sv kvs G) (e:Same M M') (f:∀ l∈G,∀ u,H l=some u→H' l=some u):SrvAt K M' H' sv kvs G:=by
  induction h with
  | nil=>exact .nil
  | cons h1 h2 h3 ih=>exact .cons (f _ (by simp) _ h1) (Reps.mono e _ _ h2) (ih fun l hl=>f l (by simp [hl]))
theorem SrvAt.len (h:SrvAt K M H sv kvs G):kvs.length=sv.length∧G.length=sv.length:=by
  induction h with
  | nil=>exact ⟨rfl,rfl⟩
  | cons _ _ _ ih=>simp [ih.1,ih.2]
theorem SrvAt.get (h:SrvAt K M H sv kvs G) (nm:Str):(valV kvs (.inr nm)=none∧srvGet nm sv=none)∨∃ l rs vs,valV kvs (.inr nm)=some (.ref l)∧srvGet nm sv=some rs∧l∈G∧H l=some (.lst vs)∧Reps K M (rs.map rwD) vs:=by
  induction h with
  | nil=>exact .inl ⟨rfl,rfl⟩
  | @cons n rs sv kvs l G vs h1 h2 h3 ih=>
    by_cases e:n=nm
    · subst e
      exact .inr ⟨l,rs,vs,valV_pos rfl,by simp [srvGet],by simp,h1,h2⟩
    · have ne:¬ ((.inr n:Key)=.inr nm):=fun z=>e (Sum.inr.inj z)
      rcases ih with ⟨a,b⟩ | ⟨l',rs',vs',a,b,c,d,f⟩
      · exact .inl ⟨(valV_neg (p:=((.inr n:Key),V.ref l)) ne).trans a,by simp [srvGet,e,b]⟩
      · exact .inr ⟨l',rs',vs',(valV_neg (p:=((.inr n:Key),V.ref l)) ne).trans a,by simp [srvGet,e,b],by simp [c],d,f⟩
theorem SrvAt.set {l:Addr} {rs:List CR} {vs:List V} (h:SrvAt K M H sv kvs G) (nd:G.Nodup) (e:valV kvs (.inr nm)=some (.ref l)) (r:Reps K M (rs.map rwD) vs):SrvAt K M (upd H l (.lst vs)) (srvSet nm rs sv) kvs G:=by
  induction h with
  | nil=>cases e
  | @cons n rs' sv kvs l' G vs' h1 h2 h3 ih=>
    obtain ⟨nd1,nd2⟩:=List.nodup_cons.mp nd
    by_cases q:n=nm
    · subst q
      have e':some (V.ref l')=some (.ref l):=(valV_pos (p:=((.inr n:Key),V.ref l')) rfl).symm.trans e
      cases e'
      unfold srvSet
      rw [if_pos rfl]
      exact .cons upd_same r (h3.mono (Same.refl M) fun b hb u hu=>by
        rw [upd_ne (aqO hb nd1)]
        exact hu)
    · have ne:¬ ((.inr n:Key)=.inr nm):=fun z=>q (Sum.inr.inj z)
      have e2:valV kvs (.inr nm)=some (.ref l):=(valV_neg (p:=((.inr n:Key),V.ref l')) ne).symm.trans e
      have hl:l∈G:=by
        rcases h3.get nm with ⟨a,_⟩ | ⟨l2,_,_,a,_,c,_⟩
        · rw [a] at e2; cases e2
        · rw [a] at e2; cases e2; exact c
      unfold srvSet
      rw [if_neg q]
      exact .cons (by rw [upd_ne (fun z=>nd1 (by rw [z]; exact hl))]; exact h1) h2 (ih nd2 e2)
theorem SrvAt.drop (h:SrvAt K M H sv kvs G) (nm:Str):∃ G',SrvAt K M H (srvDrop nm sv) (dropK kvs (.inr nm)) G'∧G'.Sublist G:=by
  induction h with
  | nil=>exact ⟨[],.nil,.slnil⟩
  | @cons n rs sv kvs l G vs h1 h2 h3 ih=>
    obtain ⟨G',i1,i2⟩:=ih
    by_cases e:n=nm
    · subst e
      refine ⟨G',?_,i2.cons _⟩
      have a:srvDrop n ((n,rs) :: sv)=srvDrop n sv:=by simp [srvDrop]
      have b:dropK (((.inr n:Key),V.ref l) :: kvs) (.inr n)=dropK kvs (.inr n):=by simp [dropK]
      rw [a,b]
      exact i1
    · have ne:¬ ((.inr n:Key)=.inr nm):=fun z=>e (Sum.inr.inj z)
      refine ⟨l :: G',?_,i2.cons_cons _⟩
      have a:srvDrop nm ((n,rs) :: sv)=(n,rs) :: srvDrop nm sv:=by simp [srvDrop,e]
      have b:dropK (((.inr n:Key),V.ref l) :: kvs) (.inr nm)=((.inr n:Key),V.ref l) :: dropK kvs (.inr nm):=by simp [dropK,e]
      rw [a,b]
      exact .cons h1 h2 i1
end
structure ChX (K:Fg) [WD K] (M H:Hp) (a dx lf ls lp:Addr) (kvs:List (Key×V)) (G:List Addr) (c:ChS):Prop where
  ha:H a=some (.ins (He.ga K "Chains") dx [("free",.ref lf),("serving",.ref ls),("spent",.ref lp)])
  hf:∃ vs,H lf=some (.lst vs)∧Reps K M (c.free.map rwD) vs
  hs:H ls=some (.dK kvs)
  hp:∃ vs,H lp=some (.lst vs)∧Reps K M (c.spent.map rwD) vs
  hg:SrvAt K M H c.srv kvs G
  nd:(a :: ls :: lf :: lp :: G).Nodup
  nm:∀ l∈a :: ls :: lf :: lp :: G,M l=none
  kn:(c.srv.map (·.1)).Nodup
structure Evo (F:List Addr) (M0 H0 M H:Hp):Prop where
  exM:Same M0 M
  fr:∀ l o,H0 l=some o→l∉F→H l=some o
  new:∀ l o,M l=some o→M0 l=some o∨H0 l=none
  inn:Same M H
  dom:∀ l,H l=none→H0 l=none
section
variable {K:Fg} [WD K] {M M' M0 M1 H H' H0 H1:Hp} {a dx lf ls lp:Addr} {kvs:List (Key×V)} {G F:List Addr} {c:ChS} {nm:Str} {vs:List V} {env env':Ev} {σ σ':L2.St}
theorem Evo.refl (h:Same M H):Evo F M H M H:=⟨Same.refl _,fun _ _ e _=>e,fun _ _ e=>.inl e,h,fun _ e=>e⟩
theorem Evo.trans (x:Evo F M0 H0 M H) (y:Evo F M H M1 H1):Evo F M0 H0 M1 H1:=
  ⟨x.exM.trans y.exM,fun l o e n=>y.fr l o (x.fr l o e n) n,fun l o e=>by
    rcases y.new l o e with z | z
    · exact x.new l o z
    · exact .inr (x.dom l z),y.inn,fun l e=>x.dom l (y.dom l e)⟩
theorem Evo.grow (hh:Holds K M env σ H) (no:∀ l,¬ Own env σ l) (g:Grow M env σ H M' env' σ' H') (hh':Holds K M' env' σ' H'):Evo F M H M' H':=
  ⟨g.exM,fun l o e _=>g.fr l o e (no l),fun l o e=>by
    rcases g.new l o e with z | z | z
    · exact .inl z
    · exact .inr z
    · exact absurd z (no l),hh'.ex,g.dom⟩
theorem Evo.set {l:Addr} {o:HO} (h:Same M H) (hl:l∈F) (n:M l=none):Evo F M H M (upd H l o):=
  ⟨Same.refl _,fun b u e nb=>by rw [upd_ne (ap1 hl nb)]; exact e,fun _ _ e=>.inl e,fun b u e=>by
    rw [upd_ne (fun z=>by rw [z,n] at e; cases e)]
    exact h _ _ e,fun b e=>by
    by_cases q:b=l
    · rw [q,upd_same] at e; cases e
    · rwa [upd_ne q] at e⟩
theorem Evo.lay {l:Addr} {o:HO} (h:Same M H) (n:H l=none):Evo F M H M (upd H l o):=
  ⟨Same.refl _,fun b u e _=>by rw [upd_ne (ne_of_none e n)]; exact e,fun _ _ e=>.inl e,fun b u e=>by
    rw [upd_ne (ne_of_none (h _ _ e) n)]
    exact h _ _ e,fun b e=>by
    by_cases q:b=l
    · rw [q,upd_same] at e; cases e
    · rwa [upd_ne q] at e⟩
theorem ChX.ext (h:ChX K M H a dx lf ls lp kvs G c) (e:Same M M') (f:∀ l∈a :: ls :: lf :: lp :: G,∀ u,H l=some u→H' l=some u) (n:∀ l∈a :: ls :: lf :: lp :: G,M' l=none):ChX K M' H' a dx lf ls lp kvs G c:=by
  obtain ⟨vf,f1,f2⟩:=h.hf
  obtain ⟨vp,p1,p2⟩:=h.hp
  exact ⟨f _ (by simp) _ h.ha,⟨vf,f _ (by simp) _ f1,Reps.mono e _ _ f2⟩,f _ (by simp) _ h.hs,⟨vp,f _ (by simp) _ p1,Reps.mono e _ _ p2⟩,h.hg.mono e fun l hl=>f l (by simp [hl]),h.nd,n,h.kn⟩
theorem SrvAt.at_ {sv:List (Str×List CR)} (h:SrvAt K M H sv kvs G):∀ l∈G,∃ u,H l=some u:=by
  induction h with
  | nil=>intro l hl; simp at hl
  | cons e _ _ ih=>
    intro l hl
    rcases List.mem_cons.mp hl with rfl | hl
    · exact ⟨_,e⟩
    · exact ih l hl
theorem ChX.there (h:ChX K M H a dx lf ls lp kvs G c):∀ l∈a :: ls :: lf :: lp :: G,∃ u,H l=some u:=fun l hl=>by
  obtain ⟨vf,f1,f2⟩:=h.hf
  obtain ⟨vp,p1,p2⟩:=h.hp
  simp only [List.mem_cons] at hl
  rcases hl with rfl | rfl | rfl | rfl | hl
  · exact ⟨_,h.ha⟩
  · exact ⟨_,h.hs⟩
  · exact ⟨_,f1⟩
  · exact ⟨_,p1⟩
  · exact h.hg.at_ l hl
theorem ChX.grow (h:ChX K M H a dx lf ls lp kvs G c) (no:∀ l∈a :: ls :: lf :: lp :: G,¬ Own env σ l) (g:Grow M env σ H M' env' σ' H'):ChX K M' H' a dx lf ls lp kvs G c∧∀ l∈a :: ls :: lf :: lp :: G,¬ Own env' σ' l:=by
  refine ⟨h.ext g.exM (fun l hl u e=>g.fr l u e (no l hl)) fun l hl=>?_,fun l hl z=>?_⟩
  · obtain ⟨u,hu⟩:=h.there l hl
    cases q:M' l with
    | none=>rfl
    | some o=>
      rcases g.new l o q with z | z | z
      · rw [h.nm l hl] at z; cases z
      · rw [hu] at z; cases z
      · exact absurd z (no l hl)
  · obtain ⟨u,hu⟩:=h.there l hl
    rcases g.own l z with q | q
    · exact no l hl q
    · rw [hu] at q; cases q
end
end Dn
namespace Dn
open PySem PySem.Spec PyProof.Rows L2
structure ChF (K:Fg):Prop where
  c:Cls K (He.ga K "Chains")
  f1:NoAttr K (He.ga K "Chains") "free"
  f2:NoAttr K (He.ga K "Chains") "serving"
  f3:NoAttr K (He.ga K "Chains") "spent"
theorem ChF.of {K:Fg} {l1 l2 l3:List Str} (h1:FldT K l1 "free") (h2:FldT K l2 "serving") (h3:FldT K l3 "spent") (m1:("Chains":Str)∈l1) (m2:("Chains":Str)∈l2) (m3:("Chains":Str)∈l3):ChF K:=
  ⟨(h1 _ m1).1,(h1 _ m1).2,(h2 _ m2).2,(h3 _ m3).2⟩
abbrev chFs (x y z:V):List (Str×V):=[(("free":Str),x),(("serving":Str),y),(("spent":Str),z)]
theorem chlF (x y z:V):(chFs x y z).lookup ("free":Str)=some x:=by
  show List.lookup ("free":Str) ((("free":Str),x) :: _)=_
  rw [List.lookup_cons,show (("free":Str) == ("free":Str))=true by decide+kernel]
theorem chlP (x y z:V):(chFs x y z).lookup ("spent":Str)=some z:=by
  show List.lookup ("spent":Str) ((("free":Str),x) :: (("serving":Str),y) :: [(("spent":Str),z)])=_
  rw [List.lookup_cons,show (("spent":Str) == ("free":Str))=false by decide+kernel]
  show List.lookup ("spent":Str) ((("serving":Str),y) :: [(("spent":Str),z)])=_
  rw [List.lookup_cons,show (("spent":Str) == ("serving":Str))=false by decide+kernel]
  show List.lookup ("spent":Str) [(("spent":Str),z)]=_
  rw [List.lookup_cons,show (("spent":Str) == ("spent":Str))=true by decide+kernel]
def ChS.rows (c:ChS):List CR:=c.spent++c.free++(c.srv.map (·.2)).flatten
def ChS.size (c:ChS):Nat:=c.free.length+c.spent.length+((c.srv.map (·.2)).flatten).length+c.srv.length
section
variable {K:Fg} [WD K] {M M' M0 M1 H H' H0 H1:Hp} {a dx lf ls lp:Addr} {kvs:List (Key×V)} {G F:List Addr} {c:ChS} {nm:Str} {vs:List V} {env env':Ev} {σ σ':L2.St} {i:Nat} {Q:VK} {v:V}
theorem ChF.free (X:ChF K) (h:ChX K M H a dx lf ls lp kvs G c) (e:σ[i]?=some (some (.ref a))) (q:Q (.ref lf) H):tFld K (tVar i) "free" σ H Q:=⟨_,e,a,_,dx,_,_,rfl,h.ha,X.c,X.f1,chlF _ _ _,q⟩
theorem ChF.spent (X:ChF K) (h:ChX K M H a dx lf ls lp kvs G c) (e:σ[i]?=some (some (.ref a))) (q:Q (.ref lp) H):tFld K (tVar i) "spent" σ H Q:=⟨_,e,a,_,dx,_,_,rfl,h.ha,X.c,X.f3,chlP _ _ _,q⟩
theorem ChX.lay {p:Addr} {o:HO} (h:ChX K M H a dx lf ls lp kvs G c) (n:H p=none):ChX K M (upd H p o) a dx lf ls lp kvs G c:=
  h.ext (Same.refl M) (fun l hl u e=>by rw [upd_ne (ne_of_none e n)]; exact e) h.nm
end
end Dn
namespace Dn
open PySem PySem.Spec PyProof.Rows L2
end Dn
namespace Dn
open PySem PySem.Spec PyProof.Rows L2
def ChS.start (c:ChS) (nm:Str):ChS:=match srvGet nm c.srv with
  | some _=>c
  | none=>{ c with srv:=c.srv++[(nm,[])] }
def ChS.okB (c:ChS):Bool:=decide (c.size≤3000)&&c.rows.all fun r=>decide (r.1.length≤1000)
section
variable {K:Fg} [WD K] {W:WS} {M M' M0 M1 H H' H0 H1:Hp} {a dx lf ls lp:Addr} {kvs:List (Key×V)} {G F:List Addr} {c:ChS} {nm:Str} {vs:List V} {env env':Ev} {σ σ':L2.St} {i:Nat} {v:V} {r1:R2} {t1 t3 t6:TT} {tu t5:TS} {te1 te2 te3:TE}
def osl:Option D→Sl
  | none=>.no
  | some d=>.im d
end
end Dn
namespace Dn
open PySem PySem.Spec PyProof.Rows L2
end Dn
namespace Dn
open PySem PySem.Spec PyProof.Rows L2
structure StC (K:Fg) [WD K] (i:Nat) (M0:Hp) (env0:Ev) (σ0:L2.St) (H0:Hp) (c:ChS) (M:Hp) (env:Ev) (σ:L2.St) (H:Hp):Prop where
  g:Grow M0 env0 σ0 H0 M env σ H
  hh:Holds K M env σ H
  e:env[i]?=some .hid
  x:∃ a dx lf ls lp kvs G,σ[i]?=some (some (.ref a))∧ChX K M H a dx lf ls lp kvs G c∧∀ l∈a :: ls :: lf :: lp :: G,H0 l=none∧¬ Own env σ l
inductive RSC where
  | nx (c:ChS) (env:Ev) | rt (x:X) (env:Ev) | exc (e:Xn) (env:Ev) | bad
section
variable {K:Fg} [WD K] {W:WS} {M M' M0 M1 H H' H0 H1:Hp} {a dx lf ls lp:Addr} {kvs:List (Key×V)} {G F:List Addr} {c c':ChS} {env env' env0 env1:Ev} {σ σ' σ0 σ1:L2.St} {i:Nat} {ts tu:TS} {ds du:Ev→RS} {dc dd:ChS→Ev→RSC} {tt:TT} {dt:Ev→RE Bool} {ta:TA} {da:Ev→RE (List X)}
theorem StC.grow (h0:Holds K M0 env0 σ0 H0) (s:StC K i M0 env0 σ0 H0 c M env σ H) (g:Grow M env σ H M' env' σ' H') (hh':Holds K M' env' σ' H'):StC K i M0 env0 σ0 H0 c M' env' σ' H':=by
  obtain ⟨a,dx,lf,ls,lp,kvs,G,e1,e2,e3⟩:=s.x
  obtain ⟨p1,s1,p2,p3⟩:=g.pin i _ s.e rfl
  obtain ⟨q1,q2⟩:=e2.grow (fun l hl=>(e3 l hl).2) g
  refine ⟨s.g.trans h0 g,hh',?_,a,dx,lf,ls,lp,kvs,G,p1.trans e1,q1,fun l hl=>⟨(e3 l hl).1,q2 l hl⟩⟩
  rw [p2]
  cases s1 <;> first | rfl | cases p3
def RSC.seq (r:RSC) (f:ChS→Ev→RSC):RSC:=match r with
  | .nx c env=>f c env
  | r=>r
end
end Dn
namespace Dn
open PySem PySem.Spec PyProof.Rows L2
end Dn
namespace Dn
open PySem PySem.Spec PyProof.Rows L2
end Dn
namespace Dn
open PySem PySem.Spec PyProof.Rows L2
end Dn
namespace Wk
open PySem PySem.Spec PyProof.Rows L2 Dn
structure TX (P:Program) (w:World) (K:Fg) [WD K] (mg:Str→Option Value):Prop where
  wd:WD.P K=P∧WD.w K=w
  al7:∃ fd,FunD K "_law_cell" "_law_cell" (defArgs aa3) (defBody aa3) (defScope aa3) [] [] (He.ga K "_law_cell") fd
  al8:mg "_law_cell"=some (.ref (He.ga K "_law_cell"))
  al9:∃ fd,FunD K "_law_pool" "_law_pool" (defArgs aa4) (defBody aa4) (defScope aa4) [] [] (He.ga K "_law_pool") fd
  ama:mg "_law_pool"=some (.ref (He.ga K "_law_pool"))
  anu:∃ fd,FunD K "_law_mix" "_law_mix" (defArgs abr) (defBody abr) (defScope abr) [] [] (He.ga K "_law_mix") fd
  anv:mg "_law_mix"=some (.ref (He.ga K "_law_mix"))
  amb:∃ fd,FunD K "_law_draw" "_law_draw" (defArgs aa5) (defBody aa5) (defScope aa5) [] [] (He.ga K "_law_draw") fd
  amc:mg "_law_draw"=some (.ref (He.ga K "_law_draw"))
  amd:∃ fd,FunD K "_law_word" "_law_word" (defArgs aav) (defBody aav) (defScope aav) [] [] (He.ga K "_law_word") fd
  ame:mg "_law_word"=some (.ref (He.ga K "_law_word"))
  ak3:∃ fd,FunD K "_law_names" "_law_names" (defArgs aad) (defBody aad) (defScope aad) [] [] (He.ga K "_law_names") fd
  ak4:mg "_law_names"=some (.ref (He.ga K "_law_names"))
  ak5:∃ fd,FunD K "_law_times" "_law_times" (defArgs aaB) (defBody aaB) (defScope aaB) [] [] (He.ga K "_law_times") fd
  ak6:mg "_law_times"=some (.ref (He.ga K "_law_times"))
  ai8:∃ fd,FunD K "_law_weights" "_law_weights" (defArgs W9) (defBody W9) (defScope W9) [] [] (He.ga K "_law_weights") fd
  ai9:mg "_law_weights"=some (.ref (He.ga K "_law_weights"))
  amf:∃ fd,FunD K "_law_leaf" "_law_leaf" (defArgs aa6) (defBody aa6) (defScope aa6) [] [] (He.ga K "_law_leaf") fd
  amg:mg "_law_leaf"=some (.ref (He.ga K "_law_leaf"))
  aj0:∃ fd,FunD K "_law_choice" "_law_choice" (defArgs aai) (defBody aai) (defScope aai) [] [] (He.ga K "_law_choice") fd
  aj1:mg "_law_choice"=some (.ref (He.ga K "_law_choice"))
  aj2:∃ fd,FunD K "_law_ballot" "_law_ballot" (defArgs aaj) (defBody aaj) (defScope aaj) [] [] (He.ga K "_law_ballot") fd
  aj3:mg "_law_ballot"=some (.ref (He.ga K "_law_ballot"))
  ahK:∃ fd,FunD K "_law_tree" "_law_tree" (defArgs aaa) (defBody aaa) (defScope aaa) [] [] (He.ga K "_law_tree") fd
  ahL:mg "_law_tree"=some (.ref (He.ga K "_law_tree"))
  ak7:∃ fd,FunD K "_law_tower" "_law_tower" (defArgs aaC) (defBody aaC) (defScope aaC) [] [] (He.ga K "_law_tower") fd
  ak8:mg "_law_tower"=some (.ref (He.ga K "_law_tower"))
  agG:∃ fd,FunD K "_law_ballot_text" "_law_ballot_text" (defArgs U9) (defBody U9) (defScope U9) [] [] (He.ga K "_law_ballot_text") fd
  agH:mg "_law_ballot_text"=some (.ref (He.ga K "_law_ballot_text"))
  ak9:∃ fd,FunD K "_law_lines" "_law_lines" (defArgs W7) (defBody W7) (defScope W7) [] [] (He.ga K "_law_lines") fd
  ala:mg "_law_lines"=some (.ref (He.ga K "_law_lines"))
  aj4:∃ fd,FunD K "ballot_text" "ballot_text" (defArgs aak) (defBody aak) (defScope aak) [] [] (He.ga K "ballot_text") fd
  aj5:mg "ballot_text"=some (.ref (He.ga K "ballot_text"))
  agI:∃ fd,FunD K "node_lines" "node_lines" (defArgs X5) (defBody X5) (defScope X5) [] [] (He.ga K "node_lines") fd
  agJ:mg "node_lines"=some (.ref (He.ga K "node_lines"))
  alb:∃ fd,FunD K "paper_text" "paper_text" (defArgs aaD) (defBody aaD) (defScope aaD) [] [] (He.ga K "paper_text") fd
  alc:mg "paper_text"=some (.ref (He.ga K "paper_text"))
  ahM:∃ fd,FunD K "_law_same" "_law_same" (defArgs aa7) (defBody aa7) (defScope aa7) [] [] (He.ga K "_law_same") fd
  ahN:mg "_law_same"=some (.ref (He.ga K "_law_same"))
  amh:∃ fd,FunD K "is_number" "is_number" (defArgs aaw) (defBody aaw) (defScope aaw) [] [] (He.ga K "is_number") fd
  ami:mg "is_number"=some (.ref (He.ga K "is_number"))
  ahp:∃ fd,FunD K "is_short_number" "is_short_number" (defArgs V9) (defBody V9) (defScope V9) [] [] (He.ga K "is_short_number") fd
  ahq:mg "is_short_number"=some (.ref (He.ga K "is_short_number"))
  an8:∃ fd,FunD K "is_name" "is_name" (defArgs abo) (defBody abo) (defScope abo) [] [] (He.ga K "is_name") fd
  an9:mg "is_name"=some (.ref (He.ga K "is_name"))
  ah9:∃ fd,FunD K "is_ballot_text" "is_ballot_text" (defArgs V1) (defBody V1) (defScope V1) [] [] (He.ga K "is_ballot_text") fd
  aia:mg "is_ballot_text"=some (.ref (He.ga K "is_ballot_text"))
  amj:∃ fd,FunD K "ballot_of" "ballot_of" (defArgs aa8) (defBody aa8) (defScope aa8) [] [] (He.ga K "ballot_of") fd
  amk:mg "ballot_of"=some (.ref (He.ga K "ballot_of"))
  aoa:∃ fd,FunD K "triples" "triples" (defArgs abp) (defBody abp) (defScope abp) [] [] (He.ga K "triples") fd
  aob:mg "triples"=some (.ref (He.ga K "triples"))
  aj6:∃ fd,FunD K "are_weights" "are_weights" (defArgs aal) (defBody aal) (defScope aal) [] [] (He.ga K "are_weights") fd
  aj7:mg "are_weights"=some (.ref (He.ga K "are_weights"))
  ald:∃ fd,FunD K "read_paper" "read_paper" (defArgs aaE) (defBody aaE) (defScope aaE) [] [] (He.ga K "read_paper") fd
  ale:mg "read_paper"=some (.ref (He.ga K "read_paper"))
  arx:∃ fd,FunD K "law" "law" (defArgs adm) (defBody adm) (defScope adm) [] [] (He.ga K "law") fd
  arz:mg "law"=some (.ref (He.ga K "law"))
  ahr:∃ fd,FunD K "__init__" "Reader.__init__" (defArgs R9) (defBody R9) (defScope R9) [] [] (He.ma K (He.ga K "Reader") "__init__") fd
  ad0:∃ fd,FunD K "split_of" "Reader.split_of" (defArgs W0) (defBody W0) (defScope W0) [] [] (He.ma K (He.ga K "Reader") "split_of") fd
  acY:∃ fd,FunD K "branches_of" "Reader.branches_of" (defArgs R6) (defBody R6) (defScope R6) [] [] (He.ma K (He.ga K "Reader") "branches_of") fd
  agd:∃ fd,FunD K "weights_of" "Reader.weights_of" (defArgs Q3) (defBody Q3) (defScope Q3) [] [] (He.ma K (He.ga K "Reader") "weights_of") fd
  af7:∃ fd,FunD K "node" "Reader.node" (defArgs aam) (defBody aam) (defScope aam) [] [] (He.ma K (He.ga K "Reader") "node") fd
  akv:mg "all"=none
  alf:mg "bool"=none
  adp:mg "int"=none
  U3:mg "isinstance"=none
  Y9:mg "len"=none
  ait:mg "list"=none
  ack:mg "range"=none
  ahc:mg "str"=none
  abH:mg "tuple"=none
  aoX:mg "Reader"=some (.ref (He.ga K "Reader"))
  aoc:Mk K (He.ga K "Reader") (He.ma K (He.ga K "Reader") "__init__")
  aem:FldT K abV "place"
  afK:FldT K acJ "lines"
  ab3:Cls K (He.ga K "Reader")
  adK:Meth K (He.ga K "Reader") "split_of" (He.ma K (He.ga K "Reader") "split_of")
  acS:Meth K (He.ga K "Reader") "branches_of" (He.ma K (He.ga K "Reader") "branches_of")
  afL:Meth K (He.ga K "Reader") "weights_of" (He.ma K (He.ga K "Reader") "weights_of")
  afp:Meth K (He.ga K "Reader") "node" (He.ma K (He.ga K "Reader") "node")
  aoY:∃ u,mg "DIGITS"=some u∧RelV (.str "0123456789") u
  aod:∃ u,mg "LETTERS"=some u∧RelV (.str "abcdefghijklmnopqrstuvwxyz") u
  aja:∃ u,mg "LONGEST_NAME"=some u∧RelV (.int 12) u
  aj8:∃ u,mg "MOST_DIGITS"=some u∧RelV (.int 13) u
  file:((P.main.file:Str) == mfP)=true
  top:(P.main.scope.names.lookup ("super":Str)).isSome=false
  ase:mg "super"=none
  asu:∀ p∈exT,PySem.W.exmOne K (.ref (He.ga K p.1.1)) (.ref (He.ga K p.1.2))=some p.2
  asv:∀ p∈kiT,ExcC K (He.ga K p.1.1)∧PySem.W.kitOne K (.ref (He.ga K p.1.1)) (.ref (He.ga K p.1.2))=some p.2
  asw:∀ p∈ktT,ExcC K (He.ga K p.1.1)∧PySem.W.kitOne K (.ref (He.ga K p.1.1)) (.type p.1.2)=some p.2
  asn:∀ c∈oexL,OexS K (He.ga K c)
  aso:∀ c∈oexL,PySem.W.findIn K (.ref (He.ga K c)) "__init__"=some (some (.ref (He.ma K (He.ga K c) "__init__")))∧PySem.W.typeIn K (.ref (He.ma K (He.ga K c) "__init__"))=some (.type "function")
def aeY:Ev→RS:=(t8 (dIfS (K8 (dOp (pCmp fun i j=>decide (i < j)) (j6 1) (dCB pLen (d9 (j6 0) o7))))
 (M5 (dOp pIx (j6 0) (j6 1)))
 O5)
 (M5 (dC (.int 0))))
def adq:Ev→RE X:=fnM 2 2 aeY
theorem aml:NoSl adq:=O7
def aeZ:Ev→RS:=(t8 (dAsg 2 (dFrz (dCall adq (d9 (j6 0) (d9 (j6 1) o7)))))
 (t8 (dIfS (K8 (dOp (pCmp fun i j=>decide (i ≥ j)) (j6 2) (dOp pPow (dC (.int 10)) (dC (.int 18)))))
 (M5 (dLst (d9 (dOp pSub (j6 2) (dOp pPow (dC (.int 10)) (dC (.int 18)))) (d9 (dOp pAdd (dOp pMul (j6 2) (dC (.int 64))) (j6 1)) (d9 (dC (.int 0)) o7)))))
 O5)
 (M5 (dLst (d9 (dC (.int 0)) (d9 (dOp pAdd (dOp pMul (j6 2) (dC (.int 64))) (j6 1)) (d9 (dC (.int 0)) o7)))))))
def adt:Ev→RE X:=fnM 3 2 aeZ
theorem amm:NoSl adt:=O7
def afM:Ev→RS:=(t8 (dAsg 2 (dOp pMod (dCB pInt (d9 (dOp pAdd (dOp pAdd (dOp pMul (j6 0) (dC (.int 48271))) (dOp pMul (j6 1) (dC (.int 69621)))) (dC (.int 11))) o7)) (dC (.int 2147483647))))
 (t8 (dAsg 3 (dOp pMod (dCB pInt (d9 (dOp pAdd (dOp pAdd (dOp pMul (j6 2) (j6 2)) (dOp pMul (j6 1) (dC (.int 16807)))) (dC (.int 3))) o7)) (dC (.int 2147483629))))
 (M5 (dOp pMod (dCB pInt (d9 (dOp pAdd (dOp pAdd (dOp pMul (j6 3) (j6 3)) (dOp pMul (j6 3) (dC (.int 40692)))) (dC (.int 7))) o7)) (dC (.int 2147483587))))))
def ad4:Ev→RE X:=fnM 4 2 afM
theorem anw:NoSl ad4:=O7
def ae0:Ev→RS:=(t8 (dIfS (K8 (dOp (pCmp fun i j=>decide (i > j)) (dOp pIx (j6 0) (dC (.int 0))) (dC (.int 0))))
 (t8 (dAsg 2 (dOp pMod (dCB pInt (d9 (dOp pIx (j6 0) (dC (.int 0))) o7)) (j6 1)))
 (t8 (dSetI 0 (dOp pDiv (dOp pIx (j6 0) (dC (.int 0))) (j6 1)) (dC (.int 0)))
 (M5 (j6 2))))
 O5)
 (t8 (dSetI 0 (dOp pAdd (dOp pIx (j6 0) (dC (.int 2))) (dC (.int 1))) (dC (.int 2)))
 (M5 (dOp pMod (dCB pInt (d9 (dCall ad4 (d9 (dOp pIx (j6 0) (dC (.int 1))) (d9 (dOp pIx (j6 0) (dC (.int 2))) o7))) o7)) (j6 1)))))
def K9:Ev→RE X:=fnM 3 2 ae0
theorem N5:NoSl K9:=O7
def ajb:Ev→RE X:=(dOp pIx (j6 1) (dCall K9 (d9 (j6 0) (d9 (dC (.int 26)) o7))))
def ae1:Ev→RS:=(t8 (dAsg 1 (dC (.str "abcdefghijklmnopqrstuvwxyz")))
 (t8 (dAsg 2 (dFrz (dCall K9 (d9 (j6 0) (d9 (dC (.int 4)) o7)))))
 (t8 (dIfS (K8 (dOp pEq (j6 2) (dC (.int 0))))
 (M5 (dOp pIx (j6 1) (dCall K9 (d9 (j6 0) (d9 (dC (.int 26)) o7)))))
 O5)
 (t8 (dAsg 3 (dFrz (dOp pAdd (dC (.int 1)) (dCall K9 (d9 (j6 0) (d9 (dC (.int 12)) o7))))))
 (t8 (dIfS (K8 (dOp pEq (j6 2) (dC (.int 1))))
 (M5 (dOp pAdd (dOp pMul (dC (.str "a")) (dOp pSub (j6 3) (dC (.int 1)))) (dOp pIx (j6 1) (dCall K9 (d9 (j6 0) (d9 (dC (.int 26)) o7))))))
 O5)
 (t8 (dIfS (K8 (dOp pEq (j6 2) (dC (.int 2))))
 (M5 (dOp pAdd (dOp pIx (j6 1) (dCall K9 (d9 (j6 0) (d9 (dC (.int 26)) o7)))) (dOp pMul (dC (.str "z")) (dOp pSub (j6 3) (dC (.int 1))))))
 O5)
 (M5 (dM1 pJoin (dC (.str "")) (dLc (diR1 (d9 (j6 3) o7)) (N7 4) (fun env=>.ok true env) ajb [4])))))))))
def adu:Ev→RE X:=fnM 5 1 ae1
theorem amn:NoSl adu:=O7
def aiu:Ev→RE Bool:=(K8 (dOp pNotIn (j6 6) (j6 3)))
def aiv:Ev→RE X:=(j6 6)
def aiw:Ev→RS:=(t8 (dAsg 5 (dFrz (dCall adu (d9 (j6 0) o7))))
 (t8 (dIfS (K8 (dOp pIn (j6 5) (j6 3)))
 (dAsg 5 (dOp pIx (dLc (diSeq (dLst (d9 (dC (.str "a")) (d9 (dC (.str "b")) (d9 (dC (.str "c")) (d9 (dC (.str "d")) (d9 (dC (.str "e")) o7))))))) (N7 6) aiu aiv [6]) (dC (.int 0))))
 O5)
 (dDrop (dMut 3 OD.isL mApp (d9 (j6 5) o7)))))
def aen:Ev→RS:=(t8 (dAsg 3 (dLst o7))
 (t8 (dFor (diR1 (d9 (dOp pAdd (j6 1) (dCall K9 (d9 (j6 0) (d9 (dFrz (dOp pAdd (dOp pSub (j6 2) (j6 1)) (dC (.int 1)))) o7)))) o7)) (N7 4)
 (dWp [4,5] aiw))
 (M5 (dCB pTuple (d9 (j6 3) o7)))))
def acZ:Ev→RE X:=fnM 7 3 aen
theorem alg:NoSl acZ:=O7
def aeo:Ev→RS:=(t8 (dIfS (K8 (dOp pEq (j6 1) (dC (.int 0))))
 (M5 (dCall K9 (d9 (j6 0) (d9 (dC (.int 4)) o7))))
 O5)
 (t8 (dIfS (K8 (dOp pEq (j6 1) (dC (.int 1))))
 (M5 (dCall K9 (d9 (j6 0) (d9 (dC (.int 30)) o7))))
 O5)
 (M5 (dCall K9 (d9 (j6 0) (d9 (dFrz (dOp pAdd (dOp pPow (dC (.int 10)) (dC (.int 12))) (dC (.int 1)))) o7))))))
def ab4:Ev→RE X:=fnM 2 2 aeo
theorem agK:NoSl ab4:=O7
def ahs:Ev→RE Bool:=(K8 (dOp pNotIn (j6 9) (dSl (j6 2) dNone (dSome (j6 6)))))
def aht:Ev→RE X:=(j6 9)
def ahu:Ev→RS:=(t8 (dAsg 6 (dFrz (dOp pAdd (dC (.int 1)) (dCall K9 (d9 (j6 0) (d9 (dCB pLen (d9 (j6 2) o7)) o7))))))
 (t8 (dAsg 7 (dFrz (dLc (diSeq (j6 1)) (N7 9) ahs aht [9])))
 (t8 (dAsg 8 (dOp pIx (j6 7) (dCall K9 (d9 (j6 0) (d9 (dCB pLen (d9 (j6 7) o7)) o7)))))
 (dDrop (dMut 4 OD.isL mApp (d9 (dTup (d9 (j6 6) (d9 (j6 8) (d9 (dCall ab4 (d9 (j6 0) (d9 (dFrz (dCall K9 (d9 (j6 0) (d9 (dC (.int 3)) o7)))) o7))) o7)))) o7))))))
def adg:Ev→RS:=(t8 (dAsg 4 (dLst o7))
 (t8 (dIfS (K8 (dOp pEq (dCB pLen (d9 (j6 2) o7)) (dC (.int 0))))
 (M5 (j6 4))
 O5)
 (t8 (dFor (diR1 (d9 (dCall K9 (d9 (j6 0) (d9 (dFrz (dOp pAdd (j6 3) (dC (.int 1)))) o7))) o7)) (N7 5)
 (dWp [5,6,7,8] ahu))
 (M5 (j6 4)))))
def acl:Ev→RE X:=fnM 10 4 adg
theorem ajc:NoSl acl:=O7
def ae2:Ev→RS:=(t8 (dIfS (K8 (dOp pEq (dCall K9 (d9 (j6 0) (d9 (dC (.int 3)) o7))) (dC (.int 0))))
 (M5 (dTup (d9 (dC (.str "dead")) o7)))
 O5)
 (M5 (dTup (d9 (dC (.str "shut")) (d9 (dCB pTuple (d9 (dCall acl (d9 (j6 0) (d9 (j6 1) (d9 (dFrz (dSl (j6 2) dNone (dSome (dOp pSub (dCB pLen (d9 (j6 1) o7)) (dC (.int 1)))))) (d9 (dC (.int 4)) o7))))) o7)) o7)))))
def acy:Ev→RE X:=fnM 3 3 ae2
theorem ahO:NoSl acy:=O7
def aib:Ev→RS:=(t8 (dAsg 6 (dFrz (dCall K9 (d9 (j6 0) (d9 (dCB pLen (d9 (j6 3) o7)) o7)))))
 (dDrop (dMut 4 OD.isL mApp (d9 (dMut 3 OD.isL mPopAt (d9 (j6 6) o7)) o7))))
def adV:Ev→RS:=(t8 (dAsg 3 (dCB pList (d9 (j6 1) o7)))
 (t8 (dAsg 4 (dLst o7))
 (t8 (dFor (diR1 (d9 (j6 2) o7)) (N7 5)
 (dWp [5,6] aib))
 (M5 (dCB pTuple (d9 (j6 4) o7))))))
def aby:Ev→RE X:=fnM 7 3 adV
theorem af8:NoSl aby:=O7
def adW:Ev→RS:=(M5 (dCall aby (d9 (j6 0) (d9 (j6 1) (d9 (dFrz (dCall K9 (d9 (j6 0) (d9 (dFrz (dOp pAdd (dCB pLen (d9 (j6 1) o7)) (dC (.int 1)))) o7)))) o7)))))
def abz:Ev→RE X:=fnM 2 2 adW
theorem af9:NoSl abz:=O7
def ajd:Ev→RE Bool:=(K8 (dOp pNotIn (j6 9) (j6 2)))
def aje:Ev→RE X:=(j6 9)
def ajf:Ev→RS:=(dIfS (K8 (dOp pEq (j6 5) (dC (.int 2))))
 (dAsg 4 (dFrz (dCall aby (d9 (j6 0) (d9 (j6 4) (d9 (dFrz (dOp pAdd (dC (.int 1)) (dCall K9 (d9 (j6 0) (d9 (dCB pLen (d9 (j6 4) o7)) o7))))) o7))))))
 O5)
def ajg:Ev→RS:=(dIfS (dtAnd (K8 (dOp pEq (j6 5) (dC (.int 3)))) (K8 (dOp pEq (dCall K9 (d9 (j6 0) (d9 (dC (.int 4)) o7))) (dC (.int 0)))))
 (dAsg 4 (dFrz (dOp pAdd (j6 4) (dSl (j6 4) dNone (dSome (dC (.int 1)))))))
 O5)
def ajh (REC:Ev→RE X):Ev→RE X:=(dTup (d9 (j6 9) (d9 (dCall REC (d9 (j6 0) (d9 (j6 1) (d9 (dFrz (dOp pAdd (j6 2) (dTup (d9 (j6 9) o7)))) (d9 (j6 3) o7))))) o7)))
def ae3 (REC:Ev→RE X):Ev→RS:=(t8 (dAsg 4 (dCB pTuple (d9 (dLc (diSeq (j6 1)) (N7 9) ajd aje [9]) o7)))
 (t8 (dAsg 5 (dFrz (dCall K9 (d9 (j6 0) (d9 (dC (.int 4)) o7)))))
 (t8 (dIfS (dtOr (K8 (dOp pEq (dOp pIx (j6 3) (dC (.int 0))) (dC (.int 0)))) (K8 (dOp pEq (j6 5) (dC (.int 0)))))
 (M5 (dCall acy (d9 (j6 0) (d9 (j6 1) (d9 (j6 2) o7)))))
 O5)
 (t8 (dSetI 3 (dOp pSub (dOp pIx (j6 3) (dC (.int 0))) (dC (.int 1))) (dC (.int 0)))
 (t8 (dIfS (dtOr (K8 (dOp pEq (j6 5) (dC (.int 1)))) (K8 (dOp pEq (dCB pLen (d9 (j6 4) o7)) (dC (.int 0)))))
 (t8 (dAsg 6 (dFrz (dCall abz (d9 (j6 0) (d9 (j6 1) o7)))))
 (t8 (dAsg 7 (dFrz (dCall ab4 (d9 (j6 0) (d9 (dFrz (dCall K9 (d9 (j6 0) (d9 (dC (.int 3)) o7)))) o7)))))
 (t8 (dAsg 8 (dFrz (dCall REC (d9 (j6 0) (d9 (j6 1) (d9 (j6 2) (d9 (j6 3) o7)))))))
 (M5 (dTup (d9 (dC (.str "split")) (d9 (j6 6) (d9 (j6 7) (d9 (j6 8) (d9 (dCall REC (d9 (j6 0) (d9 (j6 1) (d9 (j6 2) (d9 (j6 3) o7))))) o7))))))))))
 O5)
 (t8 ajf
 (t8 ajg
 (M5 (dTup (d9 (dC (.str "next")) (d9 (dCB pTuple (d9 (dLc (diSeq (j6 4)) (N7 9) (fun env=>.ok true env) (ajh REC) [9]) o7)) o7)))))))))))
def aa9:Nat→Ev→RE X
  | 0=>fun _=>.bad
  | n+1=>fnM 10 4 (ae3 (aa9 n))
theorem adw:∀ n,NoSl (aa9 n)
  | 0=>abu
  | n+1=>O7
def aix:Ev→RS:=(t8 (dAsg 5 (dFrz (dCall abz (d9 (j6 0) (d9 (j6 1) o7)))))
 (t8 (dAsg 6 (dFrz (dCall acy (d9 (j6 0) (d9 (j6 1) (d9 (dTup o7) o7))))))
 (dIfS (K8 (dOp pEq (dCall K9 (d9 (j6 0) (d9 (dC (.int 2)) o7))) (dC (.int 0))))
 (dAsg 2 (dTup (d9 (dC (.str "split")) (d9 (j6 5) (d9 (j6 4) (d9 (j6 6) (d9 (j6 2) o7)))))))
 (dAsg 2 (dTup (d9 (dC (.str "split")) (d9 (j6 5) (d9 (j6 4) (d9 (j6 2) (d9 (j6 6) o7))))))))))
def aep:Ev→RS:=(t8 (dFor (diR1 (d9 (j6 3) o7)) (N7 4)
 (dWp [4,5,6] aix))
 (M5 (j6 2)))
def ac0:Ev→RE X:=fnM 7 4 aep
theorem alh:NoSl ac0:=O7
def ab5:Ev→RS:=(t8 (dIfS (K8 (dOp pEq (dCB pLen (d9 (j6 0) o7)) (dC (.int 0))))
 (M5 (dC (.str "-")))
 O5)
 (M5 (dM1 pJoin (dC (.str ">")) (dCB pList (d9 (j6 0) o7)))))
def aaZ:Ev→RE X:=fnM 1 1 ab5
theorem agL:NoSl aaZ:=O7
def aiy:Ev→RE X:=(j6 6)
def aiz:Ev→RE X:=(j6 7)
def aiA:Ev→RE X:=(dOp pAdd (dOp pAdd (dOp pAdd (dOp pAdd (dOp pAdd (dC (.str " ")) (dCB pStrI (d9 (j6 8) o7))) (dC (.str " "))) (j6 6)) (dC (.str " "))) (dCB pStrI (d9 (j6 9) o7)))
def aiB:Ev→RS:=(t8 (dIfS (K8 (dOp pEq (dCB pLen (d9 (j6 2) o7)) (dC (.int 0))))
 dBreak
 O5)
 (t8 (dAsg 4 (dMut 2 OD.isL mPop o7))
 (dWp [5] (dIfS (K8 (dOp pEq (dOp pIx (j6 4) (dC (.int 0))) (dC (.str "next"))))
 (t8 (dDrop (dMut 1 OD.isL mApp (d9 (dOp pAdd (dC (.str "next ")) (dM1 pJoin (dC (.str " ")) (dLc (diSeq (dOp pIx (j6 4) (dC (.int 1)))) (dgTup 2 (T8 (N7 6) (T8 (N7 7) dgNil))) (fun env=>.ok true env) aiy [6,7]))) o7)))
 (dDrop (dMutR 2 OD.isL mExt (d9 (dUn pRevL (dLc (diSeq (dOp pIx (j6 4) (dC (.int 1)))) (dgTup 2 (T8 (N7 6) (T8 (N7 7) dgNil))) (fun env=>.ok true env) aiz [6,7])) o7))))
 (dWp [5] (dIfS (K8 (dOp pEq (dOp pIx (j6 4) (dC (.int 0))) (dC (.str "split"))))
 (t8 (dDrop (dMut 1 OD.isL mApp (d9 (dOp pAdd (dOp pAdd (dOp pAdd (dC (.str "split ")) (dCB pStrI (d9 (dOp pIx (j6 4) (dC (.int 2))) o7))) (dC (.str " "))) (dCall aaZ (d9 (dOp pIx (j6 4) (dC (.int 1))) o7))) o7)))
 (t8 (dDrop (dMut 2 OD.isL mApp (d9 (dOp pIx (j6 4) (dC (.int 4))) o7)))
 (dDrop (dMut 2 OD.isL mApp (d9 (dOp pIx (j6 4) (dC (.int 3))) o7)))))
 (dWp [5] (dIfS (K8 (dOp pEq (dOp pIx (j6 4) (dC (.int 0))) (dC (.str "shut"))))
 (t8 (dAsg 5 (dFrz (dLc (diSeq (dOp pIx (j6 4) (dC (.int 1)))) (dgTup 3 (T8 (N7 8) (T8 (N7 6) (T8 (N7 9) dgNil)))) (fun env=>.ok true env) aiA [8,6,9])))
 (dDrop (dMut 1 OD.isL mApp (d9 (dOp pAdd (dC (.str "shut")) (dM1 pJoin (dC (.str "")) (j6 5))) o7))))
 (dDrop (dMut 1 OD.isL mApp (d9 (dC (.str "dead")) o7)))))))))))
def aeq:Ev→RS:=(t8 (dAsg 1 (dLst o7))
 (t8 (dAsg 2 (dLst (d9 (j6 0) o7)))
 (t8 (dFor (diR1 (d9 (dC (.int 1000)) o7)) (N7 3)
 (dWp [3,4,5] aiB))
 (M5 (j6 1)))))
def ac1:Ev→RE X:=fnM 10 1 aeq
theorem ali:NoSl ac1:=O7
def adX:Ev→RS:=(t8 (dIfS (K8 (dOp pEq (dCB pLen (d9 (j6 0) o7)) (dC (.int 0))))
 (M5 (dC (.str "-")))
 O5)
 (M5 (dM1 pJoin (dC (.str ">")) (j6 0))))
def acG:Ev→RE X:=fnM 1 1 adX
theorem aj9:NoSl acG:=O7
def aiC:Ev→RE X:=(dJ0 (dJc (dC (.str " ")) (dJc (dUn pFmt (j6 9)) (dJc (dC (.str " ")) (dJc (dUn pFmt (j6 7)) (dJc (dC (.str " ")) (dJc (dUn pFmt (j6 10)) dJn)))))))
def aiD:Ev→RE X:=(j6 7)
def aiE (REC:Ev→RE X):Ev→RS:=(dAsg 6 (dFrz (dOp pAdd (j6 6) (dCall REC (d9 (j6 8) o7)))))
def aer (REC:Ev→RE X):Ev→RS:=(t8 (dIfS (K8 (dOp pEq (dOp pIx (j6 0) (dC (.int 0))) (dC (.str "dead"))))
 (M5 (dFrz (dLst (d9 (dC (.str "dead")) o7))))
 O5)
 (t8 (dIfS (K8 (dOp pEq (dOp pIx (j6 0) (dC (.int 0))) (dC (.str "shut"))))
 (M5 (dFrz (dLst (d9 (dOp pAdd (dC (.str "shut")) (dM1 pJoin (dC (.str "")) (dLc (diSeq (dOp pIx (j6 0) (dC (.int 1)))) (dgTup 3 (T8 (N7 9) (T8 (N7 7) (T8 (N7 10) dgNil)))) (fun env=>.ok true env) aiC [9,7,10]))) o7))))
 O5)
 (t8 (dIfS (K8 (dOp pEq (dOp pIx (j6 0) (dC (.int 0))) (dC (.str "next"))))
 (t8 (dAsg 6 (dFrz (dLst (d9 (dOp pAdd (dC (.str "next ")) (dM1 pJoin (dC (.str " ")) (dLc (diSeq (dOp pIx (j6 0) (dC (.int 1)))) (dgTup 2 (T8 (N7 7) (T8 (N7 8) dgNil))) (fun env=>.ok true env) aiD [7,8]))) o7))))
 (t8 (dFor (diSeq (dOp pIx (j6 0) (dC (.int 1)))) (dgTup 2 (T8 (N7 7) (T8 (N7 8) dgNil)))
 (dWp [7,8] (aiE REC)))
 (M5 (dFrz (j6 6)))))
 O5)
 (t8 (dAsgG (dgTup 5 (T8 (N7 1) (T8 (N7 2) (T8 (N7 3) (T8 (N7 4) (T8 (N7 5) dgNil)))))) (j6 0))
 (M5 (dFrz (dOp pAdd (dOp pAdd (dLst (d9 (dJ0 (dJc (dC (.str "split ")) (dJc (dUn pFmt (j6 3)) (dJc (dC (.str " ")) (dJc (dUn pFmt (dCall acG (d9 (j6 2) o7))) dJn))))) o7)) (dCall REC (d9 (j6 4) o7))) (dCall REC (d9 (j6 5) o7)))))))))
def aaJ:Nat→Ev→RE X
  | 0=>fun _=>.bad
  | n+1=>fnM 11 1 (aer (aaJ n))
theorem ac2:∀ n,NoSl (aaJ n)
  | 0=>abu
  | n+1=>O7
def aes:Ev→RS:=(M5 (dM1 pJoin (dC (.str "\n")) (dCall (aaJ 140) (d9 (j6 0) o7))))
def ac3:Ev→RE X:=fnM 1 1 aes
theorem alj:NoSl ac3:=O7
def aji (REC:Ev→RE X):Ev→RS:=(dIfS (dtNot (K8 (dCall REC (d9 (dOp pIx (j6 0) (j6 2)) (d9 (dOp pIx (j6 1) (j6 2)) o7)))))
 (M5 (dC (.bl false)))
 O5)
def ae4 (REC:Ev→RE X):Ev→RS:=(t8 (dIfS (K8 (dOp pIsN (j6 1) (dC .non)))
 (M5 (dOp pIsN (j6 0) (dC .non)))
 O5)
 (t8 (dIfS (K8 (dCB pIsi (d9 (j6 1) (d9 (dC (.ty "bool")) o7))))
 (M5 (dAndV (dCB pIsi (d9 (j6 0) (d9 (dC (.ty "bool")) o7))) (dOp pEq (j6 0) (j6 1))))
 O5)
 (t8 (dIfS (K8 (dCB pIsi (d9 (j6 1) (d9 (dC (.ty "int")) o7))))
 (M5 (dAndV (dCB pIsi (d9 (j6 0) (d9 (dC (.ty "int")) o7))) (dAndV (dNotV (dCB pIsi (d9 (j6 0) (d9 (dC (.ty "bool")) o7)))) (dOp pEq (j6 0) (j6 1)))))
 O5)
 (t8 (dIfS (K8 (dCB pIsi (d9 (j6 1) (d9 (dC (.ty "str")) o7))))
 (M5 (dAndV (dCB pIsi (d9 (j6 0) (d9 (dC (.ty "str")) o7))) (dOp pEq (j6 0) (j6 1))))
 O5)
 (t8 (dIfS (dtAnd (K8 (dCB pIsi (d9 (j6 1) (d9 (dC (.ty "tuple")) o7)))) (dtNot (K8 (dCB pIsi (d9 (j6 0) (d9 (dC (.ty "tuple")) o7))))))
 (M5 (dC (.bl false)))
 O5)
 (t8 (dIfS (dtAnd (K8 (dCB pIsi (d9 (j6 1) (d9 (dC (.ty "list")) o7)))) (dtNot (K8 (dCB pIsi (d9 (j6 0) (d9 (dC (.ty "list")) o7))))))
 (M5 (dC (.bl false)))
 O5)
 (t8 (dIfS (K8 (dOp pNe (dCB pLen (d9 (j6 0) o7)) (dCB pLen (d9 (j6 1) o7))))
 (M5 (dC (.bl false)))
 O5)
 (t8 (dFor (diR1 (d9 (dCB pLen (d9 (j6 1) o7)) o7)) (N7 2)
 (dWp [2] (aji REC)))
 (M5 (dC (.bl true)))))))))))
def aba:Nat→Ev→RE X
  | 0=>fun _=>.bad
  | n+1=>fnM 3 2 (ae4 (aba n))
theorem ahP:∀ n,NoSl (aba n)
  | 0=>abu
  | n+1=>O7
def acr:Ev→RS:=(t8 (dSetF acJ 0 "lines" (j6 1))
 (dSetF abV 0 "place" (dC (.int 0))))
def aaq:Ev→RE X:=fnM 2 2 acr
theorem ahv:NoSl aaq:=O7
theorem amo:NoSl adn:=O7
theorem acs:NoSl Y5:=O7
theorem agM:NoSl acP:=O7
theorem aic:NoSl abt:=O7
theorem amq:NoSl ado:=O7
theorem ajM:NoSl adC:=O7
theorem aka:NoSl acE:=O7
theorem ada:NoSl Z0:=O7
theorem ahw:∀ c den,MTab.get aaz c=some den→NoSl den:=fun c den h=>by
  have h:=MTab.mem h
  simp only [aaz,List.mem_cons,Prod.mk.injEq,List.not_mem_nil,or_false] at h
  rcases h with ⟨rfl,rfl⟩
  · exact ada
theorem aiF:∀ n,∀ c den,MTab.get (X7 n) c=some den→NoSl den
  | 0=>fun c den h=>by
    have h:=MTab.mem h
    simp only [X7,j9,List.mem_cons,Prod.mk.injEq,List.not_mem_nil,or_false] at h
    rcases h with ⟨rfl,rfl⟩
    · exact abu
  | n+1=>fun c den h=>by
    have h:=MTab.mem h
    simp only [X7,j9,List.mem_cons,Prod.mk.injEq,List.not_mem_nil,or_false] at h
    rcases h with ⟨rfl,rfl⟩
    · exact O7
theorem agN:∀ n,∀ c den,MTab.get (U6 n) c=some den→NoSl den
  | 0=>fun c den h=>by
    have h:=MTab.mem h
    simp only [U6,j9,List.mem_cons,Prod.mk.injEq,List.not_mem_nil,or_false] at h
    rcases h with ⟨rfl,rfl⟩
    · exact abu
  | n+1=>fun c den h=>by
    have h:=MTab.mem h
    simp only [U6,j9,List.mem_cons,Prod.mk.injEq,List.not_mem_nil,or_false] at h
    rcases h with ⟨rfl,rfl⟩
    · exact O7
theorem adx:∀ n,∀ c den,MTab.get (aaF n) c=some den→NoSl den
  | 0=>fun c den h=>by
    have h:=MTab.mem h
    simp only [aaF,j9,List.mem_cons,Prod.mk.injEq,List.not_mem_nil,or_false] at h
    rcases h with ⟨rfl,rfl⟩
    · exact abu
  | n+1=>fun c den h=>by
    have h:=MTab.mem h
    simp only [aaF,j9,List.mem_cons,Prod.mk.injEq,List.not_mem_nil,or_false] at h
    rcases h with ⟨rfl,rfl⟩
    · exact O7
def aet:Ev→RS:=(t8 (dAsg 1 (akZ "Reader" aaq (d9 (dFrz (dM1 pSplit (j6 0) (dC (.str "\n")))) o7)))
 (t8 (dAsg 2 (dMethF (MTab.get (aaF 270)) "node" (j6 1) o7))
 (t8 (dIfS (K8 (dOp (pCmp fun i j=>decide (i < j)) (ad2 abV "place" (j6 1)) (dCB pLen (d9 (ad2 acJ "lines" (j6 1)) o7))))
 dNever
 O5)
 (M5 (j6 2)))))
def ac4:Ev→RE X:=fnM 3 1 aet
theorem alk:NoSl ac4:=O7
def aoZ:Ev→RS:=(t8 (dAsg 4 (dCall adt (d9 (j6 0) (d9 (j6 2) o7))))
 (t8 (dAsg 5 (dFrz (dCall acZ (d9 (j6 4) (d9 (dC (.int 1)) (d9 (dC (.int 5)) o7))))))
 (t8 (dAsg 3 (dFrz (dCall (aa9 40) (d9 (j6 4) (d9 (j6 5) (d9 (dTup o7) (d9 (dLst (d9 (dCall K9 (d9 (j6 4) (d9 (dC (.int 30)) o7))) o7)) o7)))))))
 (t8 (dIfS (K8 (dOp pEq (dCall K9 (d9 (j6 4) (d9 (dC (.int 8)) o7))) (dC (.int 0))))
 (dAsg 3 (dFrz (dCall ac0 (d9 (j6 4) (d9 (j6 5) (d9 (j6 3) (d9 (dFrz (dCall K9 (d9 (j6 4) (d9 (dC (.int 101)) o7)))) o7)))))))
 O5)
 (dDrop (dMut 1 OD.isL mApp (d9 (j6 3) o7)))))))
def ao0:Ev→RS:=(t8 (dAsg 6 (dM1 pJoin (dC (.str "\n")) (dCall ac1 (d9 (j6 3) o7))))
 (t8 (dAsg 7 (dFrz (dCall ac3 (d9 (j6 3) o7))))
 (t8 (dIfS (dtOr (dtNot (K8 (dCB pIsi (d9 (j6 7) (d9 (dC (.ty "str")) o7))))) (K8 (dOp pNe (j6 7) (j6 6))))
 (M5 (dC (.bl false)))
 O5)
 (dIfS (dtNot (K8 (dCall (aba 220) (d9 (dFrz (dCall ac4 (d9 (j6 6) o7))) (d9 (j6 3) o7)))))
 (M5 (dC (.bl false)))
 O5))))
def anx:Ev→RS:=(t8 (dAsg 1 (dLst o7))
 (t8 (dFor (diR1 (d9 (dC (.int 2)) o7)) (N7 2)
 (dWp [2,3,4,5] aoZ))
 (t8 (dFor (diSeq (dLst (d9 (dOp pIx (j6 1) (dC (.int 0))) (d9 (dOp pIx (j6 1) (dC (.int 1))) (d9 (dOp pIx (j6 1) (dC (.int 0))) o7))))) (N7 3)
 (dWp [3,6,7] ao0))
 (M5 (dC (.bl true))))))
def akx:Ev→RE X:=fnM 8 1 anx
end Wk
namespace Wk
open PySem PySem.Spec PyProof.Rows L2 Dn
theorem arA (s:PySem.W.SharedT):ob s=hk.obs s.abs:=aoT (HandSHeadRun.getT_eq s)
end Wk
namespace Tn
open PySem PySem.Spec PyProof.Rows L2 Dn
inductive PR (α:Type) where
  | ok (a:α) | exc (e:Xn) | bad
namespace PR
variable {α β γ:Type}
def bind (r:PR α) (f:α→PR β):PR β:=match r with
  | .ok a=>f a
  | .exc e=>.exc e
  | .bad=>.bad
def o:PR α→Option α
  | .ok a=>some a
  | _=>none
def opt:Option α→PR α
  | some a=>.ok a
  | none=>.bad
def lt (a:α) (f:α→PR β):PR β:=f a
def aoe (r:PR α) (h:Xn→PR α):PR α:=match r with
  | .exc e=>h e
  | r=>r
def calm (r:PR α):PR α:=match r with
  | .exc _=>.bad
  | r=>r
@[simp] theorem m9 (a:α) (f:α→PR β):(PR.ok a).bind f=f a:=rfl
@[simp] theorem arQ (e:Xn) (f:α→PR β):(PR.exc e).bind f=.exc e:=rfl
@[simp] theorem arR (f:α→PR β):(PR.bad).bind f=.bad:=rfl
@[simp] theorem alm (a:α):(PR.ok a).o=some a:=rfl
@[simp] theorem asp (e:Xn):(PR.exc e:PR α).o=none:=rfl
@[simp] theorem asq:(PR.bad:PR α).o=none:=rfl
@[simp] theorem m7 (a:α):PR.opt (some a)=.ok a:=rfl
@[simp] theorem arS:PR.opt (none:Option α)=.bad:=rfl
@[simp] theorem lt_eq (a:α) (f:α→PR β):PR.lt a f=f a:=rfl
@[simp] theorem arT (a:α) (h:Xn→PR α):(PR.ok a).aoe h=.ok a:=rfl
@[simp] theorem arM (e:Xn) (h:Xn→PR α):(PR.exc e).aoe h=h e:=rfl
@[simp] theorem asf (a:α):(PR.ok a).calm=.ok a:=rfl
@[simp] theorem arU (e:Xn):(PR.exc e:PR α).calm=.bad:=rfl
theorem bind_assoc (r:PR α) (f:α→PR β) (g:β→PR γ):(r.bind f).bind g=r.bind fun a=>(f a).bind g:=by cases r <;> rfl
end PR
abbrev XIf:=Xn→Ev→Prop
def RV {γ β:Type} (res:RE γ) (ex:β→γ) (ee:β→Ev) (XI:XIf) (r:PR β):Prop:=match r with
  | .ok v=>res=.ok (ex v) (ee v)
  | .exc x=>∃ e,res=.exc x e∧XI x e
  | .bad=>True
def RS' {β:Type} (res:RS) (Φ:β→RS→Prop) (XI:XIf) (r:PR β):Prop:=match r with
  | .ok v=>Φ v res
  | .exc x=>∃ e,res=.exc x e∧XI x e
  | .bad=>True
section
variable {γ δ β β' κ:Type} {XI:XIf}
theorem anz {x:γ} {env:Ev} {ex:β→γ} {ee:β→Ev} {v:β} (hx:x=ex v) (he:env=ee v):RV (.ok x env) ex ee XI (.ok v):=by
  subst hx he; rfl
theorem X4 {res:RE γ} {x:γ} {env:Ev} {ex:β→γ} {v:β} (h:res=.ok x env) (hx:x=ex v):RV res ex (fun _=>env) XI (.ok v):=by
  subst hx; exact h
theorem U0 {res:RE γ} {k:γ→Ev→RE δ} {exa:β→γ} {eea:β→Ev} {ex:β'→δ} {ee:β'→Ev} {r:PR β} {rk:β→PR β'} (h:RV res exa eea XI r) (hk:∀ v,RV (k (exa v) (eea v)) ex ee XI (rk v)):RV (res.bind k) ex ee XI (r.bind rk):=by
  cases r with
  | ok v=>
    have h:res=.ok (exa v) (eea v):=h
    subst h
    exact hk v
  | exc x=>
    obtain ⟨e,h,hx⟩:=h
    subst h
    exact ⟨e,rfl,hx⟩
  | bad=>trivial
theorem aiG {o:Option γ} {env:Ev} {ex:β→γ} {r:Option β} (h:∀ z,r=some z→o=some (ex z)):RV (opt o env) ex (fun _=>env) XI (PR.opt r):=by
  cases r with
  | none=>trivial
  | some z=>rw [h z rfl]; rfl
theorem abh {res:RE γ} {exa:β→γ} {eea:β→Ev} {ex:β'→γ} {ee:β'→Ev} {r:PR β} {f:β→β'} (h:RV res exa eea XI r) (hx:∀ v,exa v=ex (f v)) (he:∀ v,eea v=ee (f v)):RV res ex ee XI (r.bind fun v=>.ok (f v)):=by
  cases r with
  | ok v=>show _=_; rw [← hx v,← he v]; exact h
  | exc x=>exact h
  | bad=>trivial
theorem aeu {res:RE γ} {ex:β→γ} {ee:β→Ev} {XI':XIf} {r:PR β} (h:RV res ex ee XI' r):RV res ex ee XI (PR.opt r.o):=by
  cases r with
  | ok v=>exact h
  | exc x=>trivial
  | bad=>trivial
end
section
variable {α β:Type}
def j5 (e:α→D) (xs:List α):D:=.tup (xs.map e)
def t7 (e:α→D) (xs:List α):D:=.lst (xs.map e)
def oLst (e:α→D) (xs:List α):OD:=.lst (xs.map e)
def ePr (e:α→D) (f:β→D) (p:α×β):D:=.tup [e p.1,f p.2]
def Q7 {γ:Type} (e:α→D) (f:β→D) (g:γ→D) (p:α×β×γ):D:=.tup [e p.1,f p.2.1,g p.2.2]
def ePr4 {γ δ:Type} (e:α→D) (f:β→D) (g:γ→D) (h:δ→D) (p:α×β×γ×δ):D:=.tup [e p.1,f p.2.1,g p.2.2.1,h p.2.2.2]
def ePr5 {γ δ ε:Type} (e:α→D) (f:β→D) (g:γ→D) (h:δ→D) (k:ε→D) (p:α×β×γ×δ×ε):D:=.tup [e p.1,f p.2.1,g p.2.2.1,h p.2.2.2.1,k p.2.2.2.2]
def anA (e:α→D):Option α→D
  | none=>.non
  | some a=>e a
def eScr (ns:List Int):D:=.scr ns
def eU (_:Unit):D:=.non
abbrev eD (d:D):D:=d
theorem aid {α β:Type} {f:α→β} (h:∀ x y,f x=f y→x=y):∀ xs ys:List α,xs.map f=ys.map f→xs=ys
  | [],[],_=>rfl
  | [],_ :: _,e=>by simp at e
  | _ :: _,[],e=>by simp at e
  | x :: xs,y :: ys,e=>by
    simp only [List.map_cons,List.cons.injEq] at e
    rw [h x y e.1,aid h xs ys e.2]
end
end Tn
namespace Tn
open PySem PySem.Spec PyProof.Rows L2 Dn
section
variable {α β β1 β2 β3 γ κ:Type} {XI:XIf} {env e1:Ev}
theorem aat {δ:Type} (x:γ) (env:Ev) (k:γ→Ev→RE δ):(RE.ok x env).bind k=k x env:=rfl
theorem j7 {i:Nat} {d:D} (h:env[i]?=some (.im d)):j6 i env=.ok (.im d) env:=by simp [j6,h]
theorem M6 {i:Nat} {p:Bool} {o:OD} (h:env[i]?=some (.ow p o)):j6 i env=.ok (.sl i) env:=by simp [j6,h]
def OpS (f:D→D→Option X) (dx dy:D) (ex:β→X) (r:Option β):Prop:=∀ z,r=some z→f dx dy=some (ex z)
def UnS (f:D→Option X) (dx:D) (ex:β→X) (r:Option β):Prop:=∀ z,r=some z→f dx=some (ex z)
def CbS (f:List D→Option X) (ds:List D) (ex:β→X) (r:Option β):Prop:=∀ z,r=some z→f ds=some (ex z)
variable {f:D→D→Option X} {fu:D→Option X} {fc:List D→Option X} {da db dd:Ev→RE X} {dl:Ev→RE (List X)} {x y z:X} {dx dy:D} {ds:List D} {xs:List X}
theorem oc {ex:β→X} {r:Option β} (hx:rd env x=some dx) (hy:rd env y=some dy) (h:OpS f dx dy ex r):RV (opt ((rd env x).bind fun dx=>(rd env y).bind fun dy=>f dx dy) env) ex (fun _=>env) XI (PR.opt r):=aiG fun z hz=>by
  rw [hx,hy]; exact h z hz
theorem ocVE {ex:β→X} {ee:β→Ev} {v:β} (hx:rd env x=some dx) (hy:rd env y=some dy) (h:f dx dy=some (ex v)) (he:env=ee v):RV (opt ((rd env x).bind fun dx=>(rd env y).bind fun dy=>f dx dy) env) ex ee XI (.ok v):=by
  rw [hx,hy]
  show opt (f dx dy) env=_
  rw [h,he]; rfl
theorem uc {ex:β→X} {r:Option β} (hx:rd env x=some dx) (h:UnS fu dx ex r):RV (opt ((rd env x).bind fu) env) ex (fun _=>env) XI (PR.opt r):=aiG fun z hz=>by
  rw [hx]; exact h z hz
theorem ucVE {ex:β→X} {ee:β→Ev} {v:β} (hx:rd env x=some dx) (h:fu dx=some (ex v)) (he:env=ee v):RV (opt ((rd env x).bind fu) env) ex ee XI (.ok v):=by
  rw [hx]
  show opt (fu dx) env=_
  rw [h,he]; rfl
theorem cc {ex:β→X} {r:Option β} (hx:rds env xs=some ds) (h:CbS fc ds ex r):RV (opt ((rds env xs).bind fc) env) ex (fun _=>env) XI (PR.opt r):=aiG fun z hz=>by
  rw [hx]; exact h z hz
theorem ccVE {ex:β→X} {ee:β→Ev} {v:β} (hx:rds env xs=some ds) (h:fc ds=some (ex v)) (he:env=ee v):RV (opt ((rds env xs).bind fc) env) ex ee XI (.ok v):=by
  rw [hx]
  show opt (fc ds) env=_
  rw [h,he]; rfl
theorem ocV {ex:β→X} {v:β} (hx:rd env x=some dx) (hy:rd env y=some dy) (h:f dx dy=some (ex v)):RV (opt ((rd env x).bind fun dx=>(rd env y).bind fun dy=>f dx dy) env) ex (fun _=>env) XI (.ok v):=ocVE hx hy h rfl
theorem ucV {ex:β→X} {v:β} (hx:rd env x=some dx) (h:fu dx=some (ex v)):RV (opt ((rd env x).bind fu) env) ex (fun _=>env) XI (.ok v):=ucVE hx h rfl
theorem ccV {ex:β→X} {v:β} (hx:rds env xs=some ds) (h:fc ds=some (ex v)):RV (opt ((rds env xs).bind fc) env) ex (fun _=>env) XI (.ok v):=ccVE hx h rfl
theorem wE {res:RE γ} {ex:β→γ} {σ:Type} {E:σ→Ev} {r:PR β} {s:σ} (h:RV res ex (fun _=>E s) XI r):RV res (fun p:β×σ=>ex p.1) (fun p=>E p.2) XI (r.bind fun z=>.ok (z,s)):=by
  cases r with
  | ok v=>exact h
  | exc x=>exact h
  | bad=>trivial
theorem S8 (ha:da env=.ok x env) (hb:db env=.ok y env) (hx:rd env x=some dx) (hy:rd env y=some dy) (h:f dx dy=some z):dOp f da db env=.ok z env:=by
  simp [dOp,ha,hb,hx,hy,h,RE.bind,opt]
theorem K7 {ex:β→X} {ee:β→Ev} {r:PR β} (ha:da env=.ok x env) (hb:db env=.ok y env) (h:RV (opt ((rd env x).bind fun dx=>(rd env y).bind fun dy=>f dx dy) env) ex ee XI r):RV (dOp f da db env) ex ee XI r:=by
  unfold dOp; rw [ha]; simp only [RE.bind]; rw [hb]; exact h
theorem Y7 {exb:β1→X} {eeb:β1→Ev} {ex:β→X} {ee:β→Ev} {rb:PR β1} {r:β1→PR β} (ha:da env=.ok x env) (hb:RV (db env) exb eeb XI rb) (h:∀ v,RV (opt ((rd (eeb v) x).bind fun dx=>(rd (eeb v) (exb v)).bind fun dy=>f dx dy) (eeb v)) ex ee XI (r v)):RV (dOp f da db env) ex ee XI (rb.bind r):=by
  unfold dOp; rw [ha,aat]; exact U0 hb h
theorem O9 {exa:β1→X} {eea:β1→Ev} {ex:β→X} {ee:β→Ev} {ra:PR β1} {r:β1→PR β} {yf:β1→X} (ha:RV (da env) exa eea XI ra) (hb:∀ v,db (eea v)=.ok (yf v) (eea v)) (h:∀ v,RV (opt ((rd (eea v) (exa v)).bind fun dx=>(rd (eea v) (yf v)).bind fun dy=>f dx dy) (eea v)) ex ee XI (r v)):RV (dOp f da db env) ex ee XI (ra.bind r):=
  U0 ha fun v=>by rw [hb v]; exact h v
theorem abI {exa:β1→X} {eea:β1→Ev} {exb:β1→β2→X} {eeb:β1→β2→Ev} {ex:β→X} {ee:β→Ev} {ra:PR β1} {rb:β1→PR β2} {r:β1→β2→PR β} (ha:RV (da env) exa eea XI ra) (hb:∀ v,RV (db (eea v)) (exb v) (eeb v) XI (rb v)) (h:∀ v w,RV (opt ((rd (eeb v w) (exa v)).bind fun dx=>(rd (eeb v w) (exb v w)).bind fun dy=>f dx dy) (eeb v w)) ex ee XI (r v w)):RV (dOp f da db env) ex ee XI (ra.bind fun v=>(rb v).bind (r v)):=
  U0 ha fun v=>U0 (hb v) (h v)
theorem aiH {ex:β→X} {ee:β→Ev} {r:PR β} (ha:da env=.ok x env) (h:RV (opt ((rd env x).bind fu) env) ex ee XI r):RV (dUn fu da env) ex ee XI r:=by
  unfold dUn; rw [ha]; exact h
theorem aof {exa:β1→X} {eea:β1→Ev} {ex:β→X} {ee:β→Ev} {ra:PR β1} {r:β1→PR β} (ha:RV (da env) exa eea XI ra) (h:∀ v,RV (opt ((rd (eea v) (exa v)).bind fu) (eea v)) ex ee XI (r v)):RV (dUn fu da env) ex ee XI (ra.bind r):=U0 ha h
theorem pa_nil:o7 env=.ok [] env:=rfl
theorem pa_cons (ha:da env=.ok x env) (hr:dl env=.ok xs env):d9 da dl env=.ok (x :: xs) env:=by
  simp [d9,ha,hr,RE.bind]
theorem U4 {exs:β1→List X} {ees:β1→Ev} {r:PR β1} (ha:da env=.ok x env) (hr:RV (dl env) exs ees XI r):RV (d9 da dl env) (fun v=>x :: exs v) ees XI r:=by
  unfold d9; rw [ha]
  simp only [RE.bind]
  cases r with
  | ok v=>
    have hr:dl env=_:=hr
    show _=_
    rw [hr]
  | exc x=>
    obtain ⟨e,hr,hx⟩:=hr
    exact ⟨e,by rw [hr],hx⟩
  | bad=>trivial
theorem N6 {exa:β1→X} {eea:β1→Ev} {xf:β1→List X} {r:PR β1} (ha:RV (da env) exa eea XI r) (hr:∀ v,dl (eea v)=.ok (xf v) (eea v)):RV (d9 da dl env) (fun v=>exa v :: xf v) eea XI r:=by
  unfold d9
  cases r with
  | ok v=>
    have ha:da env=_:=ha
    show _=_
    rw [ha]
    simp only [RE.bind]
    rw [hr]
  | exc x=>
    obtain ⟨e,ha,hx⟩:=ha
    exact ⟨e,by rw [ha]; rfl,hx⟩
  | bad=>trivial
theorem ahd {exa:β1→X} {eea:β1→Ev} {exb:β1→β2→List X} {eeb:β1→β2→Ev} {exs:β→List X} {ees:β→Ev} {ra:PR β1} {rb:β1→PR β2} {pk:β1→β2→β} (ha:RV (da env) exa eea XI ra) (hb:∀ v,RV (dl (eea v)) (exb v) (eeb v) XI (rb v)) (hx:∀ v w,exa v :: exb v w=exs (pk v w)) (he:∀ v w,eeb v w=ees (pk v w)):RV (d9 da dl env) exs ees XI (ra.bind fun v=>(rb v).bind fun w=>.ok (pk v w)):=
  U0 ha fun v=>U0 (hb v) fun w=>anz (v:=pk v w) (hx v w) (he v w)
theorem abb (ha:dl env=.ok xs env) (hx:rds env xs=some ds) (h:fc ds=some z):dCB fc dl env=.ok z env:=by
  simp [dCB,ha,hx,h,RE.bind,opt]
theorem V7 {ex:β→X} {ee:β→Ev} {r:PR β} (ha:dl env=.ok xs env) (h:RV (opt ((rds env xs).bind fc) env) ex ee XI r):RV (dCB fc dl env) ex ee XI r:=by
  unfold dCB; rw [ha]; exact h
theorem aar {exa:β1→List X} {eea:β1→Ev} {ex:β→X} {ee:β→Ev} {ra:PR β1} {r:β1→PR β} (ha:RV (dl env) exa eea XI ra) (h:∀ v,RV (opt ((rds (eea v) (exa v)).bind fc) (eea v)) ex ee XI (r v)):RV (dCB fc dl env) ex ee XI (ra.bind r):=U0 ha h
theorem afN {d:D} (ha:da env=.ok x env) (h:frz x=some d):dFrz da env=.ok (.im d) env:=by
  simp [dFrz,ha,h,RE.bind,opt]
theorem T5 {exa:β→X} {ee:β→Ev} {df:β→D} {r:PR β} (ha:RV (da env) exa ee XI r) (h:∀ v,frz (exa v)=some (df v)):RV (dFrz da env) (fun v=>.im (df v)) ee XI r:=by
  unfold dFrz
  cases r with
  | ok v=>
    have ha:da env=_:=ha
    show _=_
    rw [ha]
    simp only [RE.bind]
    rw [h]; rfl
  | exc x=>
    obtain ⟨e,ha,hx⟩:=ha
    exact ⟨e,by rw [ha]; rfl,hx⟩
  | bad=>trivial
theorem aeL (ha:dl env=.ok xs env) (h:frzs xs=some ds) (hf:fit ds.length=true):dTup dl env=.ok (.im (.tup ds)) env:=by
  simp [dTup,ha,h,hf,RE.bind,opt]
theorem ady {exa:β→List X} {ee:β→Ev} {df:β→List D} {r:PR β} (ha:RV (dl env) exa ee XI r) (h:∀ v,frzs (exa v)=some (df v)) (hf:∀ v,fit (df v).length=true):RV (dTup dl env) (fun v=>.im (.tup (df v))) ee XI r:=by
  unfold dTup
  cases r with
  | ok v=>
    have ha:dl env=_:=ha
    show _=_
    rw [ha]
    simp only [RE.bind]
    rw [h]; simp [hf,opt]
  | exc x=>
    obtain ⟨e,ha,hx⟩:=ha
    exact ⟨e,by rw [ha]; rfl,hx⟩
  | bad=>trivial
theorem aeM (ha:dl env=.ok xs env) (h:frzs xs=some ds) (hf:fit ds.length=true):dLst dl env=.ok (.ow (.lst ds)) env:=by
  simp [dLst,ha,h,hf,RE.bind,opt]
theorem afO {exa:β→List X} {ee:β→Ev} {df:β→List D} {r:PR β} (ha:RV (dl env) exa ee XI r) (h:∀ v,frzs (exa v)=some (df v)) (hf:∀ v,fit (df v).length=true):RV (dLst dl env) (fun v=>.ow (.lst (df v))) ee XI r:=by
  unfold dLst
  cases r with
  | ok v=>
    have ha:dl env=_:=ha
    show _=_
    rw [ha]
    simp only [RE.bind]
    rw [h]; simp [hf,opt]
  | exc x=>
    obtain ⟨e,ha,hx⟩:=ha
    exact ⟨e,by rw [ha]; rfl,hx⟩
  | bad=>trivial
variable {dlo dhi:Ev→RE (Option Int)} {lo hi:Option Int}
theorem aln:dNone env=.ok none env:=rfl
theorem agO {i:Int} (ha:da env=.ok x env) (h:rd env x=some (.int i)):dSome da env=.ok (some i) env:=by
  simp [dSome,ha,h,RE.bind]
theorem aky {d:D} (ha:da env=.ok x env) (hl:dlo env=.ok lo env) (hh:dhi env=.ok hi env) (hx:rd env x=some d) (h:pSl d lo hi=some z):dSl da dlo dhi env=.ok z env:=by
  simp [dSl,ha,hl,hh,hx,h,RE.bind,opt]
variable {dt dt':Ev→RE Bool} {b c:Bool}
theorem T9 (ha:da env=.ok x env) (h:rd env x=some (.bl b)):K8 da env=.ok b env:=by
  simp [K8,ha,h,RE.bind]
theorem Q9 {exa:β→X} {ee:β→Ev} {g:β→Bool} {r:PR β} (ha:RV (da env) exa ee XI r) (h:∀ v,rd (ee v) (exa v)=some (.bl (g v))):RV (K8 da env) g ee XI r:=by
  unfold K8
  cases r with
  | ok v=>
    have ha:da env=_:=ha
    show _=_
    rw [ha]
    simp only [RE.bind]
    rw [h]
  | exc x=>
    obtain ⟨e,ha,hx⟩:=ha
    exact ⟨e,by rw [ha]; rfl,hx⟩
  | bad=>trivial
theorem abR:(fun env=>RE.ok true env:Ev→RE Bool) env=.ok true env:=rfl
theorem aa0 {g:β→Bool} {ee:β→Ev} {r:PR β} (h:RV (dt env) g ee XI r):RV (dtNot dt env) (fun v=>!(g v)) ee XI r:=by
  unfold dtNot
  cases r with
  | ok v=>
    have h:dt env=_:=h
    show _=_
    rw [h]; rfl
  | exc x=>
    obtain ⟨e,h,hx⟩:=h
    exact ⟨e,by rw [h]; rfl,hx⟩
  | bad=>trivial
theorem arB (h:dt env=.ok b env) (h':dt' env=.ok c env):dtOr dt dt' env=.ok (b || c) env:=by
  cases b <;> simp [dtOr,h,h',RE.bind]
theorem ao1 {ex:β→Bool} {ee:β→Ev} {r r':PR β} (h:dt env=.ok b env) (hb:RV (dt' env) ex ee XI r) (hf:RV (.ok false env) ex ee XI r'):RV (dtAnd dt dt' env) ex ee XI (if b=true then r else r'):=by
  unfold dtAnd; rw [h]; cases b <;> simp [RE.bind] <;> assumption
theorem amR {ex:β→Bool} {ee:β→Ev} {r r':PR β} (h:dt env=.ok b env) (hb:RV (dt' env) ex ee XI r) (hf:RV (.ok true env) ex ee XI r'):RV (dtOr dt dt' env) ex ee XI (if b=true then r' else r):=by
  unfold dtOr; rw [h]; cases b <;> simp [RE.bind] <;> assumption
theorem alo {exa:β1→Bool} {eea:β1→Ev} {ex:β→Bool} {ee:β→Ev} {ra:PR β1} {r r':β1→PR β} (h:RV (dt env) exa eea XI ra) (hb:∀ v,RV (dt' (eea v)) ex ee XI (r v)) (hf:∀ v,RV (.ok false (eea v)) ex ee XI (r' v)):RV (dtAnd dt dt' env) ex ee XI (ra.bind fun v=>if exa v=true then r v else r' v):=
  U0 h fun v=>by split; exact hb v; exact hf v
theorem afq {exa:β1→Bool} {eea:β1→Ev} {ex:β→Bool} {ee:β→Ev} {ra:PR β1} {r r':β1→PR β} (h:RV (dt env) exa eea XI ra) (hb:∀ v,RV (dt' (eea v)) ex ee XI (r v)) (hf:∀ v,RV (.ok true (eea v)) ex ee XI (r' v)):RV (dtOr dt dt' env) ex ee XI (ra.bind fun v=>if exa v=true then r' v else r v):=
  U0 h fun v=>by split; exact hf v; exact hb v
theorem aqP {exa:β→X} {ee:β→Ev} {g:β→Bool} {r:PR β} (ha:RV (da env) exa ee XI r) (h:∀ v,rd (ee v) (exa v)=some (.bl (g v))):RV (dNotV da env) (fun v=>.im (.bl (!(g v)))) ee XI r:=by
  have:=Q9 ha h
  unfold dNotV
  cases r with
  | ok v=>
    have h:K8 da env=_:=this
    show _=_
    rw [h]; rfl
  | exc x=>
    obtain ⟨e,h,hx⟩:=this
    exact ⟨e,by rw [h]; rfl,hx⟩
  | bad=>trivial
theorem amS {ex:β→X} {ee:β→Ev} {r r':PR β} (ha:da env=.ok x env) (h:rd env x=some (.bl b)) (hb:RV (db env) ex ee XI r) (hf:RV (.ok (.im (.bl true)) env) ex ee XI r'):RV (dOrV da db env) ex ee XI (if b=true then r' else r):=by
  cases b <;> simp [dOrV,K8,ha,h,RE.bind] <;> assumption
theorem aev {exa:β1→X} {eea:β1→Ev} {g:β1→Bool} {ex:β→X} {ee:β→Ev} {ra:PR β1} {r r':β1→PR β} (ha:RV (da env) exa eea XI ra) (h:∀ v,rd (eea v) (exa v)=some (.bl (g v))) (hb:∀ v,RV (db (eea v)) ex ee XI (r v)) (hf:∀ v,RV (.ok (.im (.bl false)) (eea v)) ex ee XI (r' v)):RV (dAndV da db env) ex ee XI (ra.bind fun v=>if g v=true then r v else r' v):=
  U0 (Q9 ha h) fun v=>by split; exact hb v; exact hf v
theorem amr {p q:Int→Int→Bool} {i k:Int} {z:X} {exb:β1→X} {g:β1→Int} {rb:PR β1} {E:Ev} (ha:da env=.ok x env) (hb:RV (db env) exb (fun _=>E) XI rb) (hd:dd E=.ok z E) (hx:rd E x=some (.int i)) (hy:∀ v,rd E (exb v)=some (.int (g v))) (hz:rd E z=some (.int k)):RV (dChain p q da db dd env) (fun b=>.im (.bl b)) (fun _=>E) XI (rb.bind fun v=>.ok (p i (g v)&&q (g v) k)):=by
  unfold dChain; rw [ha]; simp only [aat]
  refine U0 hb fun v=>?_
  simp only [hx,hy v]
  cases h:p i (g v)
  · rfl
  · rw [hd]
    simp only [aat,hz]
    rfl
end
end Tn
namespace Tn
open PySem PySem.Spec PyProof.Rows L2 Dn
section
variable {α β β1 β2 β3 γ κ σ:Type} {XI XF:XIf} {env e1:Ev}
variable {da db dd:Ev→RE X} {dl:Ev→RE (List X)} {x y z:X} {dx dy d:D} {ds:List D} {xs:List X} {m den:Ev→RE X} {ps:Ev}
theorem rv_eq {res res':RE γ} {ex:β→γ} {ee:β→Ev} {r:PR β} (e:res=res') (h:RV res' ex ee XI r):RV res ex ee XI r:=e▸h
theorem w6 {ex:β→X} {pe E1:β→Ev} {r:Option β} (hp:passXs env xs=some ps) (hn:(slots xs).Nodup∧temps xs≤1) (hf:RV (m ps) ex pe XF (PR.opt r)) (hw:∀ v,wb xs (pe v) env=E1 v):RV (callD m xs env) ex E1 XI (PR.opt r):=by
  unfold callD
  simp only [hp]
  rw [if_pos hn]
  cases r with
  | some v=>
    have hf:m ps=_:=hf
    show _=_
    rw [hf,← hw v]
  | none=>trivial
theorem G8 {ex:β→X} {ee:β→Ev} {r:PR β} (ha:dl env=.ok xs env) (h:RV (callD m xs env) ex ee XI r):RV (dCall m dl env) ex ee XI r:=by
  unfold dCall; rw [ha]; exact h
theorem aaK {exa:β1→List X} {eea:β1→Ev} {ex:β→X} {ee:β→Ev} {ra:PR β1} {r:β1→PR β} (ha:RV (dl env) exa eea XI ra) (h:∀ v,RV (callD m (exa v) (eea v)) ex ee XI (r v)):RV (dCall m dl env) ex ee XI (ra.bind r):=U0 ha h
theorem ab6 {tab:Str→Option (Ev→RE X)} {nm c:Str} {fs:List (Str×D)} {ex:β→X} {ee:β→Ev} {r:PR β} (ho:dd env=.ok x env) (hr:recvX env x=some (c,fs)) (ht:tab c=some den) (hl:(fs.lookup nm).isNone=true) (ha:dl env=.ok xs env) (h:RV (callD den (x :: xs) env) ex ee XI r):RV (dMethF tab nm dd dl env) ex ee XI r:=by
  unfold dMethF; rw [ho]; simp only [RE.bind,hr,ht,hl,if_true]; rw [ha]; exact h
variable {g:X→X→Ev→RE X}
variable {tab:Str→Option (Ev→RE X)} {R:List Str} {c c2:Str} {fs gs:List (Str×D)} {den2:Ev→RE X}
theorem ao2 {oo:β→OD} {pe E1:β→Ev} {r:Option β} (hp:passXs env xs=some ps) (hn:(slots xs).Nodup∧temps xs=0) (hf:RV (m (.ow true (.ob c []) :: ps)) (fun _=>.im .non) (fun v=>.ow true (oo v) :: pe v) XF (PR.opt r)) (hw:∀ v,wb xs (pe v) env=E1 v):RV (makeD c m xs env) (fun v=>.ow (oo v)) E1 XI (PR.opt r):=by
  unfold makeD
  simp only [hp]
  rw [if_pos hn]
  cases r with
  | some v=>
    have hf:m _=_:=hf
    show _=_
    rw [hf,← hw v]
  | none=>trivial
theorem ao3 {exa:β1→List X} {eea:β1→Ev} {ex:β→X} {ee:β→Ev} {ra:PR β1} {r:β1→PR β} (ha:RV (dl env) exa eea XI ra) (h:∀ v,RV (makeD c m (exa v) (eea v)) ex ee XI (r v)):RV (akZ c m dl env) ex ee XI (ra.bind r):=U0 ha h
variable {T:List Str} {fn:Str}
theorem ahe (ha:dd env=.ok x env) (hr:rcvA env x=some (c,fs)) (hc:c∈T) (h:fs.lookup fn=some d):ad2 T fn dd env=.ok (.im d) env:=by
  simp [ad2,ha,hr,hc,h,RE.bind]
variable {i:Nat} {isT:OD→Bool} {fm:OD→List D→Option (D×OD)} {od:OD} {p:Bool}
theorem afr {exd:β→D} {oo:β→OD} {E1:β→Ev} {r:Option β} (hs:slotOf env i=some (p,od)) (hT:isT od=true) (ha:dl env=.ok xs env) (hf:frzs xs=some ds) (h:∀ z,r=some z→fm od ds=some (exd z,oo z)) (he:∀ z,env.set i (.ow p (oo z))=E1 z):RV (dMut i isT fm dl env) (fun z=>.im (exd z)) E1 XI (PR.opt r):=by
  unfold dMut
  simp only [hs,Option.map_some,hT,if_true]
  rw [ha]
  simp only [aat,hf,Option.bind_some,hs]
  cases r with
  | none=>trivial
  | some z=>
    show _=_
    rw [h z rfl]
    simp [optE,he z]
theorem adh {exa:β1→List X} {eea:β1→Ev} {dsf:β1→List D} {pf:β1→Bool} {of:β1→OD} {ex:β→X} {ee:β→Ev} {ra:PR β1} {r:β1→PR β} (hs:slotOf env i=some (p,od)) (hT:isT od=true) (ha:RV (dl env) exa eea XI ra) (hf:∀ v,frzs (exa v)=some (dsf v)) (hs':∀ v,slotOf (eea v) i=some (pf v,of v)) (h:∀ v,RV (optE ((fm (of v) (dsf v)).bind fun r=>some (X.im r.1,(eea v).set i (.ow (pf v) r.2)))) ex ee XI (r v)):RV (dMut i isT fm dl env) ex ee XI (ra.bind r):=by
  unfold dMut
  simp only [hs,Option.map_some,hT,if_true]
  refine U0 ha fun v=>?_
  simp only [hf v,Option.bind_some,hs' v]
  exact h v
theorem mc {exd:β→D} {oo:β→OD} {E1:β→Ev} {r:Option β} (h:∀ z,r=some z→fm od ds=some (exd z,oo z)) (he:∀ z,env.set i (.ow p (oo z))=E1 z):RV (optE ((fm od ds).bind fun r=>some (X.im r.1,env.set i (.ow p r.2)))) (fun z=>.im (exd z)) E1 XI (PR.opt r):=by
  cases r with
  | none=>trivial
  | some z=>
    show _=_
    rw [h z rfl]
    simp [optE,he z]
theorem adL {l:List D} {h:Option Nat} (ha:da env=.ok x env) (hx:ofX env x=some (l,h)):diSeq da env=.ok (l,h) env:=by
  simp [diSeq,ha,hx,RE.bind,opt]
theorem acz {exa:β→X} {ee:β→Ev} {l:β→List D} {h:Option Nat} {r:PR β} (ha:RV (da env) exa ee XI r) (hx:∀ v,ofX (ee v) (exa v)=some (l v,h)):RV (diSeq da env) (fun v=>(l v,h)) ee XI r:=by
  unfold diSeq
  cases r with
  | ok v=>
    have ha:da env=_:=ha
    show _=_
    rw [ha]
    simp only [aat,hx v]; rfl
  | exc x=>
    obtain ⟨e,ha,hx⟩:=ha
    exact ⟨e,by rw [ha]; rfl,hx⟩
  | bad=>trivial
def rng (lo:Int) (n:Nat):List Int:=(List.range n).map fun i:Nat=>lo+(i:Int)
theorem amT (lo:Int) (n:Nat):rgD lo n=(rng lo n).map D.int:=by simp [rgD,rng]
def rg1 (j:Int):Option (List Int):=if rgOk j=true then some (rng 0 j.toNat) else none
theorem agP {j:Int} (ha:dl env=.ok xs env) (hx:rds env xs=some [.int j]):RV (diR1 dl env) (fun l=>(l.map D.int,none)) (fun _=>env) XI (PR.opt (rg1 j)):=by
  unfold diR1 rg1
  rw [ha]
  simp only [aat,hx]
  by_cases h:rgOk j=true
  · rw [if_pos h,if_pos h]
    show _=_
    rw [amT]
  · rw [if_neg h,if_neg h]; trivial
theorem r1c {j:Int} (hx:rds env xs=some [.int j]):RV (match rds env xs with
  | some [.int j]=>if rgOk j=true then .ok (rgD 0 j.toNat,none) env else .bad
  | _=>.bad:RE Dn.Its) (fun l=>(l.map D.int,none)) (fun _=>env) XI (PR.opt (rg1 j)):=by
  rw [hx]
  unfold rg1
  by_cases h:rgOk j=true
  · simp only [h,if_true]
    show _=_
    rw [amT]
  · rw [if_neg h]; trivial
theorem aog {exa:β1→List X} {eea:β1→Ev} {j:β1→Int} {ra:PR β1} {s:β1→σ} {E:σ→Ev} (ha:RV (dl env) exa eea XI ra) (hx:∀ v,rds (eea v) (exa v)=some [.int (j v)]) (hE:∀ v,eea v=E (s v)):RV (diR1 dl env) (fun p:List Int×σ=>(p.1.map D.int,none)) (fun p=>E p.2) XI (ra.bind fun v=>(PR.opt (rg1 (j v))).bind fun l=>.ok (l,s v)):=
  U0 ha fun v=>by
    have h:=r1c (XI:=XI) (hx v)
    rw [hE v] at h ⊢
    exact wE h
theorem ap2 {exa:β1→List X} {E:Ev} {j:β1→Int} {ra:PR β1} (ha:RV (dl env) exa (fun _=>E) XI ra) (hx:∀ v,rds E (exa v)=some [.int (j v)]):RV (diR1 dl env) (fun l:List Int=>(l.map D.int,none)) (fun _=>E) XI (ra.bind fun v=>PR.opt (rg1 (j v))):=
  U0 ha fun v=>r1c (XI:=XI) (hx v)
def lcP {α β:Type} (t:α→Option Bool) (f:α→Option β):List α→Nat→Option (List β)
  | [],_=>some []
  | x :: xs,n=>match t x with
    | some true=>(match f x with
      | some y=>if fit (n+1)=true then (lcP t f xs (n+1)).map (y :: ·) else none
      | none=>none)
    | some false=>lcP t f xs n
    | none=>none
def lcS {α β σ:Type} (t:α→σ→Option Bool) (f:α→σ→Option (β×σ)):List α→σ→Nat→Option (List β×σ)
  | [],s,_=>some ([],s)
  | x :: xs,s,n=>match t x s with
    | some true=>(match f x s with
      | some y=>if fit (n+1)=true then (lcS t f xs y.2 (n+1)).map (fun r=>(y.1 :: r.1,r.2)) else none
      | none=>none)
    | some false=>lcS t f xs s n
    | none=>none
variable {dg:D→Ev→Option Ev} {dt:Ev→RE Bool} {de:Ev→RE X} {vs:List Nat} {di:Ev→RE Dn.Its}
theorem alp {e:α→D} {e':β→D} {B:σ→Ev} {Bx:α→σ→Ev} {ex:β→X} {t:α→σ→Option Bool} {f:α→σ→Option (β×σ)} (hg:∀ x s,dg (e x) (B s)=some (Bx x s)) (ht:∀ x s,RV (dt (Bx x s)) (fun b=>b) (fun _=>Bx x s) XI (PR.opt (t x s))) (he:∀ x s,RV (de (Bx x s)) (fun v=>ex v.1) (fun v=>Bx x v.2) XI (PR.opt (f x s))) (hz:∀ y,frz (ex y)=some (e' y)) (hw:∀ x s,O4 (Bx x s) vs=B s):
    ∀ (xs:List α) (s:σ) (acc:List D) (r:List β×σ),lcS t f xs s acc.length=some r→lcGo dg dt de vs (xs.map e) (B s) acc=.ok (acc++r.1.map e') (B r.2)
  | [],s,acc,r,h=>by
    cases h
    simp [lcGo]
  | x :: xs,s,acc,r,h=>by
    have h1:=ht x s
    have h2:=he x s
    unfold lcS at h
    cases htx:t x s with
    | none=>rw [htx] at h; cases h
    | some b=>
      rw [htx] at h h1
      have h1:dt (Bx x s)=.ok b (Bx x s):=h1
      cases b with
      | false=>
        simp only at h
        have ih:=alp hg ht he hz hw xs s acc r h
        simp only [List.map_cons,lcGo,hg,h1,hw,ih]
      | true=>
        simp only at h
        cases hf:f x s with
        | none=>rw [hf] at h; cases h
        | some y=>
          rw [hf] at h h2
          have h2:de (Bx x s)=.ok (ex y.1) (Bx x y.2):=h2
          simp only at h
          by_cases hfit:fit (acc.length+1)=true
          · rw [if_pos hfit] at h
            obtain ⟨r',hr',rfl⟩:=Option.map_eq_some_iff.mp h
            have ih:=alp hg ht he hz hw xs y.2 (acc++[e' y.1]) r' (by simpa using hr')
            simp only [List.map_cons,lcGo,hg,h1,h2,hz,hfit,if_true,hw,ih]
            simp
          · rw [if_neg hfit] at h; cases h
theorem alq {e:α→D} {e':β→D} {B:Ev} {Bx:α→Ev} {ex:β→X} {t:α→Option Bool} {f:α→Option β} (hg:∀ x,dg (e x) B=some (Bx x)) (ht:∀ x,RV (dt (Bx x)) (fun b=>b) (fun _=>Bx x) XI (PR.opt (t x))) (he:∀ x,RV (de (Bx x)) ex (fun _=>Bx x) XI (PR.opt (f x))) (hz:∀ y,frz (ex y)=some (e' y)) (hw:∀ x,O4 (Bx x) vs=B):
    ∀ (xs:List α) (acc:List D) (r:List β),lcP t f xs acc.length=some r→lcGo dg dt de vs (xs.map e) B acc=.ok (acc++r.map e') B
  | [],acc,r,h=>by
    cases h
    simp [lcGo]
  | x :: xs,acc,r,h=>by
    have h1:=ht x
    have h2:=he x
    unfold lcP at h
    cases htx:t x with
    | none=>rw [htx] at h; cases h
    | some b=>
      rw [htx] at h h1
      have h1:dt (Bx x)=.ok b (Bx x):=h1
      cases b with
      | false=>
        simp only at h
        have ih:=alq hg ht he hz hw xs acc r h
        simp only [List.map_cons,lcGo,hg,h1,hw,ih]
      | true=>
        simp only at h
        cases hf:f x with
        | none=>rw [hf] at h; cases h
        | some y=>
          rw [hf] at h h2
          have h2:de (Bx x)=.ok (ex y) (Bx x):=h2
          simp only at h
          by_cases hfit:fit (acc.length+1)=true
          · rw [if_pos hfit] at h
            obtain ⟨r',hr',rfl⟩:=Option.map_eq_some_iff.mp h
            have ih:=alq hg ht he hz hw xs (acc++[e' y]) r' (by simpa using hr')
            simp only [List.map_cons,lcGo,hg,h1,h2,hz,hfit,if_true,hw,ih]
            simp
          · rw [if_neg hfit] at h; cases h
abbrev lcR (di:Ev→RE Dn.Its) (dg:D→Ev→Option Ev) (dt:Ev→RE Bool) (de:Ev→RE X) (vs:List Nat) (l:List D) (h:Option Nat) (E:Ev):RE X:=if vs.all (freeSl (hideE h E))=true then lcEnd h E vs (lcGo dg dt de vs l (O4 (hideE h E) vs) []) else .bad
theorem adM {l:List D} {h:Option Nat} {ex:β→X} {ee:β→Ev} {r:PR β} (hi:di env=.ok (l,h) env) (hk:RV (lcR di dg dt de vs l h env) ex ee XI r):RV (dLc di dg dt de vs env) ex ee XI r:=by
  unfold dLc; rw [hi]; exact hk
theorem ac5 {l:β1→List D} {h:Option Nat} {eea:β1→Ev} {ex:β→X} {ee:β→Ev} {ra:PR β1} {r:β1→PR β} (hi:RV (di env) (fun v=>(l v,h)) eea XI ra) (hk:∀ v,RV (lcR di dg dt de vs (l v) h (eea v)) ex ee XI (r v)):RV (dLc di dg dt de vs env) ex ee XI (ra.bind r):=U0 hi hk
theorem lce {h:Option Nat} {e:α→D} {e':β→D} {B E:Ev} {Bx:α→Ev} {ex:β→X} {t:α→Option Bool} {f:α→Option β} {l:List α} (hB:O4 (hideE h E) vs=B) (hf:vs.all (freeSl (hideE h E))=true) (hg:∀ x,dg (e x) B=some (Bx x)) (ht:∀ x,RV (dt (Bx x)) (fun b=>b) (fun _=>Bx x) XF (PR.opt (t x))) (he:∀ x,RV (de (Bx x)) ex (fun _=>Bx x) XF (PR.opt (f x))) (hz:∀ y,frz (ex y)=some (e' y)) (hw:∀ x,O4 (Bx x) vs=B) (hend:unhid h E (restE (hideE h E) B vs)=E):RV (lcR di dg dt de vs (l.map e) h E) (fun r=>.ow (.lst (r.map e'))) (fun _=>E) XI (PR.opt (lcP t f l 0)):=by
  unfold lcR
  rw [if_pos hf,hB]
  cases hr:lcP t f l 0 with
  | none=>trivial
  | some r=>
    show _=_
    rw [alq hg ht he hz hw l [] r hr]
    simp [lcEnd,hend]
theorem lceS {h:Option Nat} {e:α→D} {e':β→D} {B E1:σ→Ev} {E:Ev} {Bx:α→σ→Ev} {ex:β→X} {t:α→σ→Option Bool} {f:α→σ→Option (β×σ)} {l:List α} {s0:σ} (hB:O4 (hideE h E) vs=B s0) (hf:vs.all (freeSl (hideE h E))=true) (hg:∀ x s,dg (e x) (B s)=some (Bx x s)) (ht:∀ x s,RV (dt (Bx x s)) (fun b=>b) (fun _=>Bx x s) XF (PR.opt (t x s))) (he:∀ x s,RV (de (Bx x s)) (fun v=>ex v.1) (fun v=>Bx x v.2) XF (PR.opt (f x s))) (hz:∀ y,frz (ex y)=some (e' y)) (hw:∀ x s,O4 (Bx x s) vs=B s) (hend:∀ s,unhid h E (restE (hideE h E) (B s) vs)=E1 s):RV (lcR di dg dt de vs (l.map e) h E) (fun r:List β×σ=>.ow (.lst (r.1.map e'))) (fun r=>E1 r.2) XI (PR.opt (lcS t f l s0 0)):=by
  unfold lcR
  rw [if_pos hf,hB]
  cases hr:lcS t f l s0 0 with
  | none=>trivial
  | some r=>
    show _=_
    rw [alp hg ht he hz hw l s0 [] r hr]
    simp [lcEnd,hend]
end
end Tn
namespace Tn
open PySem PySem.Spec PyProof.Rows L2 Dn
inductive Out (ρ σ:Type) where
  | nx (s:σ) | rt (r:ρ) | bk (s:σ)
section
variable {α β β1 β2 γ σ ρ:Type} {XI XF:XIf} {env e1 E1:Ev} {Φ:β→RS→Prop}
variable {de da:Ev→RE X} {x:X} {ds dr a b c:Ev→RS} {i:Nat}
theorem alr {re:RE γ} {ex:β1→γ} {ee:β1→Ev} {k:γ→Ev→RS} {r:PR β1} {rk:β1→PR β} (h:RV re ex ee XI r) (hk:∀ v,RS' (k (ex v) (ee v)) Φ XI (rk v)):RS' (re.stm k) Φ XI (r.bind rk):=by
  cases r with
  | ok v=>
    have h:re=_:=h
    subst h
    exact hk v
  | exc x=>
    obtain ⟨e,h,hx⟩:=h
    subst h
    exact ⟨e,rfl,hx⟩
  | bad=>trivial
abbrev ΦN (J:σ→Ev):σ→RS→Prop:=fun s rs=>rs=.nx (J s)
def ΦO (J:σ→Ev) (RT:ρ→X→Ev→Prop) (o:Out ρ σ) (rs:RS):Prop:=match o with
  | .nx s=>rs=.nx (J s)∨rs=.ct (J s)
  | .rt v=>∃ x e,rs=.rt x e∧RT v x e
  | .bk s=>rs=.bk (J s)
theorem akz {J:σ→Ev} {RT:ρ→X→Ev→Prop} {s:σ} {rs:RS} (h:rs=.nx (J s)):ΦO J RT (.nx s) rs:=.inl h
theorem arC {J:σ→Ev} {RT:ρ→X→Ev→Prop} {s:σ} {rs:RS} (h:rs=.bk (J s)):ΦO J RT (.bk s) rs:=h
theorem akA {J:σ→Ev} {RT:ρ→X→Ev→Prop} {v:ρ} {x:X} {e:Ev} {rs:RS} (h:rs=.rt x e) (h':RT v x e):ΦO J RT (.rt v) rs:=⟨x,e,h,h'⟩
theorem aoh:t8 (t8 a b) c env=t8 a (t8 b c) env:=by
  unfold t8
  cases h:a env <;> simp [RS.seq,h]
theorem adi {r:PR β} (h:RS' (t8 a (t8 b c) env) Φ XI r):RS' (t8 (t8 a b) c env) Φ XI r:=by rw [aoh]; exact h
theorem R3 {r:PR β} (h:RS' (c env) Φ XI r):RS' (t8 O5 c env) Φ XI r:=h
theorem X8 {r:PR β} (h:RS' (t8 a O5 env) Φ XI r):RS' (a env) Φ XI r:=by
  have e:t8 a O5 env=a env:=by
    unfold t8
    cases h:a env <;> simp [RS.seq,O5]
  rw [← e]; exact h
theorem s_end {v:β} (h:Φ v (.nx env)):RS' (O5 env) Φ XI (.ok v):=h
theorem ap3 {v:β} (h:Φ v (.bk env)):RS' (dBreak env) Φ XI (.ok v):=h
theorem anB {r:PR β} (h:RS' (dBreak env) Φ XI r):RS' (t8 dBreak c env) Φ XI r:=h
theorem O2 {r:PR β} (h:RS' (M5 de env) Φ XI r):RS' (t8 (M5 de) c env) Φ XI r:=by
  have e:t8 (M5 de) c env=M5 de env:=by
    unfold t8 M5
    cases h:de env <;> simp [RS.seq,RE.stm]
  rw [e]; exact h
theorem O8 {dt:Ev→RE Bool} {r:PR β} (h:RS' (dIfS dt (t8 a c) (t8 b c) env) Φ XI r):RS' (t8 (dIfS dt a b) c env) Φ XI r:=by
  have e:t8 (dIfS dt a b) c env=dIfS dt (t8 a c) (t8 b c) env:=by
    unfold t8 dIfS
    cases h:dt env with
    | ok q e=>cases q <;> rfl
    | exc x e=>rfl
    | bad=>rfl
  rw [e]; exact h
theorem abi {J:σ→Ev} {r:PR σ} {rc:σ→PR β} (h:RS' (a env) (ΦN J) XI r) (hc:∀ s,RS' (c (J s)) Φ XI (rc s)):RS' (t8 a c env) Φ XI (r.bind rc):=by
  unfold t8
  cases r with
  | ok v=>
    have h:a env=_:=h
    rw [h]
    exact hc v
  | exc x=>
    obtain ⟨e,h,hx⟩:=h
    exact ⟨e,by rw [h]; rfl,hx⟩
  | bad=>trivial
def thenO (r:PR (Out ρ σ)) (rc:σ→PR β) (inj:ρ→β):PR β:=r.bind fun o=>match o with
  | .nx s=>rc s
  | .bk s=>rc s
  | .rt v=>.ok (inj v)
@[simp] theorem ao4 (s:σ) (rc:σ→PR β) (inj:ρ→β):thenO (.ok (.nx s)) rc inj=rc s:=rfl
@[simp] theorem arV (v:ρ) (rc:σ→PR β) (inj:ρ→β):thenO (.ok (.rt v)) rc inj=.ok (inj v):=rfl
@[simp] theorem arN (e:Xn) (rc:σ→PR β) (inj:ρ→β):thenO (.exc e) rc inj=.exc e:=rfl
def ΦF (J:σ→Ev) (RT:ρ→X→Ev→Prop) (o:Out ρ σ) (rs:RS):Prop:=match o with
  | .nx s=>rs=.nx (J s)
  | .rt v=>∃ x e,rs=.rt x e∧RT v x e
  | .bk _=>False
theorem ahf {J:σ→Ev} {RT:ρ→X→Ev→Prop} {r:PR (Out ρ σ)} {rc:σ→PR β} {inj:ρ→β} (h:RS' (a env) (ΦF J RT) XI r) (hc:∀ s,RS' (c (J s)) Φ XI (rc s)) (hr:∀ v x e,RT v x e→Φ (inj v) (.rt x e)):RS' (t8 a c env) Φ XI (thenO r rc inj):=by
  unfold t8 thenO
  cases r with
  | ok v=>
    cases v with
    | nx s=>
      have h:a env=_:=h
      rw [h]
      exact hc s
    | rt v=>
      obtain ⟨x,e,h,h2⟩:=h
      rw [h]
      exact hr v x e h2
    | bk s=>exact h.elim
  | exc x=>
    obtain ⟨e,h,hx⟩:=h
    exact ⟨e,by rw [h]; rfl,hx⟩
  | bad=>trivial
theorem adk {is:List Nat} {r:PR β} (h:RS' (ds env) (fun v rs=>Φ v (rs.wp is)) XI r):RS' (dWp is ds env) Φ XI r:=by
  unfold dWp
  cases r with
  | ok v=>exact h
  | exc x=>
    obtain ⟨e,h,hx⟩:=h
    exact ⟨e,by rw [h]; rfl,hx⟩
  | bad=>trivial
theorem s_asg {ex:β1→X} {ee E1:β1→Ev} {re:PR β1} {rr:β1→PR β} (h:RV (de env) ex ee XI re) (hs:∀ v,setSl i (ex v) (ee v)=some (E1 v)) (hr:∀ v,RS' (ds (E1 v)) Φ XI (rr v)):RS' (t8 (dAsg i de) ds env) Φ XI (re.bind rr):=by
  unfold t8 dAsg
  cases re with
  | ok v=>
    have h:de env=_:=h
    rw [h]
    simp only [RE.stm,hs v,optS,RS.seq]
    exact hr v
  | exc x=>
    obtain ⟨e,h,hx⟩:=h
    exact ⟨e,by rw [h]; rfl,hx⟩
  | bad=>trivial
theorem adN {r:PR β} (h:de env=.ok x env) (hs:setSl i x env=some E1) (hr:RS' (ds E1) Φ XI r):RS' (t8 (dAsg i de) ds env) Φ XI r:=by
  unfold t8 dAsg
  rw [h]
  simp only [RE.stm,hs,optS,RS.seq]
  exact hr
theorem als {ex:β1→X} {t:β1} {E1:β1→Ev} {rr:β1→PR β} (h:de env=.ok x env) (hx:x=ex t) (hs:∀ v,setSl i (ex v) env=some (E1 v)) (hr:∀ v,RS' (ds (E1 v)) Φ XI (rr v)):RS' (t8 (dAsg i de) ds env) Φ XI (PR.lt t rr):=adN h (hx▸hs t) (hr t)
theorem aqQ {dg:D→Ev→Option Ev} {ex:β1→X} {ee E1:β1→Ev} {df:β1→D} {re:PR β1} {rr:β1→PR β} (h:RV (de env) ex ee XI re) (hz:∀ v,frz (ex v)=some (df v)) (hs:∀ v,dg (df v) (ee v)=some (E1 v)) (hr:∀ v,RS' (ds (E1 v)) Φ XI (rr v)):RS' (t8 (dAsgG dg de) ds env) Φ XI (re.bind rr):=by
  unfold t8 dAsgG
  cases re with
  | ok v=>
    have h:de env=_:=h
    rw [h]
    simp only [RE.stm,hz v,Option.bind_some,hs v,optS,RS.seq]
    exact hr v
  | exc x=>
    obtain ⟨e,h,hx⟩:=h
    exact ⟨e,by rw [h]; rfl,hx⟩
  | bad=>trivial
theorem s_drop {ex:β1→X} {ee:β1→Ev} {re:PR β1} {rr:β1→PR β} (h:RV (de env) ex ee XI re) (hr:∀ v,RS' (ds (ee v)) Φ XI (rr v)):RS' (t8 (dDrop de) ds env) Φ XI (re.bind rr):=by
  unfold t8 dDrop
  cases re with
  | ok v=>
    have h:de env=_:=h
    rw [h]
    exact hr v
  | exc x=>
    obtain ⟨e,h,hx⟩:=h
    exact ⟨e,by rw [h]; rfl,hx⟩
  | bad=>trivial
theorem s_ret {ex:β1→X} {ee:β1→Ev} {r:PR β1} {f:β1→β} (h:RV (de env) ex ee XI r) (hp:∀ v,Φ (f v) (.rt (ex v) (ee v))):RS' (M5 de env) Φ XI (r.bind fun v=>.ok (f v)):=alr h hp
theorem aas {ex:β→X} {ee:β→Ev} {r:PR β} (h:RV (de env) ex ee XI r) (hp:∀ v,Φ v (.rt (ex v) (ee v))):RS' (M5 de env) Φ XI r:=by
  have:=s_ret (Φ:=Φ) (f:=fun v:β=>v) h hp
  cases r <;> exact this
theorem S7 {v:β} (h:de env=.ok x env) (hp:Φ v (.rt x env)):RS' (M5 de env) Φ XI (.ok v):=by
  unfold M5
  rw [h]
  exact hp
variable {dt:Ev→RE Bool} {q:Bool}
theorem aaO {r r':PR β} (h:dt env=.ok q env) (ha:RS' (a env) Φ XI r) (hb:RS' (b env) Φ XI r'):RS' (dIfS dt a b env) Φ XI (if q=true then r else r'):=by
  unfold dIfS
  rw [h]
  cases q <;> simp only [RE.stm] <;> assumption
theorem U8 {g:β1→Bool} {ee:β1→Ev} {rt:PR β1} {r r':β1→PR β} (h:RV (dt env) g ee XI rt) (ha:∀ v,RS' (a (ee v)) Φ XI (r v)) (hb:∀ v,RS' (b (ee v)) Φ XI (r' v)):RS' (dIfS dt a b env) Φ XI (rt.bind fun v=>if g v=true then r v else r' v):=
  alr h fun v=>by
    split
    · exact ha v
    · exact hb v
theorem aqR {is:List Nat} {r:PR β} (h:fzAll is env=some E1) (hr:RS' (t8 a c E1) Φ XI r):RS' (t8 (dFz is a) c env) Φ XI r:=by
  unfold t8 dFz
  rw [h]
  exact hr
def setP {α:Type} (xs:List α) (k:Int) (v:α):Option (List α):=(ixN xs.length k).map fun j=>xs.set j v
theorem ajj {p:Bool} {e:α→D} {xs:β1→List α} {v:β1→α} {k:β1→Int} {ex:β1→X} {ee:β1→Ev} {zf:β1→X} {dk:Ev→RE X} {E1:β1→List α→Ev} {re:PR β1} {rr:β1→List α→PR β} (h0:(slotOf env i).isSome=true) (h1:RV (de env) ex ee XI re) (h2:∀ u,dk (ee u)=.ok (zf u) (ee u)) (hz:∀ u,frzs [ex u,zf u]=some [e (v u),.int (k u)]) (hs:∀ u,slotOf (ee u) i=some (p,oLst e (xs u))) (he:∀ u l,(ee u).set i (.ow p (oLst e l))=E1 u l) (hr:∀ u l,RS' (ds (E1 u l)) Φ XI (rr u l)):RS' (t8 (dSetI i de dk) ds env) Φ XI (re.bind fun u=>(PR.opt (setP (xs u) (k u) (v u))).bind (rr u)):=by
  unfold t8 dSetI
  rw [if_pos h0]
  cases re with
  | ok u=>
    have h1:de env=_:=h1
    rw [h1]
    simp only [RE.stm]
    rw [h2]
    simp only [hz,Option.bind_some,hs,PR.m9]
    unfold setP
    simp only [setI,oLst,List.length_map]
    cases hx:ixN (xs u).length (k u) with
    | none=>trivial
    | some j=>
      simp only [Option.map_some,optS,RS.seq,PR.m7,PR.m9]
      have:=he u ((xs u).set j (v u))
      simp only [oLst,List.map_set] at this
      rw [this]
      exact hr _ _
  | exc x=>
    obtain ⟨e,h,hx⟩:=h1
    exact ⟨e,by rw [h]; rfl,hx⟩
  | bad=>trivial
theorem amU {T:List Str} {fn c:Str} {d:D} {p:Bool} {fs fs':List (Str×D)} {r:PR β} (h:de env=.ok x env) (hz:frz x=some d) (hs:env[i]?=some (.ow p (.ob c fs))) (hc:c∈T) (hl:decide (fs.length < 900)=true) (hp:putFD fn d fs=fs') (he:env.set i (.ow p (.ob c fs'))=E1) (hr:RS' (ds E1) Φ XI r):RS' (t8 (dSetF T i fn de) ds env) Φ XI r:=by
  unfold t8 dSetF
  rw [h]
  simp only [RE.stm,hz,hs]
  rw [if_pos ⟨hc,of_decide_eq_true hl⟩,hp,he]
  exact hr
def foldP {α σ:Type} (f:α→σ→PR σ):List α→σ→PR σ
  | [],s=>.ok s
  | x :: xs,s=>(f x s).bind (foldP f xs)
def forO {α σ ρ:Type} (f:α→σ→PR (Out ρ σ)):List α→σ→PR (Out ρ σ)
  | [],s=>.ok (.nx s)
  | x :: xs,s=>(f x s).bind fun o=>match o with
    | .nx s=>forO f xs s
    | .rt r=>.ok (.rt r)
    | .bk s=>.ok (.nx s)
abbrev unE (h:Option Nat) (E e:Ev):Ev:=match h with
  | none=>e
  | some j=>e.set j (E.getD j .no)
variable {dg:D→Ev→Option Ev} {db:Ev→RS} {di:Ev→RE Dn.Its} {l:List α} {e:α→D} {L:σ→Ev} {G:α→σ→Ev} {h:Option Nat} {E:Ev}
theorem aoi (h:Option Nat) (E e:Ev):unhide h E (.nx e)=.nx (unE h E e):=by cases h <;> rfl
theorem aqS (h:Option Nat) (E e:Ev) (x:X):unhide h E (.rt x e)=.rt x (unE h E e):=by cases h <;> rfl
theorem amV (h:Option Nat) (E e:Ev) (x:Xn):unhide h E (.exc x e)=.exc x (unE h E e):=by cases h <;> rfl
theorem fold_ok {f:α→σ→PR σ} {XB:XIf} (hg:∀ x s,dg (e x) (L s)=some (G x s)) (hb:∀ x s,RS' (db (G x s)) (ΦN L) XB (f x s)):∀ (xs:List α) (s:σ),RS' (forGo dg db (xs.map e) (L s)) (ΦN L) XB (foldP f xs s)
  | [],s=>rfl
  | x :: xs,s=>by
    have h1:=hb x s
    simp only [List.map_cons,forGo,hg]
    unfold foldP
    cases hr:f x s with
    | ok v=>
      rw [hr] at h1
      have h1:db _=_:=h1
      rw [h1]
      exact fold_ok hg hb xs v
    | exc x=>
      rw [hr] at h1
      obtain ⟨e,h1,hx⟩:=h1
      exact ⟨e,by rw [h1],hx⟩
    | bad=>trivial
theorem amW {f:α→σ→PR (Out ρ σ)} {XB:XIf} {RT:ρ→X→Ev→Prop} (hg:∀ x s,dg (e x) (L s)=some (G x s)) (hb:∀ x s,RS' (db (G x s)) (ΦO L RT) XB (f x s)):∀ (xs:List α) (s:σ),RS' (forGo dg db (xs.map e) (L s)) (ΦF L RT) XB (forO f xs s)
  | [],s=>rfl
  | x :: xs,s=>by
    have h1:=hb x s
    simp only [List.map_cons,forGo,hg]
    unfold forO
    cases hr:f x s with
    | ok v=>
      rw [hr] at h1
      cases v with
      | nx v=>
        have h1:db _=_∨db _=_:=h1
        rcases h1 with h1 | h1 <;> rw [h1] <;> exact amW hg hb xs v
      | rt v=>
        obtain ⟨y,e,h1,h2⟩:=h1
        rw [h1]
        exact ⟨y,e,rfl,h2⟩
      | bk s=>
        have h1:db _=_:=h1
        rw [h1]
        rfl
    | exc x=>
      rw [hr] at h1
      obtain ⟨e,h1,hx⟩:=h1
      exact ⟨e,by rw [h1],hx⟩
    | bad=>trivial
abbrev forR (dg:D→Ev→Option Ev) (db:Ev→RS) (l:List D) (h:Option Nat) (E:Ev):RS:=unhide h E (forGo dg db l (hideE h E))
theorem abJ {ld:β1→List D} {eea:β1→Ev} {ra:PR β1} {r:β1→PR β} (hi:RV (di env) (fun v=>(ld v,h)) eea XI ra) (hk:∀ v,RS' (forR dg db (ld v) h (eea v)) Φ XI (r v)):RS' (dFor di dg db env) Φ XI (ra.bind r):=alr hi hk
theorem fore {f:α→σ→PR σ} {J:σ→Ev} {s0:σ} (h0:hideE h E=L s0) (hg:∀ x s,dg (e x) (L s)=some (G x s)) (hb:∀ x s,RS' (db (G x s)) (ΦN L) (fun x e=>XI x (unE h E e)) (f x s)) (hout:∀ s,unE h E (L s)=J s):RS' (forR dg db (l.map e) h E) (ΦN J) XI (foldP f l s0):=by
  unfold forR
  rw [h0]
  have:=fold_ok hg hb l s0
  cases hr:foldP f l s0 with
  | ok v=>
    rw [hr] at this
    have this:forGo _ _ _ _=_:=this
    show _=_
    rw [this,aoi,hout]
  | exc x=>
    rw [hr] at this
    obtain ⟨e,this,hx⟩:=this
    exact ⟨_,by rw [this,amV],hx⟩
  | bad=>trivial
theorem foreO {f:α→σ→PR (Out ρ σ)} {J:σ→Ev} {RT:ρ→X→Ev→Prop} {s0:σ} (h0:hideE h E=L s0) (hg:∀ x s,dg (e x) (L s)=some (G x s)) (hb:∀ x s,RS' (db (G x s)) (ΦO L fun v x e=>RT v x (unE h E e)) (fun x e=>XI x (unE h E e)) (f x s)) (hout:∀ s,unE h E (L s)=J s):RS' (forR dg db (l.map e) h E) (ΦF J RT) XI (forO f l s0):=by
  unfold forR
  rw [h0]
  have:=amW hg hb l s0
  cases hr:forO f l s0 with
  | ok v=>
    rw [hr] at this
    cases v with
    | nx v=>
      have this:forGo _ _ _ _=_:=this
      show _=_
      rw [this,aoi,hout]
    | rt v=>
      obtain ⟨x,e,this,h2⟩:=this
      exact ⟨x,_,by rw [this,aqS],h2⟩
    | bk v=>exact this
  | exc x=>
    rw [hr] at this
    obtain ⟨e,this,hx⟩:=this
    exact ⟨_,by rw [this,amV],hx⟩
  | bad=>trivial
abbrev ΦT (n:Nat) (ps:Ev) (ex:β→X) (pe:β→Ev):β→RS→Prop:=fun v rs=>finR n ps rs=.ok (ex v) (pe v)
theorem arW {N n:Nat} {ps:Ev} {ex:β→X} {pe:β→Ev} {r:PR β} (h0:ps.length=n∧n≤N∧ps.all Sl.par=true) (he:ps++List.replicate (N - n) .no=env) (h:RS' (ds env) (ΦT n ps ex pe) (fun x e=>XF x (backP ps e)) r):RV (fnM N n ds ps) ex pe XF r:=by
  unfold fnM
  rw [if_pos h0,he]
  cases r with
  | ok v=>exact h
  | exc x=>
    obtain ⟨e,h,hx⟩:=h
    exact ⟨_,by rw [h]; rfl,hx⟩
  | bad=>trivial
theorem T7 {N n:Nat} {ps:Ev} {ex:β→X} {pe:β→Ev} {r:PR β} (h0:ps.length=n∧n≤N∧ps.all Sl.par=true) (he:ps++List.replicate (N - n) .no=env) (h:RS' (ds env) (ΦT n ps ex pe) (fun _ _=>True) r):RV (fnM N n ds ps) ex pe XF (PR.opt r.o):=
  aeu (arW (XF:=fun _ _=>True) h0 he h)
end
end Tn
namespace Tn
open PySem PySem.Spec PyProof.Rows L2 Dn
abbrev XFT:XIf:=fun _ _=>True
theorem aeN:fit 0=true:=by decide
theorem ad5:fit 1=true:=by decide
theorem ahg:fit 2=true:=by decide
theorem aiI:fit 3=true:=by decide
theorem aiJ:fit 5=true:=by decide
section
variable {α β κ:Type} {XI:XIf} {env:Ev} {da db dd:Ev→RE X} {dl:Ev→RE (List X)} {x y z:X}
class Inj (e:α→D):Prop where
  inj:∀ a b,e a=e b→a=b
instance:Inj D.int:=⟨fun _ _ h=>by cases h; rfl⟩
instance:Inj D.str:=⟨fun _ _ h=>by cases h; rfl⟩
instance:Inj D.bl:=⟨fun _ _ h=>by cases h; rfl⟩
instance:Inj eD:=⟨fun _ _ h=>h⟩
instance (e:α→D) [Inj e]:Inj (j5 e):=⟨fun a b h=>aid Inj.inj a b (by simpa [j5] using h)⟩
instance (e:α→D) [Inj e]:Inj (t7 e):=⟨fun a b h=>aid Inj.inj a b (by simpa [t7] using h)⟩
instance (e:α→D) (f:β→D) [Inj e] [Inj f]:Inj (ePr e f):=⟨fun a b h=>by
  simp only [ePr,D.tup.injEq,List.cons.injEq,and_true] at h
  exact Prod.ext (Inj.inj _ _ h.1) (Inj.inj _ _ h.2)⟩
open Classical in
noncomputable def decC (e:α→D) (d:D):Option α:=if h:∃ a,e a=d then some h.choose else none
theorem amX {e:α→D} {d:D} {a:α} (h:decC e d=some a):e a=d:=by
  unfold decC at h
  split at h
  · rename_i q
    cases h
    exact q.choose_spec
  · cases h
@[simp] theorem acM (e:α→D) [Inj e] (a:α):decC e (e a)=some a:=by
  have q:∃ b,e b=e a:=⟨a,rfl⟩
  unfold decC
  rw [dif_pos q,Inj.inj _ _ q.choose_spec]
theorem arD {e:α→D} {d:D} (h:da env=.ok (.im d) env):RV (da env) (fun a=>.im (e a)) (fun _=>env) XI (PR.opt (decC e d)):=by
  cases hd:decC e d with
  | none=>trivial
  | some a=>
    have:=amX hd
    subst this
    exact h
theorem acA {β1:Type} {e:α→D} {g:β1→D} {r:PR β1} {E:Ev} (h:RV (da env) (fun v=>.im (g v)) (fun _=>E) XI r):RV (da env) (fun a=>.im (e a)) (fun _=>E) XI (r.bind fun v=>PR.opt (decC e (g v))):=by
  cases r with
  | ok v=>
    have h:da env=_:=h
    rw [h]
    simp only [PR.m9]
    cases hd:decC e (g v) with
    | none=>trivial
    | some a=>
      have:=amX hd
      show RE.ok _ E=RE.ok (X.im (e a)) E
      rw [this]
  | exc x=>exact h
  | bad=>trivial
def mulP (a b:Int):Option Int:=if mulFit a b=true then some (a * b) else none
def divP (a b:Int):Option Int:=if 0 < b∧b.natAbs.log2 < 9000 then some (a / b) else none
def modP (a b:Int):Option Int:=if 0 < b then some (a % b) else none
theorem aeO (a b:Int):OpS pMul (.int a) (.int b) (fun z=>.im (.int z)) (mulP a b):=fun z h=>by
  unfold mulP at h
  split at h
  · cases h
    simp [pMul, *]
  · cases h
theorem arE (a b:Int):OpS pDiv (.int a) (.int b) (fun z=>.im (.int z)) (divP a b):=fun z h=>by
  unfold divP at h
  split at h
  · cases h
    simp [pDiv, *]
  · cases h
theorem ahh (a b:Int):OpS pMod (.int a) (.int b) (fun z=>.im (.int z)) (modP a b):=fun z h=>by
  unfold modP at h
  split at h
  · cases h
    simp [pMod, *]
  · cases h
def catS (a b:Str):Option Str:=if fit (a.length+b.length)=true then some (a++b) else none
def repSP (a:Str) (n:Int):Option Str:=if 0≤n∧n≤1000∧a.length≤1000 then some (repS a n.toNat) else none
def catP (xs ys:List α):Option (List α):=if fit (xs.length+ys.length)=true then some (xs++ys) else none
theorem aa1 (a b:Str):OpS pAdd (.str a) (.str b) (fun z=>.im (.str z)) (catS a b):=fun z h=>by
  unfold catS at h
  split at h
  · cases h
    simp [pAdd, *]
  · cases h
theorem aoj (a:Str) (n:Int):OpS pMul (.str a) (.int n) (fun z=>.im (.str z)) (repSP a n):=fun z h=>by
  unfold repSP at h
  split at h
  · cases h
    simp [pMul, *]
  · cases h
theorem aok (e:α→D) (a b:List α):OpS pAdd (j5 e a) (j5 e b) (fun z=>.im (j5 e z)) (catP a b):=fun z h=>by
  unfold catP at h
  split at h
  · cases h
    simp [pAdd,j5, *]
  · cases h
theorem alu (e:α→D) (a b:List α):OpS pAdd (t7 e a) (t7 e b) (fun z=>.ow (oLst e z)) (catP a b):=fun z h=>by
  unfold catP at h
  split at h
  · cases h
    simp [pAdd,t7,oLst, *]
  · cases h
theorem aab (a b:Int):pEq (.int a) (.int b)=some (.im (.bl (decide (a=b)))):=by simp [pEq,pEqB,D.scal,L2.scal]
theorem apr (a b:Int):pNe (.int a) (.int b)=some (.im (.bl (!decide (a=b)))):=by simp [pNe,pEqB,D.scal,L2.scal]
theorem akB (a b:Str):pEq (.str a) (.str b)=some (.im (.bl (decide (a=b)))):=by simp [pEq,pEqB,D.scal,L2.scal]
theorem aps (a b:Str):pNe (.str a) (.str b)=some (.im (.bl (!decide (a=b)))):=by simp [pNe,pEqB,D.scal,L2.scal]
theorem afP (a b:D):OpS pEq a b (fun z=>.im (.bl z)) (pEqB a b):=fun z h=>by simp [pEq,h]
theorem aqT (a b:D):OpS pIn a b (fun z=>.im (.bl z)) (pInB a b):=fun z h=>by simp [pIn,h]
theorem aqU (w:Str) (ns:List Str):pIn (.str w) (t7 D.str ns)=some (.im (.bl (decide (w∈ns)))):=aqE w ns
theorem amY (w:Str) (ns:List Str):pNotIn (.str w) (j5 D.str ns)=some (.im (.bl (!decide (w∈ns)))):=anW w ns
theorem ap4 (w:Str) (ns:List Str):pNotIn (.str w) (t7 D.str ns)=some (.im (.bl (!decide (w∈ns)))):=anY w ns
class NoN (e:α→D):Prop where
  no:∀ a,(e a).isNon=false
instance:NoN D.int:=⟨fun _=>rfl⟩
instance:NoN D.str:=⟨fun _=>rfl⟩
instance:NoN D.bl:=⟨fun _=>rfl⟩
instance (e:α→D):NoN (j5 e):=⟨fun _=>rfl⟩
instance (e:α→D):NoN (t7 e):=⟨fun _=>rfl⟩
instance (e:α→D) (f:β→D):NoN (ePr e f):=⟨fun _=>rfl⟩
instance {γ:Type} (e:α→D) (f:β→D) (g:γ→D):NoN (Q7 e f g):=⟨fun _=>rfl⟩
instance {γ δ:Type} (e:α→D) (f:β→D) (g:γ→D) (h:δ→D):NoN (ePr4 e f g h):=⟨fun _=>rfl⟩
theorem aol (d:D):pIsN d .non=some (.im (.bl d.isNon)):=by simp [pIsN,D.isNon]
theorem ap5 (e:α→D) (xs:List α) (i:Int):atI (xs.map e) i=(atI xs i).map e:=by
  unfold atI
  rw [List.length_map]
  cases ixN xs.length i with
  | none=>rfl
  | some j=>simp
theorem abS (e:α→D) (xs:List α) (i:Int):OpS pIx (t7 e xs) (.int i) (fun z=>.im (e z)) (atI xs i):=fun z h=>by
  simp [pIx,t7,ap5,h]
theorem ap6 (xs:List Int) (i:Int):OpS pIx (eScr xs) (.int i) (fun z=>.im (.int z)) (atI xs i):=fun z h=>by
  simp [pIx,eScr,h]
def ixS (z:Str) (i:Int):Option Str:=if fit z.length=true then (atI z.cps.toList i).map fun c=>⟨#[c]⟩ else none
theorem aiK (a:Str) (i:Int):OpS pIx (.str a) (.int i) (fun z=>.im (.str z)) (ixS a i):=fun z h=>by
  unfold ixS at h
  split at h
  · rename_i hf
    obtain ⟨c,hc,rfl⟩:=Option.map_eq_some_iff.mp h
    simp [pIx,hf,hc]
  · cases h
def ixD (d:D) (i:Int):Option D:=match pIx d (.int i) with
  | some (.im x)=>some x
  | _=>none
theorem aaP (d:D) (i:Int):OpS pIx d (.int i) (fun z=>.im z) (ixD d i):=fun z h=>by
  unfold ixD at h
  cases hp:pIx d (.int i) with
  | none=>rw [hp] at h; cases h
  | some x=>
    rw [hp] at h
    cases x with
    | im x=>cases h; rfl
    | sl j=>cases h
    | ow o=>cases h
theorem alv (e:α→D) (xs:List α) (lo hi:Option Int):cutD (xs.map e) lo hi=(cutD xs lo hi).map e:=by
  simp [Dn.cutD,List.map_take,List.map_drop]
theorem anC (e:α→D) (xs:List α) (lo hi:Option Int):pSl (j5 e xs) lo hi=some (.im (j5 e (cutD xs lo hi))):=by
  simp [pSl,j5,alv]
theorem arF (e:α→D) (xs:List α) (lo hi:Option Int):pSl (t7 e xs) lo hi=some (.ow (oLst e (cutD xs lo hi))):=by
  simp [pSl,t7,oLst,alv]
theorem sc {d:D} {lo hi:Option Int} {ex:β→X} {r:Option β} (hx:rd env x=some d) (h:∀ z,r=some z→pSl d lo hi=some (ex z)):RV (opt ((rd env x).bind fun d=>pSl d lo hi) env) ex (fun _=>env) XI (PR.opt r):=aiG fun z hz=>by
  rw [hx]; exact h z hz
theorem aqV (e:α→D) (xs:List α):pRevL (t7 e xs)=some (.ow (oLst e xs.reverse)):=by simp [pRevL,t7,oLst]
theorem adP (e:α→D) (xs:List α):pLen [j5 e xs]=some (.im (.int xs.length)):=by simp [pLen,j5]
theorem adQ (e:α→D) (xs:List α):pLen [t7 e xs]=some (.im (.int xs.length)):=by simp [pLen,t7]
theorem ao5 (xs:List Int):pLen [eScr xs]=some (.im (.int xs.length)):=by simp [pLen,eScr]
def lenS (z:Str):Option Int:=if fit z.length=true then some z.length else none
theorem aom (a:Str):CbS pLen [.str a] (fun z=>.im (.int z)) (lenS a):=fun z h=>by
  unfold lenS at h
  split at h
  · cases h
    simp [pLen, *]
  · cases h
def lenD (d:D):Option Int:=match pLen [d] with
  | some (.im (.int n))=>some n
  | _=>none
theorem alw (d:D):CbS pLen [d] (fun z=>.im (.int z)) (lenD d):=fun z h=>by
  unfold lenD at h
  cases hp:pLen [d] with
  | none=>rw [hp] at h; cases h
  | some x=>
    rw [hp] at h
    cases x with
    | im x=>
      cases x with
      | int b=>cases h; rfl
      | _=>cases h
    | sl j=>cases h
    | ow o=>cases h
theorem adR (e:α→D) (xs:List α):pTuple [t7 e xs]=some (.im (j5 e xs)):=rfl
theorem aon (e:α→D) (xs:List α):pList [j5 e xs]=some (.ow (oLst e xs)):=rfl
def sgns (z:Str):List Str:=z.cps.toList.map fun c=>⟨#[c]⟩
theorem amZ (a:Str):ofX env (.im (.str a))=some ((sgns a).map D.str,none):=by simp [ofX,sgns]
theorem alx:∀ bs:List Bool,blsD (bs.map D.bl)=some bs
  | []=>rfl
  | b :: bs=>by simp [blsD,alx bs]
theorem akC (bs:List Bool):pAll [t7 D.bl bs]=some (.im (.bl (bs.all id))):=by simp [pAll,t7,alx]
theorem abA (d:D) (n:String):CbS pIsi [d,.ty n] (fun z=>.im (.bl z)) (d.tyN.bind fun t=>L2.kitB t n):=fun z h=>by simp [pIsi,h]
def joinP (a:Str) (ys:List Str):Option Str:=if fit ((ys.map (·.length)).sum+ys.length * a.length)=true then some (Txt.join a ys) else none
theorem acT (a:Str) (ys:List Str):OpS pJoin (.str a) (t7 D.str ys) (fun z=>.im (.str z)) (joinP a ys):=fun z h=>by
  unfold joinP at h
  split at h
  · rename_i hf
    cases h
    simp only [pJoin,t7,afF,Option.bind_some,hf,if_true]
  · cases h
theorem ap7 (a:Str) (ys:List Str):OpS pJoin (.str a) (j5 D.str ys) (fun z=>.im (.str z)) (joinP a ys):=fun z h=>by
  unfold joinP at h
  split at h
  · rename_i hf
    cases h
    simp only [pJoin,j5,afF,Option.bind_some,hf,if_true]
  · cases h
variable {f:D→D→Option X} {dx dy:D}
theorem aec {ex:β→X} {ee:β→Ev} {r:PR β} (ha:da env=.ok x env) (hs:(rd env x).map isS=some true) (hb:db env=.ok y env) (h:RV (opt ((rd env x).bind fun dx=>(rd env y).bind fun dy=>f dx dy) env) ex ee XI r):RV (dM1 f da db env) ex ee XI r:=by
  unfold dM1; rw [ha]; simp only [aat]; rw [if_pos hs,hb]; exact h
theorem aed {β1:Type} {exb:β1→X} {eeb:β1→Ev} {ex:β→X} {ee:β→Ev} {rb:PR β1} {r:β1→PR β} (ha:da env=.ok x env) (hs:(rd env x).map isS=some true) (hb:RV (db env) exb eeb XI rb) (h:∀ v,RV (opt ((rd (eeb v) x).bind fun dx=>(rd (eeb v) (exb v)).bind fun dy=>f dx dy) (eeb v)) ex ee XI (r v)):RV (dM1 f da db env) ex ee XI (rb.bind r):=by
  unfold dM1; rw [ha]; simp only [aat]; rw [if_pos hs]; exact U0 hb h
variable {dy' dx':Ev→RE X} {c:D}
def appP (xs:List α) (x:α):Option (List α):=if fit (xs.length+1)=true then some (xs++[x]) else none
theorem adz (e:α→D) (xs:List α) (x:α):∀ z,appP xs x=some z→mApp (oLst e xs) [e x]=some (.non,oLst e z):=fun z h=>by
  unfold appP at h
  split at h
  · cases h
    simp [mApp,oLst, *]
  · cases h
def popAtP (xs:List α) (k:Int):Option (α×List α):=if 0≤k∧k < xs.length∧rgOk k=true then (xs[k.toNat]?).map fun d=>(d,xs.eraseIdx k.toNat) else none
theorem map_eraseIdx' (e:α→D):∀ (xs:List α) (n:Nat),(xs.map e).eraseIdx n=(xs.eraseIdx n).map e
  | [],_=>rfl
  | _ :: _,0=>rfl
  | x :: xs,n+1=>by simp [map_eraseIdx' e xs n]
theorem ap8 (e:α→D) (xs:List α) (k:Int):∀ z,popAtP xs k=some z→mPopAt (oLst e xs) [.int k]=some (e z.1,oLst e z.2):=fun z h=>by
  unfold popAtP at h
  split at h
  · rename_i hc
    obtain ⟨d,hd,rfl⟩:=Option.map_eq_some_iff.mp h
    simp only [mPopAt,oLst,List.length_map]
    rw [if_pos hc]
    simp [hd,map_eraseIdx']
  · cases h
def popP (xs:List α):Option (α×List α):=(xs[xs.length - 1]?).map fun d=>(d,xs.dropLast)
theorem arG (e:α→D) (xs:List α):∀ z,popP xs=some z→mPop (oLst e xs) []=some (e z.1,oLst e z.2):=fun z h=>by
  unfold popP at h
  obtain ⟨d,hd,rfl⟩:=Option.map_eq_some_iff.mp h
  simp [mPop,oLst,hd,List.map_dropLast]
def extP (xs ys:List α):Option (List α):=if fit (xs.length+ys.length)=true then some (xs++ys) else none
theorem arH (e:α→D) (xs ys:List α):∀ z,extP xs ys=some z→mExt (oLst e xs) [t7 e ys]=some (.non,oLst e z):=fun z h=>by
  unfold extP at h
  split at h
  · cases h
    simp [mExt,oLst,t7, *]
  · cases h
end
end Tn
namespace Tn
open PySem PySem.Spec PyProof.Rows L2 Dn
section
variable {α β γ β1:Type} {env:Ev} {XI:XIf} {i:Nat} {isT:OD→Bool} {fm:OD→List D→Option (D×OD)} {dl:Ev→RE (List X)} {p:Bool} {od:OD}
theorem ao6 {exa:β1→List X} {eea:β1→Ev} {dsf:β1→List D} {pf:β1→Bool} {of:β1→OD} {ex:β→X} {ee:β→Ev} {ra:PR β1} {r:β1→PR β} (hs:slotOf env i=some (p,od)) (hT:isT od=true) (ha:RV (dl env) exa eea XI ra) (hf:∀ v,rds (eea v) (exa v)=some (dsf v)) (hs':∀ v,slotOf (eea v) i=some (pf v,of v)) (h:∀ v,RV (optE ((fm (of v) (dsf v)).bind fun r=>some (X.im r.1,(eea v).set i (.ow (pf v) r.2)))) ex ee XI (r v)):RV (dMutR i isT fm dl env) ex ee XI (ra.bind r):=by
  unfold dMutR
  simp only [hs,Option.map_some,hT,if_true]
  refine U0 ha fun v=>?_
  simp only [hf v,Option.bind_some,hs' v]
  exact h v
end
end Tn
namespace Tn
open PySem PySem.Spec PyProof.Rows L2 Dn
end Tn
namespace Tn
open PySem PySem.Spec PyProof.Rows L2 Dn
end Tn
namespace Tn
open PySem PySem.Spec PyProof.Rows L2 Dn
end Tn
namespace Tn
open PySem PySem.Spec PyProof.Rows L2 Dn
section
variable {β β1:Type} {XI:XIf} {env:Ev} {d:Ev→RE X} {r:Str→Ev→RE X} {acc y:Str}
def fmtP (i:Int):Option Str:=if i.natAbs.log2 < 1920 then some (Str.ofString (toString i)) else none
def fmtS (y:Str):Option Str:=if fit y.length=true then some y else none
theorem aly (i:Int):UnS pFmt (.int i) (fun z=>.im (.str z)) (fmtP i):=fun z h=>by
  unfold fmtP at h
  split at h
  · cases h
    simp [pFmt, *]
  · cases h
theorem aoo (y:Str):UnS pFmt (.str y) (fun z=>.im (.str z)) (fmtS y):=fun z h=>by
  unfold fmtS at h
  split at h
  · cases h
    simp [pFmt, *]
  · cases h
theorem alz (i:Int):CbS pStrI [.int i] (fun z=>.im (.str z)) (fmtP i):=fun z h=>by
  unfold fmtP at h
  split at h
  · cases h
    simp [pStrI, *]
  · cases h
theorem aop:RV (dJn acc env) (fun z:Str=>X.im (.str z)) (fun _=>env) XI (.ok acc):=rfl
theorem apt {ex:β→X} {ee:β→Ev} {q:Str→PR β} (h:∀ a,RV (r a env) ex ee XI (q a)):RV (match rd env (X.im (.str y)) with
  | some (.str y)=>if fit (acc.length+y.length)=true then r (acc++y) env else .bad
  | _=>.bad) ex ee XI ((PR.opt (catS acc y)).bind q):=by
  show RV (if fit (acc.length+y.length)=true then r (acc++y) env else .bad) ex ee XI _
  unfold catS
  split
  · exact h _
  · trivial
theorem alA {ex:β→X} {ee:β→Ev} {q:Str→PR β} (hd:d env=.ok (.im (.str y)) env) (h:∀ a,RV (r a env) ex ee XI (q a)):RV (dJc d r acc env) ex ee XI ((PR.opt (catS acc y)).bind q):=by
  unfold dJc
  rw [hd]
  exact apt h
theorem alB {ex:β→X} {ee:β→Ev} {f:β1→Str} {eea:β1→Ev} {ra:PR β1} {q:β1→Str→PR β} (hd:RV (d env) (fun v=>X.im (.str (f v))) eea XI ra) (h:∀ v a,RV (r a (eea v)) ex ee XI (q v a)):RV (dJc d r acc env) ex ee XI (ra.bind fun v=>(PR.opt (catS acc (f v))).bind (q v)):=by
  unfold dJc
  exact U0 hd fun v=>apt (h v)
theorem aqW {ex:β→X} {ee:β→Ev} {q:PR β} (h:RV (r Str.empty env) ex ee XI q):RV (dJ0 r env) ex ee XI q:=h
end
end Tn
namespace Tn
open PySem PySem.Spec PyProof.Rows L2 Dn
end Tn
namespace Tn
open PySem PySem.Spec PyProof.Rows L2 Dn
def splitP (a b:Str):Option (List Str):=if (b.length == 0)=false∧fit (a.length+2)=true then some (Txt.split a b) else none
theorem ahi (a b:Str):OpS pSplit (.str a) (.str b) (fun z=>.ow (oLst D.str z)) (splitP a b):=fun z h=>by
  unfold splitP at h
  split at h
  · cases h
    simp [pSplit,oLst, *]
  · cases h
def intP (a:Str):Option Int:=if a.length≤640 then PySem.intText? a else none
theorem alC (a:Str):CbS pIntT [.str a] (fun z=>.im (.int z)) (intP a):=fun z h=>by
  unfold intP at h
  split at h
  · simp [pIntT, *]
  · cases h
end Tn
namespace Tn
open PySem PySem.Spec PyProof.Rows L2 Dn
end Tn
namespace Tn
open PySem PySem.Spec PyProof.Rows L2 Dn
end Tn
namespace Tn
open PySem PySem.Spec PyProof.Rows L2 Dn
end Tn
namespace Tn
open PySem PySem.Spec PyProof.Rows L2 Dn
variable {α β γ σ σ1 β1:Type}
abbrev PG (β:Type):=Option (List β×Option Xn)
instance {γ δ:Type} (e:α→D) (f:β→D) (g:γ→D) (h:δ→D) [Inj e] [Inj f] [Inj g] [Inj h]:Inj (ePr4 e f g h):=⟨fun a b q=>by
  simp only [ePr4,D.tup.injEq,List.cons.injEq,and_true] at q
  obtain ⟨q1,q2,q3,q4⟩:=q
  exact Prod.ext (Inj.inj _ _ q1) (Prod.ext (Inj.inj _ _ q2) (Prod.ext (Inj.inj _ _ q3) (Inj.inj _ _ q4)))⟩
instance {γ:Type} (e:α→D) (f:β→D) (g:γ→D) [Inj e] [Inj f] [Inj g]:Inj (Q7 e f g):=⟨fun a b q=>by
  simp only [Q7,D.tup.injEq,List.cons.injEq,and_true] at q
  obtain ⟨q1,q2,q3⟩:=q
  exact Prod.ext (Inj.inj _ _ q1) (Prod.ext (Inj.inj _ _ q2) (Inj.inj _ _ q3))⟩
instance:Inj (anA D.str):=⟨fun a b h=>by
  cases a <;> cases b <;> simp_all [anA]⟩
instance:Inj (anA D.int):=⟨fun a b h=>by
  cases a <;> cases b <;> simp_all [anA]⟩
end Tn
namespace Tn
open PySem PySem.Spec PyProof.Rows L2 Dn
theorem ap9 {β β1:Type} {XI:XIf} {env:Ev} {f:D→D→Option X} {da db:Ev→RE X} {exa:β1→X} {eea:β1→Ev} {ex:β→X} {ee:β→Ev} {ra:PR β1} {r:β1→PR β} {yf:β1→X} (ha:RV (da env) exa eea XI ra) (hs:∀ v,(rd (eea v) (exa v)).map isS=some true) (hb:∀ v,db (eea v)=.ok (yf v) (eea v)) (h:∀ v,RV (opt ((rd (eea v) (exa v)).bind fun dx=>(rd (eea v) (yf v)).bind fun dy=>f dx dy) (eea v)) ex ee XI (r v)):RV (dM1 f da db env) ex ee XI (ra.bind r):=
  U0 ha fun v=>by rw [if_pos (hs v),hb v]; exact h v
end Tn
namespace Tn
open PySem PySem.Spec PyProof.Rows L2 Dn
end Tn
namespace Tn
open PySem PySem.Spec PyProof.Rows L2 Dn
end Tn
namespace Tn
open PySem PySem.Spec PyProof.Rows L2 Dn
end Tn
namespace Tn
open PySem PySem.Spec PyProof.Rows L2 Dn
end Tn
namespace Tn
open PySem PySem.Spec PyProof.Rows L2 Dn
end Tn
noncomputable section
namespace Tn
open PySem PySem.Spec PyProof.Rows L2 Dn
end Tn
end
namespace Tn
open PySem PySem.Spec PyProof.Rows L2 Dn
section
variable {α β γ δ:Type}
theorem afQ {e:α→D} (h:∀ x,noL (e x)=true):∀ xs:List α,noLs (xs.map e)=true
  | []=>rfl
  | x :: xs=>by simp [noLs,h x,afQ h xs]
theorem ajk {e:α→D} (h:∀ x,noL (e x)=true) (xs:List α):noL (j5 e xs)=true:=by
  simp only [j5,noL]
  exact afQ h xs
theorem aqX {e:α→D} {f:β→D} (h:∀ x,noL (e x)=true) (h':∀ x,noL (f x)=true) (p:α×β):noL (ePr e f p)=true:=by
  simp [ePr,noL,noLs,h,h']
@[simp] theorem ash (x:Str):noL (.str x)=true:=rfl
@[simp] theorem asi (x:Int):noL (.int x)=true:=rfl
@[simp] theorem arO (xs:List Str):noLs (xs.map D.str)=true:=afQ (fun _=>rfl) xs
@[simp] theorem arP (xs:List Int):noLs (xs.map D.int)=true:=afQ (fun _=>rfl) xs
@[simp] theorem arX (xs:List Str):noL (j5 D.str xs)=true:=ajk (fun _=>rfl) xs
@[simp] theorem arY (xs:List (List Str×Int)):noL (j5 (ePr (j5 D.str) D.int) xs)=true:=ajk (aqX (ajk fun _=>rfl) fun _=>rfl) xs
end
end Tn
namespace Tn
open PySem PySem.Spec PyProof.Rows L2 Dn
end Tn
namespace Tn
open PySem PySem.Spec PyProof.Rows L2 Dn
end Tn
namespace Tn
open PySem PySem.Spec PyProof.Rows L2 Dn
end Tn
namespace Tn
open PySem PySem.Spec PyProof.Rows L2 Dn
section
variable {β β1:Type} {env E1:Ev} {XI:XIf} {Φ:β→RS→Prop} {r:PR β}
theorem aqY {T:List Str} {i:Nat} {f c:Str} {n z:Int} {p:Bool} {fs fs':List (Str×D)} {ds:Ev→RS} (hs:env[i]?=some (.ow p (.ob c fs))) (lk:fs.lookup f=some (.int z)) (hc:c∈T) (hl:decide (fs.length < 900)=true) (hp:putFD f (.int (z+n)) fs=fs') (he:env.set i (.ow p (.ob c fs'))=E1)
    (hr:RS' (ds E1) Φ XI r):RS' (t8 (dAugF T i f n) ds env) Φ XI r:=by
  unfold t8 dAugF
  rw [hs]
  dsimp only
  rw [lk]
  dsimp only
  rw [if_pos ⟨hc,of_decide_eq_true hl⟩,hp,he]
  exact hr
def rng3 (lo:Int) (n:Nat):List Int:=(List.range n).map fun k:Nat=>lo+(k:Int) * 3
def rg3 (i j:Int):Option (List Int):=if rgOk i=true∧rgOk j=true then some (rng3 i (rgN3 i j)) else none
theorem ao7 (lo:Int) (n:Nat):rgD3 lo n=(rng3 lo n).map D.int:=by
  unfold rgD3 rng3
  rw [List.map_map]
  rfl
theorem aqZ {dl:Ev→RE (List X)} {xs:List X} {i j:Int} (ha:dl env=.ok xs env) (hx:rds env xs=some [.int i,.int j,.int 3]):RV (diR3 dl env) (fun l=>(l.map D.int,none)) (fun _=>env) XI (PR.opt (rg3 i j)):=by
  unfold diR3 rg3
  rw [ha]
  simp only [aat,hx]
  by_cases h:rgOk i=true∧rgOk j=true
  · rw [if_pos h,if_pos ⟨trivial,h⟩]
    show _=_
    rw [ao7]
  · rw [if_neg h,if_neg fun z=>h z.2]
    trivial
def eL3 {α:Type} (e:α→D) (p:α×α×α):D:=.lst [e p.1,e p.2.1,e p.2.2]
instance {α:Type} (e:α→D) [Inj e]:Inj (eL3 e):=⟨fun a b h=>by
  simp only [eL3,D.lst.injEq,List.cons.injEq,and_true] at h
  exact Prod.ext (Inj.inj _ _ h.1) (Prod.ext (Inj.inj _ _ h.2.1) (Inj.inj _ _ h.2.2))⟩
instance {α:Type} (e:α→D):NoN (eL3 e):=⟨fun _=>rfl⟩
def mtS:List MI→List Str→Option (List Str)
  | [],[]=>some []
  | .lit s :: ps,z :: ws=>if z=s then mtS ps ws else none
  | .cap _ :: ps,z :: ws=>(mtS ps ws).map (z :: ·)
  | _,_=>none
def bsOf:List MI→List Str→List (Nat×D)
  | .lit _ :: ps,cs=>bsOf ps cs
  | .cap i :: ps,c :: cs=>(i,.str c) :: bsOf ps cs
  | _,_=>[]
theorem akD:∀ (ps:List MI) (ws:List Str),mtD ps (ws.map D.str)=(mtS ps ws).map (bsOf ps)
  | [],[]=>rfl
  | [],_ :: _=>rfl
  | .lit _ :: _,[]=>rfl
  | .cap _ :: _,[]=>rfl
  | .lit s :: ps,z :: ws=>by
    show (if z=s then mtD ps (ws.map D.str) else none)=_
    unfold mtS
    by_cases h:z=s
    · rw [if_pos h,if_pos h,akD ps ws]
      rfl
    · rw [if_neg h,if_neg h]
      rfl
  | .cap i :: ps,z :: ws=>by
    show (mtD ps (ws.map D.str)).map ((i,D.str z) :: ·)=_
    unfold mtS
    rw [akD ps ws]
    cases mtS ps ws <;> rfl
def mcase (ps:List MI) (ws:List Str) (b:List Str→PR β) (e:PR β):PR β:=match mtS ps ws with
  | some cs=>b cs
  | none=>e
def mcaseS (ps:List MI) (ws:List Str) (b:List Str→List Str→PR β) (e:PR β):PR β:=match mtS ps (ws.take ps.length) with
  | some cs=>b cs (ws.drop ps.length)
  | none=>e
def matchL2:List Str→(Str→Str→PR β)→PR β
  | [a,b],f=>f a b
  | _,_=>.bad
def dMsR:List (List MI×Option Nat×(Ev→RS))→(Ev→RS)→List D→Ev→RS
  | [],k,_=>k
  | (ps,st,d) :: r,k,xs=>dMC ps st xs (t8 d k) (dMsR r k xs)
theorem ajl (k:Ev→RS) (xs:List D):∀ (l:List (List MI×Option Nat×(Ev→RS))) (env:Ev),(dMs l xs env).seq k=dMsR l k xs env
  | [],env=>rfl
  | (ps,none,d) :: l,env=>by
    show (dMC ps none xs d (dMs l xs) env).seq k=dMC ps none xs (t8 d k) (dMsR l k xs) env
    unfold dMC
    dsimp only
    cases mtD ps xs with
    | none=>exact ajl k xs l env
    | some bs=>
      dsimp only
      cases setDs bs env with
      | none=>rfl
      | some e1=>rfl
  | (ps,some j,d) :: l,env=>by
    show (dMC ps (some j) xs d (dMs l xs) env).seq k=dMC ps (some j) xs (t8 d k) (dMsR l k xs) env
    unfold dMC
    dsimp only
    cases mtD ps (xs.take ps.length) with
    | none=>exact ajl k xs l env
    | some bs=>
      dsimp only
      cases (setDs bs env).bind (setSl j (.ow (.lst (xs.drop ps.length)))) with
      | none=>rfl
      | some e1=>rfl
theorem aqa {de:Ev→RE X} {l:List (List MI×Option Nat×(Ev→RS))} {k:Ev→RS} {ws:List Str} (h:de env=.ok (.im (t7 D.str ws)) env) (hm:RS' (dMsR l k (ws.map D.str) env) Φ XI r):RS' (t8 (dMatch de (dMs l)) k env) Φ XI (if ws.length≤10000 then r else PR.bad):=by
  by_cases hl:ws.length≤10000
  · rw [if_pos hl]
    have ha:(ws.map D.str).all isStrD=true:=List.all_eq_true.mpr fun x hx=>by
      obtain ⟨z,_,rfl⟩:=List.mem_map.mp hx
      rfl
    have e:t8 (dMatch de (dMs l)) k env=dMsR l k (ws.map D.str) env:=by
      unfold t8 dMatch
      rw [h]
      show RS.seq (if (ws.map D.str).all isStrD=true∧(ws.map D.str).length≤10000 then dMs l (ws.map D.str) env else .bad) k=_
      rw [if_pos ⟨ha,by rw [List.length_map]; exact hl⟩]
      exact ajl k _ l env
    rw [e]
    exact hm
  · rw [if_neg hl]
    trivial
theorem aq0 {ps:List MI} {d k:Ev→RS} {l:List (List MI×Option Nat×(Ev→RS))} {ws:List Str} {cb:List Str→PR β} {e:PR β} (hb:∀ cs,RS' (match setDs (bsOf ps cs) env with
      | some e1=>t8 d k e1
      | none=>.bad) Φ XI (cb cs)) (he:RS' (dMsR l k (ws.map D.str) env) Φ XI e):RS' (dMsR ((ps,none,d) :: l) k (ws.map D.str) env) Φ XI (mcase ps ws cb e):=by
  show RS' (dMC ps none (ws.map D.str) (t8 d k) (dMsR l k (ws.map D.str)) env) Φ XI _
  unfold dMC mcase
  dsimp only
  rw [akD]
  cases mtS ps ws with
  | none=>exact he
  | some cs=>exact hb cs
theorem aq1 {ps:List MI} {j:Nat} {d k:Ev→RS} {l:List (List MI×Option Nat×(Ev→RS))} {ws:List Str} {cb:List Str→List Str→PR β} {e:PR β} (hb:∀ cs rest:List Str,RS' (match (setDs (bsOf ps cs) env).bind (setSl j (.ow (oLst D.str rest))) with
      | some e1=>t8 d k e1
      | none=>.bad) Φ XI (cb cs rest)) (he:RS' (dMsR l k (ws.map D.str) env) Φ XI e):RS' (dMsR ((ps,some j,d) :: l) k (ws.map D.str) env) Φ XI (mcaseS ps ws cb e):=by
  show RS' (dMC ps (some j) (ws.map D.str) (t8 d k) (dMsR l k (ws.map D.str)) env) Φ XI _
  unfold dMC mcaseS
  dsimp only
  rw [← List.map_take,← List.map_drop,akD]
  cases mtS ps (ws.take ps.length) with
  | none=>exact he
  | some cs=>exact hb cs (ws.drop ps.length)
theorem arZ {k:Ev→RS} {ws:List Str} (h:RS' (k env) Φ XI r):RS' (dMsR [] k (ws.map D.str) env) Φ XI r:=h
theorem ar0 {R:List Str→RS} {f:Str→Str→PR β} (h:∀ a b,RS' (R [a,b]) Φ XI (f a b)):∀ cs,RS' (R cs) Φ XI (matchL2 cs f)
  | []=>trivial
  | [_]=>trivial
  | [a,b]=>h a b
  | _ :: _ :: _ :: _=>trivial
end
end Tn
namespace Tn
open PySem PySem.Spec PyProof.Rows L2 Dn
end Tn
namespace Tn
open PySem PySem.Spec PyProof.Rows L2 Dn
section
variable {α β γ σ ρ:Type}
def Ho (o:Option α) (Q:α→Prop):Prop:=∃ a,o=some a∧Q a
def Hp (r:PR α) (Q:α→Prop):Prop:=∃ a,r=.ok a∧Q a
theorem Hp.o {r:PR α} {Q:α→Prop} (h:Hp r Q):Ho r.o Q:=by
  obtain ⟨a,rfl,h⟩:=h
  exact ⟨a,rfl,h⟩
theorem Hp.ret {a:α} {Q:α→Prop} (h:Q a):Hp (.ok a) Q:=⟨a,rfl,h⟩
theorem Ho.ret {a:α} {Q:α→Prop} (h:Q a):Ho (some a) Q:=⟨a,rfl,h⟩
theorem Hp.bind {r:PR α} {f:α→PR β} {P:α→Prop} {Q:β→Prop} (h:Hp r P) (k:∀ a,P a→Hp (f a) Q):Hp (r.bind f) Q:=by
  obtain ⟨a,rfl,h⟩:=h
  exact k a h
theorem Hp.bo {r:Option α} {f:α→PR β} {P:α→Prop} {Q:β→Prop} (h:Ho r P) (k:∀ a,P a→Hp (f a) Q):Hp ((PR.opt r).bind f) Q:=by
  obtain ⟨a,rfl,h⟩:=h
  exact k a h
theorem Hp.bs {r:Option α} {f:α→PR β} {a:α} {Q:β→Prop} (h:r=some a) (k:Hp (f a) Q):Hp ((PR.opt r).bind f) Q:=by
  subst h; exact k
theorem Hp.imp {r:PR α} {P Q:α→Prop} (h:Hp r P) (k:∀ a,P a→Q a):Hp r Q:=by
  obtain ⟨a,e,h⟩:=h
  exact ⟨a,e,k a h⟩
theorem Ho.imp {r:Option α} {P Q:α→Prop} (h:Ho r P) (k:∀ a,P a→Q a):Ho r Q:=by
  obtain ⟨a,e,h⟩:=h
  exact ⟨a,e,k a h⟩
theorem Hp.ite {c:Prop} [Decidable c] {r r':PR α} {Q:α→Prop} (h:c→Hp r Q) (h':¬ c→Hp r' Q):Hp (if c then r else r') Q:=by
  split
  · exact h ‹_›
  · exact h' ‹_›
theorem Ho.to {r:Option α} {a:α} (h:Ho r (fun z=>z=a)):r=some a:=by
  obtain ⟨b,e,rfl⟩:=h
  exact e
theorem Hp.fold {f:α→σ→PR σ} (I:List α→σ→Prop) (hs:∀ x xs s,I (x :: xs) s→Hp (f x s) (I xs)):∀ xs s,I xs s→Hp (foldP f xs s) (I [])
  | [],s,h=>⟨s,rfl,h⟩
  | x :: xs,s,h=>by
    unfold foldP
    exact (hs x xs s h).bind fun s' h'=>Hp.fold I hs xs s' h'
theorem aeP {f:α→σ→PR (Out ρ σ)} {s:σ}:∀ (xs:List α),(∀ x∈xs,f x s=.ok (.nx s))→forO f xs s=.ok (.nx s)
  | [],_=>rfl
  | x :: xs,h=>by
    unfold forO
    rw [h x (by simp)]
    exact aeP xs fun y hy=>h y (by simp [hy])
theorem aiL {t:α→Option Bool} {f:α→Option β} (p:α→Bool) (g:α→β):∀ (xs:List α) (n:Nat),(∀ x∈xs,t x=some (p x))→(∀ x∈xs,p x=true→f x=some (g x))→n+xs.length≤100000→lcP t f xs n=some ((xs.filter p).map g)
  | [],n,_,_,_=>rfl
  | x :: xs,n,ht,hf,hn=>by
    simp only [List.length_cons] at hn
    have h1:=ht x (by simp)
    unfold lcP
    rw [h1]
    cases hp:p x with
    | false=>
      simp only
      rw [aiL p g xs n (fun y hy=>ht y (by simp [hy])) (fun y hy=>hf y (by simp [hy])) (by omega)]
      simp [hp]
    | true=>
      simp only
      rw [hf x (by simp) hp]
      simp only
      rw [if_pos (aah (by omega)),aiL p g xs (n+1) (fun y hy=>ht y (by simp [hy])) (fun y hy=>hf y (by simp [hy])) (by omega)]
      simp [hp]
theorem acn {f:α→Option β} (g:α→β) (xs:List α) (hf:∀ x∈xs,f x=some (g x)) (hn:xs.length≤100000):lcP (fun _=>some true) f xs 0=some (xs.map g):=by
  rw [aiL (fun _=>true) g xs 0 (fun _ _=>rfl) (fun x hx _=>hf x hx) (by omega)]
  congr 2
  exact List.filter_eq_self.mpr fun _ _=>rfl
theorem ajm {t:α→Option Bool} (p:α→Bool) (xs:List α) (ht:∀ x∈xs,t x=some (p x)) (hn:xs.length≤100000):lcP t (fun x=>some x) xs 0=some (xs.filter p):=by
  have:=aiL p (fun x:α=>x) xs 0 ht (f:=fun x=>some x) (fun x _ _=>rfl) (by omega)
  simpa using this
theorem ajn {t:α→σ→Option Bool} {f:α→σ→Option (β×σ)} (I:List α→List β→σ→Prop) (hs:∀ x xs acc s,I (x :: xs) acc s→(t x s=some true∧∃ y s',f x s=some (y,s')∧fit (acc.length+1)=true∧I xs (acc++[y]) s')∨(t x s=some false∧I xs acc s)):∀ xs acc s,I xs acc s→∃ r,lcS t f xs s acc.length=some r∧I [] (acc++r.1) r.2
  | [],acc,s,h=>⟨([],s),rfl,by simpa using h⟩
  | x :: xs,acc,s,h=>by
    unfold lcS
    rcases hs x xs acc s h with ⟨h1,y,s',h2,h3,h4⟩ | ⟨h1,h2⟩
    · rw [h1]
      simp only
      rw [h2]
      simp only
      rw [if_pos h3]
      obtain ⟨r,h5,h6⟩:=ajn I hs xs (acc++[y]) s' h4
      rw [List.length_append,List.length_singleton] at h5
      rw [h5]
      exact ⟨(y :: r.1,r.2),rfl,by simpa using h6⟩
    · rw [h1]
      exact ajn I hs xs acc s h2
@[simp] theorem arI (x:α) (xs:List α):atI (x :: xs) 0=some x:=by rw [aii (by omega)]; rfl
@[simp] theorem asr (x y:α) (xs:List α):atI (x :: y :: xs) 1=some y:=by rw [aii (by omega)]; rfl
@[simp] theorem ass (x y z:α) (xs:List α):atI (x :: y :: z :: xs) 2=some z:=by rw [aii (by omega)]; rfl
theorem adA {xs:List α} {i:Nat} {x:α} (h:xs[i]?=some x):atI xs (i:Int)=some x:=by rw [aii (by omega)]; simpa using h
theorem alD {n:Nat} {i:Int} (h:0≤i) (h':i < n):ixN n i=some i.toNat:=by unfold ixN; rw [if_pos h,if_pos h']
@[simp] theorem asl (x v:α) (xs:List α):setP (x :: xs) 0 v=some (v :: xs):=by
  have:ixN (x :: xs).length 0=some 0:=alD (by omega) (by simp only [List.length_cons]; omega)
  simp only [setP,this,Option.map_some,List.set_cons_zero]
@[simp] theorem asm (x y z v:α) (xs:List α):setP (x :: y :: z :: xs) 2 v=some (x :: y :: v :: xs):=by
  have:ixN (x :: y :: z :: xs).length 2=some 2:=alD (by omega) (by simp only [List.length_cons]; omega)
  simp only [setP,this,Option.map_some,List.set_cons_succ,List.set_cons_zero]
theorem aqb {xs:List α} {k:Int} {v:α} (h:0≤k) (h':k < xs.length):setP xs k v=some (xs.set k.toNat v):=by simp [setP,alD h h']
theorem adl {a b:Int} (h:mulFit a b=true):mulP a b=some (a * b):=by simp [mulP,h]
theorem afs {a b:Int} (h:0 < b):modP a b=some (a % b):=by simp [modP,h]
theorem adS {j:Int} (h:-1000000≤j) (h':j≤1000000):rg1 j=some (rng 0 j.toNat):=by simp [rg1,akT h h']
@[simp] theorem asj (lo:Int) (n:Nat):(rng lo n).length=n:=by simp [rng]
theorem ajo {lo:Int} {n:Nat} {x:Int}:x∈rng lo n↔∃ i:Nat,i < n∧x=lo+i:=by
  simp [rng]
  constructor
  · rintro ⟨i,h,rfl⟩; exact ⟨i,h,rfl⟩
  · rintro ⟨i,h,rfl⟩; exact ⟨i,h,rfl⟩
theorem abj {xs:List α} {x:α} (h:xs.length < 100000):appP xs x=some (xs++[x]):=by simp [appP,aah (show xs.length+1≤100000 by omega)]
theorem aft {xs ys:List α} (h:xs.length+ys.length≤100000):catP xs ys=some (xs++ys):=by simp [catP,aah h]
theorem aqc {xs ys:List α} (h:xs.length+ys.length≤100000):extP xs ys=some (xs++ys):=by simp [extP,aah h]
theorem ajp {a b:Str} (h:a.length+b.length≤100000):catS a b=some (a++b):=by simp [catS,aah h]
theorem am0 {a:Str} (h:a.length≤100000):lenS a=some (a.length:Int):=by simp [lenS,aah h]
theorem alE {a:Str} {n:Int} (h:0≤n) (h':n≤1000) (h2:a.length≤1000):repSP a n=some (repS a n.toNat):=by simp [repSP,h,h',h2]
theorem aoq {xs:List α} {k:Nat} (h:k < xs.length) (h':xs.length≤100000):popAtP xs (k:Int)=some (xs[k],xs.eraseIdx k):=by
  have h1:(0:Int)≤k∧(k:Int) < xs.length∧rgOk (k:Int)=true:=⟨by omega,by omega,akT (by omega) (by omega)⟩
  unfold popAtP
  rw [if_pos h1]
  simp [h]
theorem aor {d:Ev→RE X} {f:List Int→Option Bool} {is:List Int} (s:RV (d [.im (eScr is)]) (fun v:Bool=>X.im (D.bl v)) (fun v:Bool=>[.im (eScr is)]) XFT (PR.opt (f is))) (h:f is=some true):∃ e,d [.im (.scr is)]=.ok (.im (.bl true)) e:=by
  rw [h] at s
  exact ⟨_,s⟩
theorem aq2 (a b:Int):pEqB (.int a) (.int b)=some (decide (a=b)):=by simp [pEqB,D.scal,L2.scal]
theorem Y0 (a b:Str):pEqB (.str a) (.str b)=some (decide (a=b)):=by simp [pEqB,D.scal,L2.scal]
theorem aq3 (a b:Bool):pEqB (.bl a) (.bl b)=some (decide (a=b)):=by simp [pEqB,D.scal,L2.scal]
end
end Tn
namespace Tn
open PySem PySem.Spec PyProof.Rows L2 Dn
abbrev Rw:Type:=List Str×Int
def ixs (ns b:List Str):List Int:=b.map fun w=>((ns.idxOf w:Nat):Int)
def IsOrd (ns:List Str) (s:List Str→Int) (L:List (List Str)):Prop:=(L.Pairwise fun x y=>ixs ns x < ixs ns y)∧∀ b,b∈L↔0 < s b
theorem am1 {w:Str} (h:LowS w):PyData.strOk w=true:=by
  unfold PyData.strOk
  rw [Array.all_eq_true']
  intro c hc
  have:=h c (by simpa using hc)
  simp
  omega
def Blt (ns b:List Str):Prop:=∃ rest,(rest++b).Perm ns
theorem Blt.mem {ns b:List Str} (h:Blt ns b) {w:Str} (hw:w∈b):w∈ns:=by
  obtain ⟨r,h⟩:=h
  exact h.mem_iff.mp (List.mem_append_right _ hw)
theorem Blt.len {ns b:List Str} (h:Blt ns b):b.length≤ns.length:=by
  obtain ⟨r,h⟩:=h
  have:=h.length_eq
  simp at this
  omega
theorem Blt.nil {ns:List Str}:Blt ns []:=⟨ns,by simp⟩
theorem Blt.all {ns:List Str}:Blt ns ns:=⟨[],by simp⟩
theorem Blt.low {ns b:List Str} (h:Blt ns b) (hn:∀ w∈ns,WordS w):∀ w∈b,LowS w:=fun w hw=>(hn w (h.mem hw)).2.2
structure Sla (ns:List Str):Prop where
  w:∀ w∈ns,WordS w
  d:ns.Nodup
  l1:1≤ns.length
  l5:ns.length≤5
theorem Sla.low {ns:List Str} (h:Sla ns):∀ w∈ns,LowS w:=fun w hw=>(h.w w hw).2.2
theorem Sla.bl {ns b:List Str} (h:Sla ns) (hb:Blt ns b):∀ w∈b,LowS w:=hb.low h.w
def RwsOk (ns:List Str) (rs:List Rw):Prop:=∀ r∈rs,Blt ns r.1∧0≤r.2∧r.2≤1000000000000
def RwsP (ns:List Str) (rs:List Rw):Prop:=∀ r∈rs,Blt ns r.1∧0≤r.2
def RwsB (ns:List Str) (rs:List Rw):Prop:=∀ r∈rs,Blt ns r.1
theorem RwsOk.p {ns:List Str} {rs:List Rw} (h:RwsOk ns rs):RwsP ns rs:=fun r hr=>⟨(h r hr).1,(h r hr).2.1⟩
theorem RwsP.b {ns:List Str} {rs:List Rw} (h:RwsP ns rs):RwsB ns rs:=fun r hr=>(h r hr).1
theorem RwsOk.b {ns:List Str} {rs:List Rw} (h:RwsOk ns rs):RwsB ns rs:=h.p.b
structure RollOk (ns:List Str) (s:List Str→Int) (L:List (List Str)):Prop where
  ord:IsOrd ns s L
  nn:∀ b,0≤s b
  blt:∀ b∈L,Blt ns b
theorem RollOk.len {ns:List Str} {s:List Str→Int} {L:List (List Str)} (h:RollOk ns s L):∀ b∈L,b.length≤ns.length:=fun b hb=>(h.blt b hb).len
end Tn
namespace Tn
open PySem PySem.Spec PyProof.Rows L2 Dn
theorem alF {α:Type} [DecidableEq α]:∀ {L M:List α},L.Nodup→(∀ x∈L,x∈M)→L.length≤M.length
  | [],_,_,_=>Nat.zero_le _
  | x :: L,M,h,hs=>by
    obtain ⟨h1,h2⟩:=List.nodup_cons.mp h
    have hx:x∈M:=hs x (by simp)
    have:=alF (L:=L) (M:=M.erase x) h2 fun y hy=>(List.mem_erase_of_ne (fun e:y=x=>h1 (e▸hy))).mpr (hs y (by simp [hy]))
    have e:=List.length_erase_of_mem hx
    have:0 < M.length:=List.length_pos_of_mem hx
    simp only [List.length_cons]
    omega
theorem RwsB.app {ns:List Str} {rs qs:List Rw} (h:RwsB ns rs) (h':RwsB ns qs):RwsB ns (rs++qs):=fun r hr=>(List.mem_append.mp hr).elim (h r) (h' r)
theorem RwsP.app {ns:List Str} {rs qs:List Rw} (h:RwsP ns rs) (h':RwsP ns qs):RwsP ns (rs++qs):=fun r hr=>(List.mem_append.mp hr).elim (h r) (h' r)
theorem RwsOk.app {ns:List Str} {rs qs:List Rw} (h:RwsOk ns rs) (h':RwsOk ns qs):RwsOk ns (rs++qs):=fun r hr=>(List.mem_append.mp hr).elim (h r) (h' r)
theorem RwsB.nil {ns:List Str}:RwsB ns []:=fun r hr=>nomatch hr
theorem RwsP.nil {ns:List Str}:RwsP ns []:=fun r hr=>nomatch hr
theorem RwsOk.nil {ns:List Str}:RwsOk ns []:=fun r hr=>nomatch hr
end Tn
namespace Tn
open PySem PySem.Spec PyProof.Rows L2 Dn
def SOk (w:Str):Prop:=PyData.strOk w=true
theorem LowS.ok {w:Str} (h:LowS w):SOk w:=am1 h
theorem Sla.ok {ns:List Str} (h:Sla ns):∀ w∈ns,SOk w:=fun w hw=>am1 (h.low w hw)
end Tn
namespace Tn
open PySem PySem.Spec PyProof.Rows L2 Dn
section
variable {α β γ:Type} [DecidableEq α] [DecidableEq β] [DecidableEq γ]
structure Dat (e:α→D) (p:α→PyData) (P:α→Prop) (n:Nat):Prop where
  py:∀ x,(e x).py=some (p x)
  lay:∀ x,P x→(p x).canLay0=true
  dep:∀ x,(p x).depth≤n
  eqv:∀ x y,PyData.eqv (p x) (p y)=decide (x=y)
variable {e:α→D} {p:α→PyData} {P:α→Prop} {n m k:Nat} {f:β→D} {q:β→PyData} {Q:β→Prop} {g:γ→D} {r:γ→PyData} {R:γ→Prop}
theorem Dat.pys (h:Dat e p P n):∀ xs:List α,Dn.pys (xs.map e)=some (xs.map p)
  | []=>by simp [Dn.pys]
  | x :: xs=>by simp [Dn.pys,h.py,h.pys xs]
theorem Dat.lays (h:Dat e p P n):∀ xs:List α,(∀ x∈xs,P x)→PyData.canLayAll0 (xs.map p)=true
  | [],_=>by simp [PyData.canLayAll0]
  | x :: xs,hx=>by simp [PyData.canLayAll0,h.lay x (hx x (by simp)),h.lays xs fun y hy=>hx y (by simp [hy])]
theorem Dat.deps (h:Dat e p P n):∀ xs:List α,PyData.depthAll (xs.map p)≤n
  | []=>by simp [PyData.depthAll]
  | x :: xs=>by
    have h1:=h.dep x
    have h2:=h.deps xs
    simp only [List.map_cons,PyData.depthAll]
    omega
theorem Dat.eqvs (h:Dat e p P n):∀ xs ys:List α,PyData.eqvAll (xs.map p) (ys.map p)=decide (xs=ys)
  | [],[]=>by simp [PyData.eqvAll]
  | [],_ :: _=>by simp [PyData.eqvAll]
  | _ :: _,[]=>by simp [PyData.eqvAll]
  | x :: xs,y :: ys=>by
    simp only [List.map_cons,PyData.eqvAll,h.eqv,h.eqvs xs ys]
    by_cases h1:x=y <;> by_cases h2:xs=ys <;> simp [h1,h2]
theorem Dat.tup (h:Dat e p P n):Dat (j5 e) (fun xs=>.tuple (xs.map p)) (fun xs=>∀ x∈xs,P x) (n+1):=
  ⟨fun xs=>by simp [j5,D.py,h.pys],fun xs hx=>by simp only [PyData.canLay0]; exact h.lays xs hx,fun xs=>by have:=h.deps xs; simp only [PyData.depth]; omega,fun xs ys=>by simp only [PyData.eqv]; exact h.eqvs xs ys⟩
theorem Dat.lst (h:Dat e p P n):Dat (t7 e) (fun xs=>.list (xs.map p)) (fun xs=>∀ x∈xs,P x) (n+1):=
  ⟨fun xs=>by simp [t7,D.py,h.pys],fun xs hx=>by simp only [PyData.canLay0]; exact h.lays xs hx,fun xs=>by have:=h.deps xs; simp only [PyData.depth]; omega,fun xs ys=>by simp only [PyData.eqv]; exact h.eqvs xs ys⟩
end
end Tn
namespace Tn
open PySem PySem.Spec PyProof.Rows L2 Dn
end Tn
namespace Tn
open PySem PySem.Spec PyProof.Rows L2 Dn
end Tn
namespace Tn
open PySem PySem.Spec PyProof.Rows L2 Dn
end Tn
namespace Tn
open PySem PySem.Spec PyProof.Rows L2 Dn
end Tn
namespace Tn
open PySem PySem.Spec PyProof.Rows L2 Dn
theorem ao8 {α:Type} {w:List α} {l r:Int} (h0:0≤l) (h:l≤r) (h':r≤w.length):Dn.cutD w (some l) (some r)=(w.take r.toNat).drop l.toNat:=by
  have e1:HT.sIx w.length 0 (some l)=l.toNat:=by
    show (if l < 0 then _ else min l.toNat w.length)=_
    rw [if_neg (by omega)]
    omega
  have e2:HT.sIx w.length w.length (some r)=r.toNat:=by
    show (if r < 0 then _ else min r.toNat w.length)=_
    rw [if_neg (by omega)]
    omega
  unfold Dn.cutD
  rw [e1,e2,List.drop_take]
end Tn
namespace Tn
open PySem PySem.Spec PyProof.Rows L2 Dn
def pos (x:Int):Int:=if x > 0 then x else 0
end Tn
namespace Tn
open PySem PySem.Spec PyProof.Rows L2 Dn
def t3 (p:Int×Int×Int):List Int:=[p.1,p.2.1,p.2.2]
end Tn
namespace Tn
open PySem PySem.Spec PyProof.Rows L2 Dn
abbrev Ln:=Int×Int×Int
inductive Cho:List Ln→Int→Int→Prop
  | nil:Cho [] 0 0
  | cons {g lo hi k d e:Int} {l:List Ln} (h1:lo≤k) (h2:k≤hi) (c:Cho l d e):Cho ((g,lo,hi) :: l) (d+k) (e+k * g)
def loS (l:List Ln):Int:=(l.map fun p=>p.2.1).sum
theorem Cho.lo {l:List Ln} {d e:Int} (c:Cho l d e):loS l≤d∧∀ p∈l,p.2.1≤p.2.2:=by
  induction c with
  | nil=>exact ⟨Int.le_refl _,fun p hp=>nomatch hp⟩
  | cons h1 h2 c ih=>
    refine ⟨?_,fun p hp=>?_⟩
    · unfold loS at ih ⊢
      simp only [List.map_cons,List.sum_cons]
      omega
    · rcases List.mem_cons.mp hp with q | q
      · subst q; dsimp only; omega
      · exact ih.2 p q
end Tn
namespace Tn
open PySem PySem.Spec PyProof.Rows L2 Dn
end Tn
namespace Tn
open PySem PySem.Spec PyProof.Rows L2 Dn
end Tn
namespace Tn
open PySem PySem.Spec PyProof.Rows L2 Dn
theorem Blt.of {ns b:List Str} (hn:ns.Nodup) (hd:b.Nodup) (hm:∀ w∈b,w∈ns):Blt ns b:=by
  refine ⟨ns.filter fun w=>!decide (w∈b),(List.perm_ext_iff_of_nodup ?_ hn).mpr fun w=>?_⟩
  · refine List.nodup_append.mpr ⟨hn.filter _,hd,fun x hx y hy e=>?_⟩
    subst e
    have:=(List.mem_filter.mp hx).2
    simp [hy] at this
  · rw [List.mem_append,List.mem_filter]
    constructor
    · rintro (h | h)
      · exact h.1
      · exact hm w h
    · intro h
      by_cases c:w∈b
      · exact .inr c
      · exact .inl ⟨h,by simpa using c⟩
theorem Cho.app {l m:List Ln} {d e d' e':Int} (c:Cho l d e) (c':Cho m d' e'):Cho (l++m) (d+d') (e+e'):=by
  induction c with
  | nil=>simpa using c'
  | @cons g lo hi k d e l h1 h2 c ih=>
    have:=Cho.cons (g:=g) h1 h2 ih
    rw [show d+k+d'=d+d'+k by omega,show e+k * g+e'=e+e'+k * g by omega]
    exact this
end Tn
namespace Tn
open PySem PySem.Spec PyProof.Rows L2 Dn
def numT (c:Int):Str:=Str.ofString (toString c)
def txT (b:List Str):Str:=if b=[] then "-" else Txt.join ">" b
theorem apu:TL.tl " "=[32]:=by decide+kernel
theorem arJ:TL.tl "\n"=[10]:=by decide+kernel
theorem anD:TL.tl ">"=[62]:=by decide+kernel
theorem anE:TL.tl "-"=[45]:=by decide+kernel
theorem ahj {c:Int} (h:0≤c):TL.tl (numT c)=TL.numL c.toNat:=by
  unfold numT
  have:c=((c.toNat:Nat):Int):=by omega
  rw [this]
  exact TL.tl_num _
theorem aee {c:Int} (h0:0≤c) (h:c < 2 ^ 62):fmtP c=some (numT c):=by
  unfold fmtP numT
  refine if_pos ?_
  by_cases e:c.natAbs=0
  · rw [e]; decide
  · refine (Nat.log2_lt e).mpr ?_
    have:c.natAbs < 2 ^ 62:=by omega
    exact Nat.lt_of_lt_of_le this (Nat.pow_le_pow_right (by decide) (by decide))
theorem Y4 {c:Int} (h0:0≤c) {k:Nat} (hk:0 < k) (h:c < 10 ^ k):(numT c).length≤k:=by
  rw [TL.len_tl,ahj h0]
  refine TL.numL_len hk ?_
  have e:((10:Int) ^ k)=((10 ^ k:Nat):Int):=by simp
  rw [e] at h
  omega
theorem agQ {c:Int} (h0:0≤c) {s:Nat} (h:s < 48∨57 < s):s∉TL.tl (numT c):=by
  rw [ahj h0]
  exact TL.numL_free h
theorem aie {c:Int} (h0:0≤c) (h:c < 10 ^ 640):intP (numT c)=some c:=by
  have hl:=Y4 h0 (by decide) h
  unfold intP
  rw [if_pos hl]
  unfold numT
  have:c=((c.toNat:Nat):Int):=by omega
  rw [this]
  refine TL.int_num ?_
  rw [TL.len_tl,ahj h0] at hl
  omega
theorem aos:∀ n:Nat,0 < n→∃ c r,TL.numL n=c :: r∧49≤c:=by
  intro n
  induction n using Nat.strongRecOn with
  | _ n ih=>
    intro h
    by_cases c:n < 10
    · rw [TL.numL_lt c]
      exact ⟨_,_,rfl,by omega⟩
    · rw [TL.numL_step (by omega)]
      obtain ⟨c,r,e,h1⟩:=ih (n / 10) (by omega) (by omega)
      rw [e]
      exact ⟨c,r++_,rfl,h1⟩
theorem aq4:("0123456789":Str).cps.toList=[48,49,50,51,52,53,54,55,56,57]:=by decide+kernel
theorem aq5 (c:Nat):pInB (D.str ⟨#[c]⟩) (D.str ("0123456789":Str))=some (decide (48≤c∧c≤57)):=by
  have h:pInB (D.str ⟨#[c]⟩) (D.str ("0123456789":Str))=some (decide (c∈("0123456789":Str).cps.toList)):=by simp [pInB]
  rw [h,aq4]
  congr 1
  refine decide_eq_decide.mpr ?_
  simp only [List.mem_cons,List.not_mem_nil,or_false]
  omega
theorem aq6 {b:List Str} (h:∀ w∈b,LowS w):∀ c∈TL.tl (txT b),c=45∨c=62∨(97≤c∧c≤122):=fun c hc=>by
  unfold txT at hc
  split at hc
  · rw [anE] at hc
    simp at hc
    exact .inl hc
  · rw [TL.join_eq,TL.tl_join,anD] at hc
    have:∀ ps:List Str,(∀ w∈ps,LowS w)→∀ c∈TL.joinL [62] (ps.map TL.tl),c=62∨(97≤c∧c≤122):=fun ps=>by
      induction ps with
      | nil=>intro _ c hc; simp [TL.joinL] at hc
      | cons p ps ih=>
        intro h c hc
        cases ps with
        | nil=>exact .inr (h p (by simp) c hc)
        | cons q ps=>
          have hc:c∈TL.tl p++([62]++TL.joinL [62] ((q :: ps).map TL.tl)):=hc
          rw [List.mem_append,List.mem_append] at hc
          rcases hc with hc | hc | hc
          · exact .inr (h p (by simp) c hc)
          · simp at hc
            exact .inl hc
          · exact ih (fun w hw=>h w (by simp [hw])) c hc
    exact .inr (this b h c hc)
theorem ao9 {b:List Str} (h:∀ w∈b,LowS w) {s:Nat} (hs:s < 45):s∉TL.tl (txT b):=fun hc=>by
  have:=aq6 h s hc
  omega
theorem alG {b:List Str} (hb:b≠[]) (h:∀ w∈b,LowS w):Txt.split (Txt.join ">" b) ">"=b:=TL.split_join anD (by decide+kernel) hb fun w hw hc=>by
  have:=h w hw 62 hc
  omega
theorem aiM {b:List Str} (h:∀ w∈b,LowS w):txT b="-"↔b=[]:=by
  constructor
  · intro e
    refine Classical.byContradiction fun hb=>?_
    unfold txT at e
    rw [if_neg hb] at e
    have h1:=alG hb h
    rw [e] at h1
    have h2:Txt.split (Txt.join ">" [("-":Str)]) ">"=[("-":Str)]:=TL.split_join anD (by decide+kernel) (by simp) fun w hw=>by
      rw [List.mem_singleton] at hw
      subst hw
      rw [anE]
      decide
    rw [show Txt.join ">" [("-":Str)]="-" by rw [TL.join_eq]; rfl] at h2
    rw [h2] at h1
    have:=h "-" (by rw [← h1]; simp) 45 (by rw [show ("-":Str).cps.toList=[45] from anE]; simp)
    omega
  · rintro rfl
    rfl
theorem ahk {ns b:List Str} (S:Sla ns) (h:Blt ns b):(txT b).length≤65:=by
  have h5:=S.l5
  have hl:=h.len
  unfold txT
  split
  · decide+kernel
  · have h1:=StrLaws.join_length_le ">" b
    have h2:∀ xs:List Str,(∀ w∈xs,w∈ns)→(xs.map (·.length)).sum≤12 * xs.length:=fun xs=>by
      induction xs with
      | nil=>intro _; simp
      | cons x xs ih=>
        intro h
        have h1:=ih fun w hw=>h w (by simp [hw])
        have h2:=(S.w x (h x (by simp))).2.1
        rw [List.map_cons,List.sum_cons,List.length_cons]
        omega
    have h3:=h2 b fun w hw=>h.mem hw
    rw [TL.join_eq]
    rw [show ((">":Str).length)=1 by decide+kernel] at h1
    omega
def RwW (ns:List Str) (r:Rw):Prop:=Blt ns r.1∧1≤r.2∧r.2≤1000000000000
end Tn
namespace Tn
open PySem PySem.Spec PyProof.Rows L2 Dn
theorem aew {α β:Type} {f:α→List β} {b:Nat}:∀ {xs:List α},(∀ x∈xs,(f x).length≤b)→(xs.flatMap f).length≤xs.length * b
  | [],_=>by simp
  | x :: xs,h=>by
    have h1:=h x (by simp)
    have h2:=aew (xs:=xs) fun y hy=>h y (by simp [hy])
    rw [List.flatMap_cons,List.length_append,List.length_cons,Nat.succ_mul]
    omega
end Tn
namespace Tn
open PySem PySem.Spec PyProof.Rows L2 Dn
theorem join_nil:Txt.join "" []=("":Str):=by rw [TL.join_eq]; rfl
theorem alH (ys:List Str):TL.tl (Txt.join "" ys)=(ys.map TL.tl).flatten:=by
  rw [TL.join_eq,TL.tl_join]
  have:TL.tl ("":Str)=[]:=by decide+kernel
  rw [this]
  have:∀ zs:List (List Nat),TL.joinL [] zs=zs.flatten:=by
    intro zs
    induction zs with
    | nil=>rfl
    | cons z zs ih=>
      cases zs with
      | nil=>simp [TL.joinL]
      | cons a b=>rw [List.flatten_cons,← ih]; rfl
  exact this _
theorem afR (y:Str) (ys:List Str):Txt.join "" (y :: ys)=y++Txt.join "" ys:=TL.ext_tl (by rw [alH,TL.tl_append,alH]; rfl)
theorem acU (a b c:Str):a++b++c=a++(b++c):=TL.ext_tl (by simp only [TL.tl_append,List.append_assoc])
theorem aqd (a:Str):a++("":Str)=a:=TL.ext_tl (by rw [TL.tl_append,show TL.tl ("":Str)=[] by decide+kernel,List.append_nil])
theorem am2 {ys:List Str} {k:Nat} (h:∀ y∈ys,y.length≤k):(ys.map (·.length)).sum≤k * ys.length:=by
  induction ys with
  | nil=>simp
  | cons y ys ih=>
    have h1:=h y (by simp)
    have h2:=ih fun z hz=>h z (by simp [hz])
    simp only [List.map_cons,List.sum_cons,List.length_cons,Nat.mul_add,Nat.mul_one]
    omega
theorem aot {ys:List Str} {k:Nat} (h:∀ y∈ys,y.length≤k):(Txt.join "" ys).length≤k * ys.length:=by
  induction ys with
  | nil=>rw [join_nil,show ("":Str).length=0 by decide+kernel]; exact Nat.zero_le _
  | cons y ys ih=>
    have h1:=h y (by simp)
    have h2:=ih fun z hz=>h z (by simp [hz])
    rw [afR,Str.length_append]
    simp only [List.length_cons,Nat.mul_add,Nat.mul_one]
    omega
theorem afS {a:Str} {ys:List Str} {k:Nat} (h:∀ y∈ys,y.length≤k) (ha:a.length≤1) (hk:k * ys.length+ys.length≤100000):joinP a ys=some (Txt.join a ys):=by
  unfold joinP
  rw [if_pos (aah ?_)]
  have h1:=am2 h
  have:ys.length * a.length≤ys.length:=by
    rcases Nat.le_one_iff_eq_zero_or_eq_one.mp ha with e | e <;> rw [e] <;> omega
  omega
end Tn
namespace Tn
open PySem PySem.Spec PyProof.Rows L2 Dn
inductive Sp (x:Str):Prop
  | none (hf:Txt.find x " "= -1) (hp:Txt.partition x " "=(x,("":Str),("":Str)))
  | at (i:Nat) (hi:i < x.length) (hf:Txt.find x " "=(i:Int)) (hp:Txt.partition x " "=(cutS x none (some (i:Int)),(" ":Str),cutS x (some ((i:Int)+1)) none)) (hl:(cutS x none (some (i:Int))).length=i) (hr:(cutS x (some ((i:Int)+1)) none).length+(i+1)=x.length)
def RwV (ns:List Str) (r:Rw):Prop:=Blt ns r.1∧1≤r.2∧r.2≤1000000000000000
theorem RwW.v {ns:List Str} {r:Rw} (h:RwW ns r):RwV ns r:=⟨h.1,h.2.1,by have:=h.2.2; omega⟩
end Tn
namespace Tn
open PySem PySem.Spec PyProof.Rows L2 Dn
def CRw (T:List Str) (r:CR):Prop:=r.1.Nodup∧(∀ w∈r.1,w∈T)∧0 < r.2
theorem CRw.imp {T U:List Str} {r:CR} (h:CRw T r) (f:∀ w∈T,w∈U):CRw U r:=⟨h.1,fun w hw=>f w (h.2.1 w hw),h.2.2⟩
structure ChI (ns T:List Str) (n:Nat) (c:ChS):Prop where
  free:∀ r∈c.free,CRw T r
  srv:∀ p∈c.srv,p.1∈ns∧∀ r∈p.2,CRw (p.1 :: T) r
  spent:∀ r∈c.spent,CRw T r
  sub:∀ w∈T,w∈ns
  len:c.free.length+c.spent.length+((c.srv.map (·.2)).flatten).length≤n
  sl:c.srv.length≤n
section
variable {ns T U:List Str} {n:Nat} {c:ChS} {nm:Str}
theorem ChI.none (ns:List Str):ChI ns [] 0 ⟨[],[],[]⟩:=⟨fun r h=>by simp at h,fun p h=>by simp at h,fun r h=>by simp at h,fun w h=>by simp at h,Nat.le_refl _,Nat.le_refl _⟩
theorem ChI.mono (h:ChI ns T n c) (f:∀ w∈T,w∈U) (g:∀ w∈U,w∈ns):ChI ns U n c:=
  ⟨fun r hr=>(h.free r hr).imp f,fun p hp=>⟨(h.srv p hp).1,fun r hr=>((h.srv p hp).2 r hr).imp fun w hw=>by
    simp only [List.mem_cons] at hw ⊢
    exact hw.imp id (f w)⟩,fun r hr=>(h.spent r hr).imp f,g,h.len,h.sl⟩
theorem ChI.rows (h:ChI ns T n c):∀ r∈c.rows,CRw ns r:=fun r hr=>by
  unfold ChS.rows at hr
  rcases List.mem_append.mp hr with hr | hr
  · rcases List.mem_append.mp hr with hr | hr
    · exact (h.spent r hr).imp h.sub
    · exact (h.free r hr).imp h.sub
  · obtain ⟨l,hl,hr⟩:=List.mem_flatten.mp hr
    obtain ⟨p,hp,rfl⟩:=List.mem_map.mp hl
    obtain ⟨h1,h2⟩:=h.srv p hp
    exact (h2 r hr).imp fun w hw=>by
      rcases List.mem_cons.mp hw with rfl | hw
      · exact h1
      · exact h.sub w hw
theorem ChI.size (h:ChI ns T n c):c.size≤2 * n:=by
  have:=h.len
  have:=h.sl
  unfold ChS.size
  omega
theorem ChI.ok (h:ChI ns T n c) (hn:n≤1500) (hl:ns.length≤1000):c.okB=true:=by
  have:=h.size
  unfold ChS.okB
  rw [Bool.and_eq_true,decide_eq_true_iff,List.all_eq_true]
  refine ⟨by omega,fun r hr=>?_⟩
  obtain ⟨h1,h2,_⟩:=h.rows r hr
  have:=alF h1 h2
  exact decide_eq_true (by omega)
end
end Tn
namespace Tn
open PySem PySem.Spec PyProof.Rows L2 Dn
section
variable {w:List Str→Int} {ns T:List Str} {n:Nat} {c:ChS} {nm l:Str} {many:Int}
def flt (s:List (Str×List CR)):List CR:=(s.map (·.2)).flatten
end
end Tn
namespace Tn
open PySem PySem.Spec PyProof.Rows L2 Dn
end Tn
namespace Wk
open PySem PySem.Spec PyProof.Rows L2 NdefX Dn
abbrev ams:List Str:=["_law_script","_law_k"]
theorem amt:FnScope ams ["_law_script","_law_k"] (defScope aa3):=⟨rfl,rfl,rfl,by decide+kernel,rfl,by decide+kernel,by decide+kernel⟩
abbrev amu:List Str:=["_law_script","_law_k","_law_cell_here"]
theorem ahQ:FnScope amu ["_law_script","_law_k"] (defScope aa4):=⟨rfl,rfl,rfl,by decide+kernel,rfl,by decide+kernel,by decide+kernel⟩
abbrev anF:List Str:=["_law_seed","_law_step","_law_one","_law_two"]
theorem afT:FnScope anF ["_law_seed","_law_step"] (defScope abr):=⟨rfl,rfl,rfl,by decide+kernel,rfl,by decide+kernel,by decide+kernel⟩
abbrev amv:List Str:=["_law_pool_here","_law_size","_law_got"]
theorem ahR:FnScope amv ["_law_pool_here","_law_size"] (defScope aa5):=⟨rfl,rfl,rfl,by decide+kernel,rfl,by decide+kernel,by decide+kernel⟩
abbrev ahS:List Str:=["_law_pool_here","_law_letters","_law_shape","_law_size","_law_k"]
theorem abK:FnScope ahS ["_law_pool_here"] (defScope aav):=⟨rfl,rfl,rfl,by decide+kernel,rfl,by decide+kernel,by decide+kernel⟩
abbrev agR:List Str:=["_law_pool_here","_law_least_of","_law_most_of","_law_names_here","_law_k","_law_word_here","_law_spare"]
theorem aaL:FnScope agR ["_law_pool_here","_law_least_of","_law_most_of"] (defScope aad):=⟨rfl,rfl,rfl,by decide+kernel,rfl,by decide+kernel,by decide+kernel⟩
abbrev alI:List Str:=["_law_pool_here","_law_shape"]
theorem alJ:FnScope alI ["_law_pool_here","_law_shape"] (defScope aaB):=⟨rfl,rfl,rfl,by decide+kernel,rfl,by decide+kernel,by decide+kernel⟩
abbrev afu:List Str:=["_law_pool_here","_law_names_here","_law_beginning","_law_most_of","_law_weights_here","_law_k","_law_at","_law_rest","_law_other","_law_name"]
theorem Z9:FnScope afu ["_law_pool_here","_law_names_here","_law_beginning","_law_most_of"] (defScope W9):=⟨rfl,rfl,rfl,by decide+kernel,rfl,by decide+kernel,by decide+kernel⟩
abbrev amw:List Str:=["_law_pool_here","_law_names_here","_law_beginning"]
theorem amx:FnScope amw ["_law_pool_here","_law_names_here","_law_beginning"] (defScope aa6):=⟨rfl,rfl,rfl,by decide+kernel,rfl,by decide+kernel,by decide+kernel⟩
abbrev akb:List Str:=["_law_pool_here","_law_names_here","_law_size","_law_left","_law_chosen","_law_k","_law_at"]
theorem abB:FnScope akb ["_law_pool_here","_law_names_here","_law_size"] (defScope aai):=⟨rfl,rfl,rfl,by decide+kernel,rfl,by decide+kernel,by decide+kernel⟩
abbrev akc:List Str:=["_law_pool_here","_law_names_here"]
theorem akd:FnScope akc ["_law_pool_here","_law_names_here"] (defScope aaj):=⟨rfl,rfl,rfl,by decide+kernel,rfl,by decide+kernel,by decide+kernel⟩
abbrev ae5:List Str:=["_law_pool_here","_law_names_here","_law_beginning","_law_left","_law_rest","_law_shape","_law_ballot_here","_law_times_here","_law_fewer","_law_name"]
theorem U5:FnScope ae5 ["_law_pool_here","_law_names_here","_law_beginning","_law_left"] (defScope aaa):=⟨rfl,rfl,rfl,by decide+kernel,rfl,by decide+kernel,by decide+kernel⟩
abbrev alK:List Str:=["_law_pool_here","_law_names_here","_law_paper","_law_height","_law_k","_law_ballot_here","_law_side"]
theorem abk:FnScope alK ["_law_pool_here","_law_names_here","_law_paper","_law_height"] (defScope aaC):=⟨rfl,rfl,rfl,by decide+kernel,rfl,by decide+kernel,by decide+kernel⟩
abbrev agS:List Str:=["_law_ballot_here"]
theorem agT:FnScope agS ["_law_ballot_here"] (defScope U9):=⟨rfl,rfl,rfl,by decide+kernel,rfl,by decide+kernel,by decide+kernel⟩
abbrev ac6:List Str:=["_law_paper","_law_lines_here","_law_left","_law_k","_law_node","_law_parts","_law_name","_law_branch","_law_at","_law_weight"]
theorem R8:FnScope ac6 ["_law_paper"] (defScope W7):=⟨rfl,rfl,rfl,by decide+kernel,rfl,by decide+kernel,by decide+kernel⟩
abbrev ake:List Str:=["ballot"]
theorem akf:FnScope ake ["ballot"] (defScope aak):=⟨rfl,rfl,rfl,by decide+kernel,rfl,by decide+kernel,by decide+kernel⟩
abbrev aex:List Str:=["node","_","ballot","many","fewer","more","lines","name","branch","at","weight"]
theorem Q5:FnScope aex ["node"] (defScope X5):=⟨rfl,rfl,rfl,by decide+kernel,rfl,by decide+kernel,by decide+kernel⟩
abbrev alL:List Str:=["paper"]
theorem alM:FnScope alL ["paper"] (defScope aaD):=⟨rfl,rfl,rfl,by decide+kernel,rfl,by decide+kernel,by decide+kernel⟩
abbrev amy:List Str:=["_law_got","_law_wanted","_law_k"]
theorem ae6:FnScope amy ["_law_got","_law_wanted"] (defScope aa7):=⟨rfl,rfl,rfl,by decide+kernel,rfl,by decide+kernel,by decide+kernel⟩
abbrev ahx:List Str:=["self","lines"]
theorem ahy:FnScope ahx ["self","lines"] (defScope R9):=⟨rfl,rfl,rfl,by decide+kernel,rfl,by decide+kernel,by decide+kernel⟩
abbrev ahT:List Str:=["word","digit"]
theorem ae7:FnScope ahT ["word"] (defScope aaw):=⟨rfl,rfl,rfl,by decide+kernel,rfl,by decide+kernel,by decide+kernel⟩
abbrev ahz:List Str:=["word"]
theorem ahA:FnScope ahz ["word"] (defScope V9):=⟨rfl,rfl,rfl,by decide+kernel,rfl,by decide+kernel,by decide+kernel⟩
abbrev ajN:List Str:=["word","letter"]
theorem agU:FnScope ajN ["word"] (defScope abo):=⟨rfl,rfl,rfl,by decide+kernel,rfl,by decide+kernel,by decide+kernel⟩
abbrev aey:List Str:=["word","part"]
theorem acN:FnScope aey ["word"] (defScope V1):=⟨rfl,rfl,rfl,by decide+kernel,rfl,by decide+kernel,by decide+kernel⟩
abbrev amz:List Str:=["word"]
theorem amA:FnScope amz ["word"] (defScope aa8):=⟨rfl,rfl,rfl,by decide+kernel,rfl,by decide+kernel,by decide+kernel⟩
abbrev ahB:List Str:=["self","many","ballot","fewer","more"]
theorem abe:FnScope ahB ["self","many","ballot"] (defScope W0):=⟨rfl,rfl,rfl,by decide+kernel,rfl,by decide+kernel,by decide+kernel⟩
abbrev abv:List Str:=["self","names","name"]
theorem V5:FnScope abv ["self","names"] (defScope R6):=⟨rfl,rfl,rfl,by decide+kernel,rfl,by decide+kernel,by decide+kernel⟩
abbrev ajO:List Str:=["words","at"]
theorem agV:FnScope ajO ["words"] (defScope abp):=⟨rfl,rfl,rfl,by decide+kernel,rfl,by decide+kernel,by decide+kernel⟩
abbrev akg:List Str:=["words","at","name","weight"]
theorem acH:FnScope akg ["words"] (defScope aal):=⟨rfl,rfl,rfl,by decide+kernel,rfl,by decide+kernel,by decide+kernel⟩
abbrev adb:List Str:=["self","words","at","name","weight"]
theorem Z6:FnScope adb ["self","words"] (defScope Q3):=⟨rfl,rfl,rfl,by decide+kernel,rfl,by decide+kernel,by decide+kernel⟩
abbrev akh:List Str:=["self","words","parts","names","many","ballot"]
theorem aao:FnScope akh ["self"] (defScope aam):=⟨rfl,rfl,rfl,by decide+kernel,rfl,by decide+kernel,by decide+kernel⟩
abbrev alN:List Str:=["text","reader","paper"]
theorem aez:FnScope alN ["text"] (defScope aaE):=⟨rfl,rfl,rfl,by decide+kernel,rfl,by decide+kernel,by decide+kernel⟩
abbrev arK:List Str:=["_law_script","_law_papers","_law_k","_law_paper","_law_pool_here","_law_names_here","_law_written","_law_got"]
theorem adB:FnScope arK ["_law_script"] (defScope adm):=⟨rfl,rfl,rfl,by decide+kernel,rfl,by decide+kernel,by decide+kernel⟩
section
variable {P:Program} {w:World} {K:Fg} [WD K] {mg:Str→Option Value} {base:Heap}
theorem alO (T:TX P w K mg):CallF CX0 P w K mg base 1 "_law_cell" ["_law_script","_law_k"] adq:=
  Q6 (k:=0) (ds:=aeY) T.al7 T.al8 amt rfl rfl (fun _ _ _ _ _ _ us hl=>match us,hl with | [_,_],_=>rfl) fun cdv A outer s H E hr=>⟨_,
 (pss_cons (ps_if (pt_cmpR op_lt (pv 1) (pe_callB R5 (by rfl) T.Y9 boot_len (pa_cons (pv 0) pa_nil)) (nomark _))
 (pss_one (ps_ret (pe_ix ix_seq (pv 0) (pv 1) (fun _ _=>rfl))))
 pss_nil)
 (pss_one (ps_ret pe_int))),
 (G3 (P0 (G9 (o8 (agv fun i j=>decide (i < j)) (d8 1) (M9 V6 (d7 (d8 0) j8))))
 (J5 (o8 R7 (d8 0) (d8 1)))
 M8)
 (J5 (o9 0)))⟩
theorem alP (T:TX P w K mg):CallF CX0 P w K mg base 2 "_law_pool" ["_law_script","_law_k"] adt:=
  Q6 (k:=1) (ds:=aeZ) T.al9 T.ama ahQ rfl rfl (fun _ _ _ _ _ _ us hl=>match us,hl with | [_,_],_=>rfl) fun cdv A outer s H E hr=>⟨_,
 (pss_cons (ps_set (i:=2) ahQ.nd rfl (by first | exact Or.inl rfl | exact Or.inr rfl) (G4 (k:=1) (E:=E) (alO (K:=K) T) (hr.mono (by decide)) passN (by rfl) (pa_cons (pv 0) (pa_cons (pv 1) pa_nil))))
 (pss_cons (ps_if (pt_cmpR op_ge (pv 2) (pe_op op_pow pe_int pe_int) (nomark _))
 (pss_one (ps_ret (pe_lst (pa_cons (pe_op op_sub (pv 2) (pe_op op_pow pe_int pe_int)) (pa_cons (pe_op O3 (pe_op abE (pv 2) pe_int) (pv 1)) (pa_cons pe_int pa_nil))))))
 pss_nil)
 (pss_one (ps_ret (pe_lst (pa_cons pe_int (pa_cons (pe_op O3 (pe_op abE (pv 2) pe_int) (pv 1)) (pa_cons pe_int pa_nil)))))))),
 (G3 (N8 (O6 (G7 (E:=E) aml (d7 (d8 0) (d7 (d8 1) j8)))))
 (G3 (P0 (G9 (o8 (agv fun i j=>decide (i ≥ j)) (d8 2) (o8 akJ (o9 10) (o9 18))))
 (J5 (aaH (d7 (o8 afh (d8 2) (o8 akJ (o9 10) (o9 18))) (d7 (o8 Q4 (o8 acv (d8 2) (o9 64)) (d8 1)) (d7 (o9 0) j8)))))
 M8)
 (J5 (aaH (d7 (o9 0) (d7 (o8 Q4 (o8 acv (d8 2) (o9 64)) (d8 1)) (d7 (o9 0) j8)))))))⟩
theorem amB (T:TX P w K mg):CallF CX0 P w K mg base 1 "_law_mix" ["_law_seed","_law_step"] ad4:=
  Q6 (k:=0) (ds:=afM) T.anu T.anv afT rfl rfl (fun _ _ _ _ _ _ us hl=>match us,hl with | [_,_],_=>rfl) fun cdv A outer s H E hr=>⟨_,
 (pss_cons (ps_set (i:=2) afT.nd rfl (by first | exact Or.inl rfl | exact Or.inr rfl) (pe_op op_mod (pe_callTy call_int1 (by rfl) T.adp boot_int (pa_cons (pe_op O3 (pe_op O3 (pe_op abE (pv 0) pe_int) (pe_op abE (pv 1) pe_int)) pe_int) pa_nil)) pe_int))
 (pss_cons (ps_set (i:=3) afT.nd rfl (by first | exact Or.inl rfl | exact Or.inr rfl) (pe_op op_mod (pe_callTy call_int1 (by rfl) T.adp boot_int (pa_cons (pe_op O3 (pe_op O3 (pe_op abE (pv 2) (pv 2)) (pe_op abE (pv 1) pe_int)) pe_int) pa_nil)) pe_int))
 (pss_one (ps_ret (pe_op op_mod (pe_callTy call_int1 (by rfl) T.adp boot_int (pa_cons (pe_op O3 (pe_op O3 (pe_op abE (pv 3) (pv 3)) (pe_op abE (pv 3) pe_int)) pe_int) pa_nil)) pe_int))))),
 (G3 (N8 (o8 afi (M9 agB (d7 (o8 Q4 (o8 Q4 (o8 acv (d8 0) (o9 48271)) (o8 acv (d8 1) (o9 69621))) (o9 11)) j8)) (o9 2147483647)))
 (G3 (N8 (o8 afi (M9 agB (d7 (o8 Q4 (o8 Q4 (o8 acv (d8 2) (d8 2)) (o8 acv (d8 1) (o9 16807))) (o9 3)) j8)) (o9 2147483629)))
 (J5 (o8 afi (M9 agB (d7 (o8 Q4 (o8 Q4 (o8 acv (d8 3) (d8 3)) (o8 acv (d8 3) (o9 40692))) (o9 7)) j8)) (o9 2147483587)))))⟩
theorem M7 (T:TX P w K mg):CallF CX0 P w K mg base 2 "_law_draw" ["_law_pool_here","_law_size"] K9:=
  Q6 (k:=1) (ds:=ae0) T.amb T.amc ahR rfl rfl (fun _ _ _ _ _ _ us hl=>match us,hl with | [_,_],_=>rfl) fun cdv A outer s H E hr=>⟨_,
 (pss_cons (ps_if (pt_cmpR op_gt (pe_ix ix_seq (pv 0) pe_int (fun _ _=>rfl)) pe_int (nomark _))
 (pss_cons (ps_set (i:=2) ahR.nd rfl (by first | exact Or.inl rfl | exact Or.inr rfl) (pe_op op_mod (pe_callTy call_int1 (by rfl) T.adp boot_int (pa_cons (pe_ix ix_seq (pv 0) pe_int (fun _ _=>rfl)) pa_nil)) (pv 1)))
 (pss_cons (ps_asg (pe_op apw (pe_ix ix_seq (pv 0) pe_int (fun _ _=>rfl)) (pv 1)) (pg_sub (pv 0) pe_int set_list))
 (pss_one (ps_ret (pv 2)))))
 pss_nil)
 (pss_cons (ps_asg (pe_op O3 (pe_ix ix_seq (pv 0) pe_int (fun _ _=>rfl)) pe_int) (pg_sub (pv 0) pe_int set_list))
 (pss_one (ps_ret (pe_op op_mod (pe_callTy call_int1 (by rfl) T.adp boot_int (pa_cons (G4 (k:=1) (E:=E) (amB (K:=K) T) (hr.mono (by decide)) passN (by rfl) (pa_cons (pe_ix ix_seq (pv 0) pe_int (fun _ _=>rfl)) (pa_cons (pe_ix ix_seq (pv 0) pe_int (fun _ _=>rfl)) pa_nil))) pa_nil)) (pv 1)))))),
 (G3 (P0 (G9 (o8 (agv fun i j=>decide (i > j)) (o8 R7 (d8 0) (o9 0)) (o9 0)))
 (G3 (N8 (o8 afi (M9 agB (d7 (o8 R7 (d8 0) (o9 0)) j8)) (d8 1)))
 (G3 (ai3 (o8 aqv (o8 R7 (d8 0) (o9 0)) (d8 1)) (o9 0))
 (J5 (d8 2))))
 M8)
 (G3 (ai3 (o8 Q4 (o8 R7 (d8 0) (o9 2)) (o9 1)) (o9 2))
 (J5 (o8 afi (M9 agB (d7 (G7 (E:=E) anw (d7 (o8 R7 (d8 0) (o9 1)) (d7 (o8 R7 (d8 0) (o9 2)) j8))) j8)) (d8 1)))))⟩
theorem alQ (T:TX P w K mg):CallF CX0 P w K mg base 3 "_law_word" ["_law_pool_here"] adu:=
  Q6 (k:=2) (ds:=ae1) T.amd T.ame abK rfl rfl (fun _ _ _ _ _ _ us hl=>match us,hl with | [_],_=>rfl) fun cdv A outer s H E hr=>⟨_,
 (pss_cons (ps_set (i:=1) abK.nd rfl (by first | exact Or.inl rfl | exact Or.inr rfl) pe_str)
 (pss_cons (ps_set (i:=2) abK.nd rfl (by first | exact Or.inl rfl | exact Or.inr rfl) (G4 (k:=2) (E:=E) (M7 (K:=K) T) (hr.mono (by decide)) passN (by rfl) (pa_cons (pv 0) (pa_cons pe_int pa_nil))))
 (pss_cons (ps_if (pt_cmpR (R4 (room64 hr)) (pv 2) pe_int (nomark _))
 (pss_one (ps_ret (pe_ix ix_seq (pv 1) (G4 (k:=2) (E:=E) (M7 (K:=K) T) (hr.mono (by decide)) passN (by rfl) (pa_cons (pv 0) (pa_cons pe_int pa_nil))) (fun _ _=>rfl))))
 pss_nil)
 (pss_cons (ps_set (i:=3) abK.nd rfl (by first | exact Or.inl rfl | exact Or.inr rfl) (pe_op O3 pe_int (G4 (k:=2) (E:=E) (M7 (K:=K) T) (hr.mono (by decide)) passN (by rfl) (pa_cons (pv 0) (pa_cons pe_int pa_nil)))))
 (pss_cons (ps_if (pt_cmpR (R4 (room64 hr)) (pv 2) pe_int (nomark _))
 (pss_one (ps_ret (pe_op O3 (pe_op abE pe_str (pe_op op_sub (pv 3) pe_int)) (pe_ix ix_seq (pv 1) (G4 (k:=2) (E:=E) (M7 (K:=K) T) (hr.mono (by decide)) passN (by rfl) (pa_cons (pv 0) (pa_cons pe_int pa_nil))) (fun _ _=>rfl)))))
 pss_nil)
 (pss_cons (ps_if (pt_cmpR (R4 (room64 hr)) (pv 2) pe_int (nomark _))
 (pss_one (ps_ret (pe_op O3 (pe_ix ix_seq (pv 1) (G4 (k:=2) (E:=E) (M7 (K:=K) T) (hr.mono (by decide)) passN (by rfl) (pa_cons (pv 0) (pa_cons pe_int pa_nil))) (fun _ _=>rfl)) (pe_op abE pe_str (pe_op op_sub (pv 3) pe_int)))))
 pss_nil)
 (pss_one (ps_ret (pe_join pe_str (pe_lc (own:=[("_law_k",4)]) (g:=_) (tt:=tYes) (by rfl) abK.nd (pi_range1 (by rfl) T.ack (pa_cons (pv 3) pa_nil)) (blkOk_by (N:=ahS) (sc:=defScope aav) (by decide+kernel)) (fun _ _ _ _ _=>(pg_name (i:=4) abK.nd rfl (by first | exact Or.inl rfl | exact Or.inr rfl))) (fun _ _ _ _ _=>pts_nil) (fun _ _ _ _ _=>(pe_ix ix_seq (pv 1) (G4 (k:=2) (E:=E0) (M7 (K:=K) T) (hr.mono (by decide)) passN (by rfl) (pa_cons (pv 0) (pa_cons pe_int pa_nil))) (fun _ _=>rfl))))))))))))),
 (G3 (N8 (J9 "abcdefghijklmnopqrstuvwxyz"))
 (G3 (N8 (O6 (G7 (E:=E) N5 (d7 (d8 0) (d7 (o9 4) j8)))))
 (G3 (P0 (G9 (o8 S9 (d8 2) (o9 0)))
 (J5 (o8 R7 (d8 1) (G7 (E:=E) N5 (d7 (d8 0) (d7 (o9 26) j8)))))
 M8)
 (G3 (N8 (O6 (o8 Q4 (o9 1) (G7 (E:=E) N5 (d7 (d8 0) (d7 (o9 12) j8))))))
 (G3 (P0 (G9 (o8 S9 (d8 2) (o9 1)))
 (J5 (o8 Q4 (o8 acv (J9 "a") (o8 afh (d8 3) (o9 1))) (o8 R7 (d8 1) (G7 (E:=E) N5 (d7 (d8 0) (d7 (o9 26) j8))))))
 M8)
 (G3 (P0 (G9 (o8 S9 (d8 2) (o9 2)))
 (J5 (o8 Q4 (o8 R7 (d8 1) (G7 (E:=E) N5 (d7 (d8 0) (d7 (o9 26) j8)))) (o8 acv (J9 "z") (o8 afh (d8 3) (o9 1)))))
 M8)
 (J5 (ach aci (J9 "") (aaW (aeJ (d7 (d8 3) j8)) (Q8 (i:=4) (by simp)) aaX (o8 R7 (d8 1) (G7 (E:=E0) N5 (d7 (d8 0) (d7 (o9 26) j8)))))))))))))⟩
theorem aki (T:TX P w K mg):CallF CX0 P w K mg base 4 "_law_names" ["_law_pool_here","_law_least_of","_law_most_of"] acZ:=
  Q6 (k:=3) (ds:=aen) T.ak3 T.ak4 aaL rfl rfl (fun _ _ _ _ _ _ us hl=>match us,hl with | [_,_,_],_=>rfl) fun cdv A outer s H E hr=>⟨_,
 (pss_cons (ps_set (i:=3) aaL.nd rfl (by first | exact Or.inl rfl | exact Or.inr rfl) (pe_lst pa_nil))
 (pss_cons (ps_for PassesOwn.never rfl (pi_range1 (by rfl) T.ack (pa_cons (pe_op O3 (pv 1) (G4 (k:=2) (E:=E) (M7 (K:=K) T) (hr.mono (by decide)) passN (by rfl) (pa_cons (pv 0) (pa_cons (pe_op O3 (pe_op op_sub (pv 2) (pv 1)) pe_int) pa_nil)))) pa_nil)) (pg_name (i:=4) aaL.nd rfl (by first | exact Or.inl rfl | exact Or.inr rfl))
 (pss_cons (ps_set (i:=5) aaL.nd rfl (by first | exact Or.inl rfl | exact Or.inr rfl) (G4 (k:=3) (E:=E) (alQ (K:=K) T) (hr.mono (by decide)) passN (by rfl) (pa_cons (pv 0) pa_nil)))
 (pss_cons (ps_if (pt_cmpR (akL (room65 hr)) (pv 5) (pv 3) rfl)
 (pss_one (ps_set (i:=5) aaL.nd rfl (by first | exact Or.inl rfl | exact Or.inr rfl) (pe_ix ix_seq (pe_lc (own:=[("_law_spare",6)]) (g:=_) (tt:=_) (by rfl) aaL.nd (Z4 (pe_lst (pa_cons pe_str (pa_cons pe_str (pa_cons pe_str (pa_cons pe_str (pa_cons pe_str pa_nil))))))) (blkOk_by (N:=agR) (sc:=defScope aad) (by decide+kernel)) (fun _ _ _ _ _=>(pg_name (i:=6) aaL.nd rfl (by first | exact Or.inl rfl | exact Or.inr rfl))) (fun _ _ _ _ _=>(pts_one (pt_cmpR (agw (room65 hr)) (pv 6) (pv 3) rfl))) (fun _ _ _ _ _=>(pv 6))) pe_int (fun _ _=>rfl))))
 pss_nil)
 (pss_one (ps_expr (pe_bm PySem.F.plainAttrs_list PySem.F.slot_list_append PySem.F.type_list_append mt_append (pv 3) (pa_cons (pv 5) pa_nil)))))))
 (pss_one (ps_ret (pe_callTy aax (by rfl) T.abH boot_tuple (pa_cons (pv 3) pa_nil)))))),
 (G3 (N8 (aaH j8))
 (G3 (acw (aeJ (d7 (o8 Q4 (d8 1) (G7 (E:=E) N5 (d7 (d8 0) (d7 (O6 (o8 Q4 (o8 afh (d8 2) (d8 1)) (o9 1))) j8)))) j8)) (W6 4)
 (acj (is:=[4,5]) (G3 (N8 (O6 (G7 (E:=E) amn (d7 (d8 0) j8))))
 (G3 (P0 (G9 (o8 anj (d8 5) (d8 3)))
 (N8 (o8 R7 (aaW (Z5 (aaH (d7 (J9 "a") (d7 (J9 "b") (d7 (J9 "c") (d7 (J9 "d") (d7 (J9 "e") j8))))))) (Q8 (i:=6) (by simp)) (G9 (o8 ah0 (d8 6) (d8 3))) (d8 6)) (o9 0)))
 M8)
 (abg (ab1 Z8 acx (d7 (d8 5) j8)))))))
 (J5 (M9 ab0 (d7 (d8 3) j8)))))⟩
theorem aga (T:TX P w K mg):CallF CX0 P w K mg base 3 "_law_times" ["_law_pool_here","_law_shape"] ab4:=
  Q6 (k:=2) (ds:=aeo) T.ak5 T.ak6 alJ rfl rfl (fun _ _ _ _ _ _ us hl=>match us,hl with | [_,_],_=>rfl) fun cdv A outer s H E hr=>⟨_,
 (pss_cons (ps_if (pt_cmpR (R4 (room64 hr)) (pv 1) pe_int (nomark _))
 (pss_one (ps_ret (G4 (k:=2) (E:=E) (M7 (K:=K) T) (hr.mono (by decide)) passN (by rfl) (pa_cons (pv 0) (pa_cons pe_int pa_nil)))))
 pss_nil)
 (pss_cons (ps_if (pt_cmpR (R4 (room64 hr)) (pv 1) pe_int (nomark _))
 (pss_one (ps_ret (G4 (k:=2) (E:=E) (M7 (K:=K) T) (hr.mono (by decide)) passN (by rfl) (pa_cons (pv 0) (pa_cons pe_int pa_nil)))))
 pss_nil)
 (pss_one (ps_ret (G4 (k:=2) (E:=E) (M7 (K:=K) T) (hr.mono (by decide)) passN (by rfl) (pa_cons (pv 0) (pa_cons (pe_op O3 (pe_op op_pow pe_int pe_int) pe_int) pa_nil))))))),
 (G3 (P0 (G9 (o8 S9 (d8 1) (o9 0)))
 (J5 (G7 (E:=E) N5 (d7 (d8 0) (d7 (o9 4) j8))))
 M8)
 (G3 (P0 (G9 (o8 S9 (d8 1) (o9 1)))
 (J5 (G7 (E:=E) N5 (d7 (d8 0) (d7 (o9 30) j8))))
 M8)
 (J5 (G7 (E:=E) N5 (d7 (d8 0) (d7 (O6 (o8 Q4 (o8 akJ (o9 10) (o9 12)) (o9 1))) j8))))))⟩
theorem aiN (T:TX P w K mg):CallF CX0 P w K mg base 4 "_law_weights" ["_law_pool_here","_law_names_here","_law_beginning","_law_most_of"] acl:=
  Q6 (k:=3) (ds:=adg) T.ai8 T.ai9 Z9 rfl rfl (fun _ _ _ _ _ _ us hl=>match us,hl with | [_,_,_,_],_=>rfl) fun cdv A outer s H E hr=>⟨_,
 (pss_cons (ps_set (i:=4) Z9.nd rfl (by first | exact Or.inl rfl | exact Or.inr rfl) (pe_lst pa_nil))
 (pss_cons (ps_if (pt_cmpR (R4 (room64 hr)) (pe_callB R5 (by rfl) T.Y9 boot_len (pa_cons (pv 2) pa_nil)) pe_int (nomark _))
 (pss_one (ps_ret (pv 4)))
 pss_nil)
 (pss_cons (ps_for PassesOwn.never rfl (pi_range1 (by rfl) T.ack (pa_cons (G4 (k:=2) (E:=E) (M7 (K:=K) T) (hr.mono (by decide)) passN (by rfl) (pa_cons (pv 0) (pa_cons (pe_op O3 (pv 3) pe_int) pa_nil))) pa_nil)) (pg_name (i:=5) Z9.nd rfl (by first | exact Or.inl rfl | exact Or.inr rfl))
 (pss_cons (ps_set (i:=6) Z9.nd rfl (by first | exact Or.inl rfl | exact Or.inr rfl) (pe_op O3 pe_int (G4 (k:=2) (E:=E) (M7 (K:=K) T) (hr.mono (by decide)) passN (by rfl) (pa_cons (pv 0) (pa_cons (pe_callB R5 (by rfl) T.Y9 boot_len (pa_cons (pv 2) pa_nil)) pa_nil)))))
 (pss_cons (ps_setLc (i:=7) (own:=[("_law_name",9)]) (g:=_) (tt:=_) (by rfl) Z9.nd rfl rfl (sw_true rfl rfl rfl (by decide+kernel)) (Z4 (pv 1)) (blkOk_by (N:=afu) (sc:=defScope W9) (by decide+kernel)) (fun _ _ _ _ _=>(pg_name (i:=9) Z9.nd rfl (by first | exact Or.inl rfl | exact Or.inr rfl))) (fun _ _ _ _ _=>(pts_one (pt_cmpR (agw (room65 hr)) (pv 9) (pe_slice anl (pv 2) po_none (po_some (pv 6))) rfl))) (fun _ _ _ _ _=>(pv 9)))
 (pss_cons (ps_set (i:=8) Z9.nd rfl (by first | exact Or.inl rfl | exact Or.inr rfl) (pe_ix ix_seq (pv 7) (G4 (k:=2) (E:=E) (M7 (K:=K) T) (hr.mono (by decide)) passN (by rfl) (pa_cons (pv 0) (pa_cons (pe_callB R5 (by rfl) T.Y9 boot_len (pa_cons (pv 7) pa_nil)) pa_nil))) (fun _ _=>rfl)))
 (pss_one (ps_expr (pe_bm PySem.F.plainAttrs_list PySem.F.slot_list_append PySem.F.type_list_append mt_append (pv 4) (pa_cons (W4 (pa_cons (pv 6) (pa_cons (pv 8) (pa_cons (G4 (k:=3) (E:=E) (aga (K:=K) T) (hr.mono (by decide)) passN (by rfl) (pa_cons (pv 0) (pa_cons (G4 (k:=2) (E:=E) (M7 (K:=K) T) (hr.mono (by decide)) passN (by rfl) (pa_cons (pv 0) (pa_cons pe_int pa_nil))) pa_nil))) pa_nil)))) pa_nil))))))))
 (pss_one (ps_ret (pv 4)))))),
 (G3 (N8 (aaH j8))
 (G3 (P0 (G9 (o8 S9 (M9 V6 (d7 (d8 2) j8)) (o9 0)))
 (J5 (d8 4))
 M8)
 (G3 (acw (aeJ (d7 (G7 (E:=E) N5 (d7 (d8 0) (d7 (O6 (o8 Q4 (d8 3) (o9 1))) j8))) j8)) (W6 5)
 (acj (is:=[5,6,7,8]) (G3 (N8 (O6 (o8 Q4 (o9 1) (G7 (E:=E) N5 (d7 (d8 0) (d7 (M9 V6 (d7 (d8 2) j8)) j8))))))
 (G3 (N8 (O6 (aaW (Z5 (d8 1)) (Q8 (i:=9) (by simp)) (G9 (o8 ah0 (d8 9) (aku (d8 2) ai2 (afk (d8 6))))) (d8 9))))
 (G3 (N8 (o8 R7 (d8 7) (G7 (E:=E) N5 (d7 (d8 0) (d7 (M9 V6 (d7 (d8 7) j8)) j8)))))
 (abg (ab1 Z8 acx (d7 (Z3 (d7 (d8 6) (d7 (d8 8) (d7 (G7 (E:=E) agK (d7 (d8 0) (d7 (O6 (G7 (E:=E) N5 (d7 (d8 0) (d7 (o9 3) j8)))) j8))) j8)))) j8))))))))
 (J5 (d8 4)))))⟩
theorem agW (T:TX P w K mg):CallF CX0 P w K mg base 5 "_law_leaf" ["_law_pool_here","_law_names_here","_law_beginning"] acy:=
  Q6 (k:=4) (ds:=ae2) T.amf T.amg amx rfl rfl (fun _ _ _ _ _ _ us hl=>match us,hl with | [_,_,_],_=>rfl) fun cdv A outer s H E hr=>⟨_,
 (pss_cons (ps_if (pt_cmpR (R4 (room64 hr)) (G4 (k:=2) (E:=E) (M7 (K:=K) T) (hr.mono (by decide)) passN (by rfl) (pa_cons (pv 0) (pa_cons pe_int pa_nil))) pe_int (nomark _))
 (pss_one (ps_ret (W4 (pa_cons pe_str pa_nil))))
 pss_nil)
 (pss_one (ps_ret (W4 (pa_cons pe_str (pa_cons (pe_callTy aax (by rfl) T.abH boot_tuple (pa_cons (G4 (k:=4) (E:=E) (aiN (K:=K) T) (hr.mono (by decide)) passN (by rfl) (pa_cons (pv 0) (pa_cons (pv 1) (pa_cons (pe_slice anl (pv 2) po_none (po_some (pe_op op_sub (pe_callB R5 (by rfl) T.Y9 boot_len (pa_cons (pv 1) pa_nil)) pe_int))) (pa_cons pe_int pa_nil))))) pa_nil)) pa_nil)))))),
 (G3 (P0 (G9 (o8 S9 (G7 (E:=E) N5 (d7 (d8 0) (d7 (o9 3) j8))) (o9 0)))
 (J5 (Z3 (d7 (J9 "dead") j8)))
 M8)
 (J5 (Z3 (d7 (J9 "shut") (d7 (M9 ab0 (d7 (G7 (E:=E) ajc (d7 (d8 0) (d7 (d8 1) (d7 (O6 (aku (d8 2) ai2 (afk (o8 afh (M9 V6 (d7 (d8 1) j8)) (o9 1))))) (d7 (o9 4) j8))))) j8)) j8)))))⟩
theorem afv (T:TX P w K mg):CallF CX0 P w K mg base 3 "_law_choice" ["_law_pool_here","_law_names_here","_law_size"] aby:=
  Q6 (k:=2) (ds:=adV) T.aj0 T.aj1 abB rfl rfl (fun _ _ _ _ _ _ us hl=>match us,hl with | [_,_,_],_=>rfl) fun cdv A outer s H E hr=>⟨_,
 (pss_cons (ps_set (i:=3) abB.nd rfl (by first | exact Or.inl rfl | exact Or.inr rfl) (pe_callTy (aiq rfl) (by rfl) T.ait boot_list (pa_cons (pv 1) pa_nil)))
 (pss_cons (ps_set (i:=4) abB.nd rfl (by first | exact Or.inl rfl | exact Or.inr rfl) (pe_lst pa_nil))
 (pss_cons (ps_for PassesOwn.never rfl (pi_range1 (by rfl) T.ack (pa_cons (pv 2) pa_nil)) (pg_name (i:=5) abB.nd rfl (by first | exact Or.inl rfl | exact Or.inr rfl))
 (pss_cons (ps_set (i:=6) abB.nd rfl (by first | exact Or.inl rfl | exact Or.inr rfl) (G4 (k:=2) (E:=E) (M7 (K:=K) T) (hr.mono (by decide)) passN (by rfl) (pa_cons (pv 0) (pa_cons (pe_callB R5 (by rfl) T.Y9 boot_len (pa_cons (pv 3) pa_nil)) pa_nil))))
 (pss_one (ps_expr (pe_bm PySem.F.plainAttrs_list PySem.F.slot_list_append PySem.F.type_list_append mt_append (pv 4) (pa_cons (pe_bm PySem.F.plainAttrs_list PySem.F.slot_list_pop PySem.F.type_list_pop mt_popAt (pv 3) (pa_cons (pv 6) pa_nil)) pa_nil))))))
 (pss_one (ps_ret (pe_callTy aax (by rfl) T.abH boot_tuple (pa_cons (pv 4) pa_nil))))))),
 (G3 (N8 (M9 amH (d7 (d8 1) j8)))
 (G3 (N8 (aaH j8))
 (G3 (acw (aeJ (d7 (d8 2) j8)) (W6 5)
 (acj (is:=[5,6]) (G3 (N8 (O6 (G7 (E:=E) N5 (d7 (d8 0) (d7 (M9 V6 (d7 (d8 3) j8)) j8)))))
 (abg (ab1 Z8 acx (d7 (ab1 Z8 aoK (d7 (d8 6) j8)) j8))))))
 (J5 (M9 ab0 (d7 (d8 4) j8))))))⟩
theorem afw (T:TX P w K mg):CallF CX0 P w K mg base 4 "_law_ballot" ["_law_pool_here","_law_names_here"] abz:=
  Q6 (k:=3) (ds:=adW) T.aj2 T.aj3 akd rfl rfl (fun _ _ _ _ _ _ us hl=>match us,hl with | [_,_],_=>rfl) fun cdv A outer s H E hr=>⟨_,
 (pss_one (ps_ret (G4 (k:=3) (E:=E) (afv (K:=K) T) (hr.mono (by decide)) passN (by rfl) (pa_cons (pv 0) (pa_cons (pv 1) (pa_cons (G4 (k:=2) (E:=E) (M7 (K:=K) T) (hr.mono (by decide)) passN (by rfl) (pa_cons (pv 0) (pa_cons (pe_op O3 (pe_callB R5 (by rfl) T.Y9 boot_len (pa_cons (pv 1) pa_nil)) pe_int) pa_nil))) pa_nil)))))),
 (J5 (G7 (E:=E) af8 (d7 (d8 0) (d7 (d8 1) (d7 (O6 (G7 (E:=E) N5 (d7 (d8 0) (d7 (O6 (o8 Q4 (M9 V6 (d7 (d8 1) j8)) (o9 1))) j8)))) j8)))))⟩
theorem agX (T:TX P w K mg):∀ n,CallF CX0 P w K mg base (6+n) "_law_tree" ["_law_pool_here","_law_names_here","_law_beginning","_law_left"] (aa9 n)
  | 0=>ai4 (k:=5) T.ahK T.ahL U5 (fun _ _ _ _ _ _ us hl=>match us,hl with | [_,_,_,_],_=>rfl)
  | n+1=>by
    have IH:=agX T n
    exact Q6 (k:=6+n) (ds:=ae3 (aa9 n)) T.ahK T.ahL U5 rfl rfl (fun _ _ _ _ _ _ us hl=>match us,hl with | [_,_,_,_],_=>rfl) fun cdv A outer s H E hr=>⟨_,
 (pss_cons (ps_set (i:=4) U5.nd rfl (by first | exact Or.inl rfl | exact Or.inr rfl) (pe_callTy aax (by rfl) T.abH boot_tuple (pa_cons (pe_lc (own:=[("_law_name",9)]) (g:=_) (tt:=_) (by rfl) U5.nd (Z4 (pv 1)) (blkOk_by (N:=ae5) (sc:=defScope aaa) (by decide+kernel)) (fun _ _ _ _ _=>(pg_name (i:=9) U5.nd rfl (by first | exact Or.inl rfl | exact Or.inr rfl))) (fun _ _ _ _ _=>(pts_one (pt_cmpR (agw (room65 hr)) (pv 9) (pv 2) rfl))) (fun _ _ _ _ _=>(pv 9))) pa_nil)))
 (pss_cons (ps_set (i:=5) U5.nd rfl (by first | exact Or.inl rfl | exact Or.inr rfl) (G4 (k:=2) (E:=E) (M7 (K:=K) T) (hr.mono (by omega)) passN (by rfl) (pa_cons (pv 0) (pa_cons pe_int pa_nil))))
 (pss_cons (ps_if (PW.pt (pw_or (pt_cmpR (R4 (room64 hr)) (pe_ix ix_seq (pv 3) pe_int (fun _ _=>rfl)) pe_int (nomark _)) (pw_or1 (pt_cmpR (R4 (room64 hr)) (pv 5) pe_int (nomark _)))))
 (pss_one (ps_ret (G4 (k:=5) (E:=E) (agW (K:=K) T) (hr.mono (by omega)) passN (by rfl) (pa_cons (pv 0) (pa_cons (pv 1) (pa_cons (pv 2) pa_nil))))))
 pss_nil)
 (pss_cons (ps_asg (pe_op op_sub (pe_ix ix_seq (pv 3) pe_int (fun _ _=>rfl)) pe_int) (pg_sub (pv 3) pe_int set_list))
 (pss_cons (ps_if (PW.pt (pw_or (pt_cmpR (R4 (room64 hr)) (pv 5) pe_int (nomark _)) (pw_or1 (pt_cmpR (R4 (room64 hr)) (pe_callB R5 (by rfl) T.Y9 boot_len (pa_cons (pv 4) pa_nil)) pe_int (nomark _)))))
 (pss_cons (ps_set (i:=6) U5.nd rfl (by first | exact Or.inl rfl | exact Or.inr rfl) (G4 (k:=4) (E:=E) (afw (K:=K) T) (hr.mono (by omega)) passN (by rfl) (pa_cons (pv 0) (pa_cons (pv 1) pa_nil))))
 (pss_cons (ps_set (i:=7) U5.nd rfl (by first | exact Or.inl rfl | exact Or.inr rfl) (G4 (k:=3) (E:=E) (aga (K:=K) T) (hr.mono (by omega)) passN (by rfl) (pa_cons (pv 0) (pa_cons (G4 (k:=2) (E:=E) (M7 (K:=K) T) (hr.mono (by omega)) passN (by rfl) (pa_cons (pv 0) (pa_cons pe_int pa_nil))) pa_nil))))
 (pss_cons (ps_set (i:=8) U5.nd rfl (by first | exact Or.inl rfl | exact Or.inr rfl) (G4 (k:=(6+n)) (E:=E) IH (hr.mono (by omega)) passN (by rfl) (pa_cons (pv 0) (pa_cons (pv 1) (pa_cons (pv 2) (pa_cons (pv 3) pa_nil))))))
 (pss_one (ps_ret (W4 (pa_cons pe_str (pa_cons (pv 6) (pa_cons (pv 7) (pa_cons (pv 8) (pa_cons (G4 (k:=(6+n)) (E:=E) IH (hr.mono (by omega)) passN (by rfl) (pa_cons (pv 0) (pa_cons (pv 1) (pa_cons (pv 2) (pa_cons (pv 3) pa_nil))))) pa_nil)))))))))))
 pss_nil)
 (pss_cons (ps_if (pt_cmpR (R4 (room64 hr)) (pv 5) pe_int (nomark _))
 (pss_one (ps_set (i:=4) U5.nd rfl (by first | exact Or.inl rfl | exact Or.inr rfl) (G4 (k:=3) (E:=E) (afv (K:=K) T) (hr.mono (by omega)) passN (by rfl) (pa_cons (pv 0) (pa_cons (pv 4) (pa_cons (pe_op O3 pe_int (G4 (k:=2) (E:=E) (M7 (K:=K) T) (hr.mono (by omega)) passN (by rfl) (pa_cons (pv 0) (pa_cons (pe_callB R5 (by rfl) T.Y9 boot_len (pa_cons (pv 4) pa_nil)) pa_nil)))) pa_nil))))))
 pss_nil)
 (pss_cons (ps_if (PW.pt (pw_and (pt_cmpR (R4 (room64 hr)) (pv 5) pe_int (nomark _)) (pw_and1 (pt_cmpR (R4 (room64 hr)) (G4 (k:=2) (E:=E) (M7 (K:=K) T) (hr.mono (by omega)) passN (by rfl) (pa_cons (pv 0) (pa_cons pe_int pa_nil))) pe_int (nomark _)))))
 (pss_one (ps_set (i:=4) U5.nd rfl (by first | exact Or.inl rfl | exact Or.inr rfl) (pe_op O3 (pv 4) (pe_slice anl (pv 4) po_none (po_some pe_int)))))
 pss_nil)
 (pss_one (ps_ret (W4 (pa_cons pe_str (pa_cons (pe_callTy aax (by rfl) T.abH boot_tuple (pa_cons (pe_lc (own:=[("_law_name",9)]) (g:=_) (tt:=tYes) (by rfl) U5.nd (Z4 (pv 4)) (blkOk_by (N:=ae5) (sc:=defScope aaa) (by decide+kernel)) (fun _ _ _ _ _=>(pg_name (i:=9) U5.nd rfl (by first | exact Or.inl rfl | exact Or.inr rfl))) (fun _ _ _ _ _=>pts_nil) (fun _ _ _ _ _=>(W4 (pa_cons (pv 9) (pa_cons (G4 (k:=(6+n)) (E:=E0) IH (hr.mono (by omega)) passN (by rfl) (pa_cons (pv 0) (pa_cons (pv 1) (pa_cons (pe_op O3 (pv 2) (W4 (pa_cons (pv 9) pa_nil))) (pa_cons (pv 3) pa_nil))))) pa_nil))))) pa_nil)) pa_nil)))))))))))),
 (G3 (N8 (M9 ab0 (d7 (aaW (Z5 (d8 1)) (Q8 (i:=9) (by simp)) (G9 (o8 ah0 (d8 9) (d8 2))) (d8 9)) j8)))
 (G3 (N8 (O6 (G7 (E:=E) N5 (d7 (d8 0) (d7 (o9 4) j8)))))
 (G3 (P0 (aeF (G9 (o8 S9 (o8 R7 (d8 3) (o9 0)) (o9 0))) (G9 (o8 S9 (d8 5) (o9 0))))
 (J5 (G7 (E:=E) ahO (d7 (d8 0) (d7 (d8 1) (d7 (d8 2) j8)))))
 M8)
 (G3 (ai3 (o8 afh (o8 R7 (d8 3) (o9 0)) (o9 1)) (o9 0))
 (G3 (P0 (aeF (G9 (o8 S9 (d8 5) (o9 1))) (G9 (o8 S9 (M9 V6 (d7 (d8 4) j8)) (o9 0))))
 (G3 (N8 (O6 (G7 (E:=E) af9 (d7 (d8 0) (d7 (d8 1) j8)))))
 (G3 (N8 (O6 (G7 (E:=E) agK (d7 (d8 0) (d7 (O6 (G7 (E:=E) N5 (d7 (d8 0) (d7 (o9 3) j8)))) j8)))))
 (G3 (N8 (O6 (G7 (E:=E) (adw n) (d7 (d8 0) (d7 (d8 1) (d7 (d8 2) (d7 (d8 3) j8)))))))
 (J5 (Z3 (d7 (J9 "split") (d7 (d8 6) (d7 (d8 7) (d7 (d8 8) (d7 (G7 (E:=E) (adw n) (d7 (d8 0) (d7 (d8 1) (d7 (d8 2) (d7 (d8 3) j8))))) j8))))))))))
 M8)
 (G3 (P0 (G9 (o8 S9 (d8 5) (o9 2)))
 (N8 (O6 (G7 (E:=E) af8 (d7 (d8 0) (d7 (d8 4) (d7 (O6 (o8 Q4 (o9 1) (G7 (E:=E) N5 (d7 (d8 0) (d7 (M9 V6 (d7 (d8 4) j8)) j8))))) j8))))))
 M8)
 (G3 (P0 (akN (G9 (o8 S9 (d8 5) (o9 3))) (G9 (o8 S9 (G7 (E:=E) N5 (d7 (d8 0) (d7 (o9 4) j8))) (o9 0))))
 (N8 (O6 (o8 Q4 (d8 4) (aku (d8 4) ai2 (afk (o9 1))))))
 M8)
 (J5 (Z3 (d7 (J9 "next") (d7 (M9 ab0 (d7 (aaW (Z5 (d8 4)) (Q8 (i:=9) (by simp)) aaX (Z3 (d7 (d8 9) (d7 (G7 (E:=E0) (adw n) (d7 (d8 0) (d7 (d8 1) (d7 (O6 (o8 Q4 (d8 2) (Z3 (d7 (d8 9) j8)))) (d7 (d8 3) j8))))) j8)))) j8)) j8)))))))))))⟩
theorem akj (T:TX P w K mg):CallF CX0 P w K mg base 6 "_law_tower" ["_law_pool_here","_law_names_here","_law_paper","_law_height"] ac0:=
  Q6 (k:=5) (ds:=aep) T.ak7 T.ak8 abk rfl rfl (fun _ _ _ _ _ _ us hl=>match us,hl with | [_,_,_,_],_=>rfl) fun cdv A outer s H E hr=>⟨_,
 (pss_cons (ps_for PassesOwn.never rfl (pi_range1 (by rfl) T.ack (pa_cons (pv 3) pa_nil)) (pg_name (i:=4) abk.nd rfl (by first | exact Or.inl rfl | exact Or.inr rfl))
 (pss_cons (ps_set (i:=5) abk.nd rfl (by first | exact Or.inl rfl | exact Or.inr rfl) (G4 (k:=4) (E:=E) (afw (K:=K) T) (hr.mono (by decide)) passN (by rfl) (pa_cons (pv 0) (pa_cons (pv 1) pa_nil))))
 (pss_cons (ps_set (i:=6) abk.nd rfl (by first | exact Or.inl rfl | exact Or.inr rfl) (G4 (k:=5) (E:=E) (agW (K:=K) T) (hr.mono (by decide)) passN (by rfl) (pa_cons (pv 0) (pa_cons (pv 1) (pa_cons (W4 pa_nil) pa_nil)))))
 (pss_one (ps_if (pt_cmpR (R4 (room64 hr)) (G4 (k:=2) (E:=E) (M7 (K:=K) T) (hr.mono (by decide)) passN (by rfl) (pa_cons (pv 0) (pa_cons pe_int pa_nil))) pe_int (nomark _))
 (pss_one (ps_set (i:=2) abk.nd rfl (by first | exact Or.inl rfl | exact Or.inr rfl) (W4 (pa_cons pe_str (pa_cons (pv 5) (pa_cons (pv 4) (pa_cons (pv 6) (pa_cons (pv 2) pa_nil))))))))
 (pss_one (ps_set (i:=2) abk.nd rfl (by first | exact Or.inl rfl | exact Or.inr rfl) (W4 (pa_cons pe_str (pa_cons (pv 5) (pa_cons (pv 4) (pa_cons (pv 2) (pa_cons (pv 6) pa_nil)))))))))))))
 (pss_one (ps_ret (pv 2)))),
 (G3 (acw (aeJ (d7 (d8 3) j8)) (W6 4)
 (acj (is:=[4,5,6]) (G3 (N8 (O6 (G7 (E:=E) af9 (d7 (d8 0) (d7 (d8 1) j8)))))
 (G3 (N8 (O6 (G7 (E:=E) ahO (d7 (d8 0) (d7 (d8 1) (d7 (Z3 j8) j8))))))
 (P0 (G9 (o8 S9 (G7 (E:=E) N5 (d7 (d8 0) (d7 (o9 2) j8))) (o9 0)))
 (N8 (Z3 (d7 (J9 "split") (d7 (d8 5) (d7 (d8 4) (d7 (d8 6) (d7 (d8 2) j8)))))))
 (N8 (Z3 (d7 (J9 "split") (d7 (d8 5) (d7 (d8 4) (d7 (d8 2) (d7 (d8 6) j8))))))))))))
 (J5 (d8 2)))⟩
theorem age (T:TX P w K mg):CallF CX0 P w K mg base 1 "_law_ballot_text" ["_law_ballot_here"] aaZ:=
  Q6 (k:=0) (ds:=ab5) T.agG T.agH agT rfl rfl (fun _ _ _ _ _ _ us hl=>match us,hl with | [_],_=>rfl) fun cdv A outer s H E hr=>⟨_,
 (pss_cons (ps_if (pt_cmpR (R4 (room64 hr)) (pe_callB R5 (by rfl) T.Y9 boot_len (pa_cons (pv 0) pa_nil)) pe_int (nomark _))
 (pss_one (ps_ret pe_str))
 pss_nil)
 (pss_one (ps_ret (pe_join pe_str (pe_callTy (aiq rfl) (by rfl) T.ait boot_list (pa_cons (pv 0) pa_nil)))))),
 (G3 (P0 (G9 (o8 S9 (M9 V6 (d7 (d8 0) j8)) (o9 0)))
 (J5 (J9 "-"))
 M8)
 (J5 (ach aci (J9 ">") (M9 amH (d7 (d8 0) j8)))))⟩
theorem akk (T:TX P w K mg):CallF CX0 P w K mg base 2 "_law_lines" ["_law_paper"] ac1:=
  Q6 (k:=1) (ds:=aeq) T.ak9 T.ala R8 rfl rfl (fun _ _ _ _ _ _ us hl=>match us,hl with | [_],_=>rfl) fun cdv A outer s H E hr=>⟨_,
 (pss_cons (ps_set (i:=1) R8.nd rfl (by first | exact Or.inl rfl | exact Or.inr rfl) (pe_lst pa_nil))
 (pss_cons (ps_set (i:=2) R8.nd rfl (by first | exact Or.inl rfl | exact Or.inr rfl) (pe_lst (pa_cons (pv 0) pa_nil)))
 (pss_cons (ps_for PassesOwn.never rfl (pi_range1 (by rfl) T.ack (pa_cons pe_int pa_nil)) (pg_name (i:=3) R8.nd rfl (by first | exact Or.inl rfl | exact Or.inr rfl))
 (pss_cons (ps_if (pt_cmpR (R4 (room64 hr)) (pe_callB R5 (by rfl) T.Y9 boot_len (pa_cons (pv 2) pa_nil)) pe_int (nomark _))
 (pss_one ps_break)
 pss_nil)
 (pss_cons (ps_set (i:=4) R8.nd rfl (by first | exact Or.inl rfl | exact Or.inr rfl) (pe_bm0 PySem.F.plainAttrs_list PySem.F.slot_list_pop PySem.F.type_list_pop mt_pop (pv 2)))
 (pss_one (ps_if (pt_cmpR (R4 (room64 hr)) (pe_ix ix_seq (pv 4) pe_int (fun _ _=>rfl)) pe_str (nomark _))
 (pss_cons (ps_expr (pe_bm PySem.F.plainAttrs_list PySem.F.slot_list_append PySem.F.type_list_append mt_append (pv 1) (pa_cons (pe_op O3 pe_str (pe_join pe_str (pe_lc (own:=[("_law_name",6),("_law_branch",7)]) (g:=_) (tt:=tYes) (by rfl) R8.nd (Z4 (pe_ix ix_seq (pv 4) pe_int (fun _ _=>rfl))) (blkOk_by (N:=ac6) (sc:=defScope W7) (by decide+kernel)) (fun _ _ _ _ _=>(pg_tup (n:=2) rfl (pgs_cons (pg_name (i:=6) R8.nd rfl (by first | exact Or.inl rfl | exact Or.inr rfl)) (pgs_cons (pg_name (i:=7) R8.nd rfl (by first | exact Or.inl rfl | exact Or.inr rfl)) pgs_nil)))) (fun _ _ _ _ _=>pts_nil) (fun _ _ _ _ _=>(pv 6))))) pa_nil)))
 (pss_one (ps_expr (pe_bm PySem.F.plainAttrs_list PySem.F.slot_list_extend PySem.F.type_list_extend mt_extend (pv 2) (pa_cons (pe_revL (pe_lc (own:=[("_law_name",6),("_law_branch",7)]) (g:=_) (tt:=tYes) (by rfl) R8.nd (Z4 (pe_ix ix_seq (pv 4) pe_int (fun _ _=>rfl))) (blkOk_by (N:=ac6) (sc:=defScope W7) (by decide+kernel)) (fun _ _ _ _ _=>(pg_tup (n:=2) rfl (pgs_cons (pg_name (i:=6) R8.nd rfl (by first | exact Or.inl rfl | exact Or.inr rfl)) (pgs_cons (pg_name (i:=7) R8.nd rfl (by first | exact Or.inl rfl | exact Or.inr rfl)) pgs_nil)))) (fun _ _ _ _ _=>pts_nil) (fun _ _ _ _ _=>(pv 7)))) pa_nil)))))
 (pss_one (ps_if (pt_cmpR (R4 (room64 hr)) (pe_ix ix_seq (pv 4) pe_int (fun _ _=>rfl)) pe_str (nomark _))
 (pss_cons (ps_expr (pe_bm PySem.F.plainAttrs_list PySem.F.slot_list_append PySem.F.type_list_append mt_append (pv 1) (pa_cons (pe_op O3 (pe_op O3 (pe_op O3 pe_str (pe_callTy call_str_int (by rfl) T.ahc boot_str (pa_cons (pe_ix ix_seq (pv 4) pe_int (fun _ _=>rfl)) pa_nil))) pe_str) (G4 (k:=1) (E:=E) (age (K:=K) T) (hr.mono (by decide)) passN (by rfl) (pa_cons (pe_ix ix_seq (pv 4) pe_int (fun _ _=>rfl)) pa_nil))) pa_nil)))
 (pss_cons (ps_expr (pe_bm PySem.F.plainAttrs_list PySem.F.slot_list_append PySem.F.type_list_append mt_append (pv 2) (pa_cons (pe_ix ix_seq (pv 4) pe_int (fun _ _=>rfl)) pa_nil)))
 (pss_one (ps_expr (pe_bm PySem.F.plainAttrs_list PySem.F.slot_list_append PySem.F.type_list_append mt_append (pv 2) (pa_cons (pe_ix ix_seq (pv 4) pe_int (fun _ _=>rfl)) pa_nil))))))
 (pss_one (ps_if (pt_cmpR (R4 (room64 hr)) (pe_ix ix_seq (pv 4) pe_int (fun _ _=>rfl)) pe_str (nomark _))
 (pss_cons (ps_setLc (i:=5) (own:=[("_law_at",8),("_law_name",6),("_law_weight",9)]) (g:=_) (tt:=tYes) (by rfl) R8.nd rfl rfl (sw_true rfl rfl rfl (by decide+kernel)) (Z4 (pe_ix ix_seq (pv 4) pe_int (fun _ _=>rfl))) (blkOk_by (N:=ac6) (sc:=defScope W7) (by decide+kernel)) (fun _ _ _ _ _=>(pg_tup (n:=3) rfl (pgs_cons (pg_name (i:=8) R8.nd rfl (by first | exact Or.inl rfl | exact Or.inr rfl)) (pgs_cons (pg_name (i:=6) R8.nd rfl (by first | exact Or.inl rfl | exact Or.inr rfl)) (pgs_cons (pg_name (i:=9) R8.nd rfl (by first | exact Or.inl rfl | exact Or.inr rfl)) pgs_nil))))) (fun _ _ _ _ _=>pts_nil) (fun _ _ _ _ _=>(pe_op O3 (pe_op O3 (pe_op O3 (pe_op O3 (pe_op O3 pe_str (pe_callTy call_str_int (by rfl) T.ahc boot_str (pa_cons (pv 8) pa_nil))) pe_str) (pv 6)) pe_str) (pe_callTy call_str_int (by rfl) T.ahc boot_str (pa_cons (pv 9) pa_nil)))))
 (pss_one (ps_expr (pe_bm PySem.F.plainAttrs_list PySem.F.slot_list_append PySem.F.type_list_append mt_append (pv 1) (pa_cons (pe_op O3 pe_str (pe_join pe_str (pv 5))) pa_nil)))))
 (pss_one (ps_expr (pe_bm PySem.F.plainAttrs_list PySem.F.slot_list_append PySem.F.type_list_append mt_append (pv 1) (pa_cons pe_str pa_nil)))))))))))))
 (pss_one (ps_ret (pv 1)))))),
 (G3 (N8 (aaH j8))
 (G3 (N8 (aaH (d7 (d8 0) j8)))
 (G3 (acw (aeJ (d7 (o9 1000) j8)) (W6 3)
 (acj (is:=[3,4,5]) (G3 (P0 (G9 (o8 S9 (M9 V6 (d7 (d8 2) j8)) (o9 0)))
 aoJ
 M8)
 (G3 (N8 (apG Z8 aqC))
 (acj (is:=[5]) (P0 (G9 (o8 S9 (o8 R7 (d8 4) (o9 0)) (J9 "next")))
 (G3 (abg (ab1 Z8 acx (d7 (o8 Q4 (J9 "next ") (ach aci (J9 " ") (aaW (Z5 (o8 R7 (d8 4) (o9 1))) (afo (n:=2) (W8 (Q8 (i:=6) (by simp)) (W8 (Q8 (i:=7) (by simp)) ad9))) aaX (d8 6)))) j8)))
 (abg (apL Z8 aqF (d7 (apQ (aaW (Z5 (o8 R7 (d8 4) (o9 1))) (afo (n:=2) (W8 (Q8 (i:=6) (by simp)) (W8 (Q8 (i:=7) (by simp)) ad9))) aaX (d8 7))) j8))))
 (acj (is:=[5]) (P0 (G9 (o8 S9 (o8 R7 (d8 4) (o9 0)) (J9 "split")))
 (G3 (abg (ab1 Z8 acx (d7 (o8 Q4 (o8 Q4 (o8 Q4 (J9 "split ") (M9 ai6 (d7 (o8 R7 (d8 4) (o9 2)) j8))) (J9 " ")) (G7 (E:=E) agL (d7 (o8 R7 (d8 4) (o9 1)) j8))) j8)))
 (G3 (abg (ab1 Z8 acx (d7 (o8 R7 (d8 4) (o9 4)) j8)))
 (abg (ab1 Z8 acx (d7 (o8 R7 (d8 4) (o9 3)) j8)))))
 (acj (is:=[5]) (P0 (G9 (o8 S9 (o8 R7 (d8 4) (o9 0)) (J9 "shut")))
 (G3 (N8 (O6 (aaW (Z5 (o8 R7 (d8 4) (o9 1))) (afo (n:=3) (W8 (Q8 (i:=8) (by simp)) (W8 (Q8 (i:=6) (by simp)) (W8 (Q8 (i:=9) (by simp)) ad9)))) aaX (o8 Q4 (o8 Q4 (o8 Q4 (o8 Q4 (o8 Q4 (J9 " ") (M9 ai6 (d7 (d8 8) j8))) (J9 " ")) (d8 6)) (J9 " ")) (M9 ai6 (d7 (d8 9) j8))))))
 (abg (ab1 Z8 acx (d7 (o8 Q4 (J9 "shut") (ach aci (J9 "") (d8 5))) j8))))
 (abg (ab1 Z8 acx (d7 (J9 "dead") j8)))))))))))))
 (J5 (d8 1)))))⟩
theorem ajq (T:TX P w K mg):CallF CX0 P w K mg base 1 "ballot_text" ["ballot"] acG:=
  Q6 (k:=0) (ds:=adX) T.aj4 T.aj5 akf rfl rfl (fun _ _ _ _ _ _ us hl=>match us,hl with | [_],_=>rfl) fun cdv A outer s H E hr=>⟨_,
 (pss_cons (ps_if (pt_cmpR (R4 (room64 hr)) (pe_callB R5 (by rfl) T.Y9 boot_len (pa_cons (pv 0) pa_nil)) pe_int (nomark _))
 (pss_one (ps_ret pe_str))
 pss_nil)
 (pss_one (ps_ret (pe_join pe_str (pv 0))))),
 (G3 (P0 (G9 (o8 S9 (M9 V6 (d7 (d8 0) j8)) (o9 0)))
 (J5 (J9 "-"))
 M8)
 (J5 (ach aci (J9 ">") (d8 0))))⟩
theorem agb (T:TX P w K mg):∀ n,CallF CX0 P w K mg base (2+n) "node_lines" ["node"] (aaJ n)
  | 0=>ai4 (k:=1) T.agI T.agJ Q5 (fun _ _ _ _ _ _ us hl=>match us,hl with | [_],_=>rfl)
  | n+1=>by
    have IH:=agb T n
    exact Q6 (k:=2+n) (ds:=aer (aaJ n)) T.agI T.agJ Q5 rfl rfl (fun _ _ _ _ _ _ us hl=>match us,hl with | [_],_=>rfl) fun cdv A outer s H E hr=>⟨_,
 (pss_cons (ps_if (pt_cmpR (R4 (room64 hr)) (pe_ix ix_seq (pv 0) pe_int (fun _ _=>rfl)) pe_str (nomark _))
 (pss_one (ps_ret (pe_lst (pa_cons pe_str pa_nil))))
 pss_nil)
 (pss_cons (ps_if (pt_cmpR (R4 (room64 hr)) (pe_ix ix_seq (pv 0) pe_int (fun _ _=>rfl)) pe_str (nomark _))
 (pss_one (ps_ret (pe_lst (pa_cons (pe_op O3 pe_str (pe_join pe_str (pe_lc (own:=[("at",9),("name",7),("weight",10)]) (g:=_) (tt:=tYes) (by rfl) Q5.nd (Z4 (pe_ix ix_seq (pv 0) pe_int (fun _ _=>rfl))) (blkOk_by (N:=aex) (sc:=defScope X5) (by decide+kernel)) (fun _ _ _ _ _=>(pg_tup (n:=3) rfl (pgs_cons (pg_name (i:=9) Q5.nd rfl (by first | exact Or.inl rfl | exact Or.inr rfl)) (pgs_cons (pg_name (i:=7) Q5.nd rfl (by first | exact Or.inl rfl | exact Or.inr rfl)) (pgs_cons (pg_name (i:=10) Q5.nd rfl (by first | exact Or.inl rfl | exact Or.inr rfl)) pgs_nil))))) (fun _ _ _ _ _=>pts_nil) (fun _ _ _ _ _=>(pe_joined (.cons pe_str (.cons (pe_fmt (pv 9)) (.cons pe_str (.cons (pe_fmt (pv 7)) (.cons pe_str (.cons (pe_fmt (pv 10)) .nil))))))))))) pa_nil))))
 pss_nil)
 (pss_cons (ps_if (pt_cmpR (R4 (room64 hr)) (pe_ix ix_seq (pv 0) pe_int (fun _ _=>rfl)) pe_str (nomark _))
 (pss_cons (ps_set (i:=6) Q5.nd rfl (by first | exact Or.inl rfl | exact Or.inr rfl) (pe_lst (pa_cons (pe_op O3 pe_str (pe_join pe_str (pe_lc (own:=[("name",7),("branch",8)]) (g:=_) (tt:=tYes) (by rfl) Q5.nd (Z4 (pe_ix ix_seq (pv 0) pe_int (fun _ _=>rfl))) (blkOk_by (N:=aex) (sc:=defScope X5) (by decide+kernel)) (fun _ _ _ _ _=>(pg_tup (n:=2) rfl (pgs_cons (pg_name (i:=7) Q5.nd rfl (by first | exact Or.inl rfl | exact Or.inr rfl)) (pgs_cons (pg_name (i:=8) Q5.nd rfl (by first | exact Or.inl rfl | exact Or.inr rfl)) pgs_nil)))) (fun _ _ _ _ _=>pts_nil) (fun _ _ _ _ _=>(pv 7))))) pa_nil)))
 (pss_cons (ps_for PassesOwn.never rfl (Z4 (pe_ix ix_seq (pv 0) pe_int (fun _ _=>rfl))) (pg_tup (n:=2) rfl (pgs_cons (pg_name (i:=7) Q5.nd rfl (by first | exact Or.inl rfl | exact Or.inr rfl)) (pgs_cons (pg_name (i:=8) Q5.nd rfl (by first | exact Or.inl rfl | exact Or.inr rfl)) pgs_nil)))
 (pss_one (ps_set (i:=6) Q5.nd rfl (by first | exact Or.inl rfl | exact Or.inr rfl) (pe_op O3 (pv 6) (G4 (k:=(2+n)) (E:=E) IH (hr.mono (by omega)) passN (by rfl) (pa_cons (pv 8) pa_nil))))))
 (pss_one (ps_ret (pv 6)))))
 pss_nil)
 (pss_cons (ps_asg (pv 0) (pg_tup (n:=5) rfl (pgs_cons (pg_name (i:=1) Q5.nd rfl (by first | exact Or.inl rfl | exact Or.inr rfl)) (pgs_cons (pg_name (i:=2) Q5.nd rfl (by first | exact Or.inl rfl | exact Or.inr rfl)) (pgs_cons (pg_name (i:=3) Q5.nd rfl (by first | exact Or.inl rfl | exact Or.inr rfl)) (pgs_cons (pg_name (i:=4) Q5.nd rfl (by first | exact Or.inl rfl | exact Or.inr rfl)) (pgs_cons (pg_name (i:=5) Q5.nd rfl (by first | exact Or.inl rfl | exact Or.inr rfl)) pgs_nil)))))))
 (pss_one (ps_ret (pe_op O3 (pe_op O3 (pe_lst (pa_cons (pe_joined (.cons pe_str (.cons (pe_fmt (pv 3)) (.cons pe_str (.cons (pe_fmt (G4 (k:=1) (E:=E) (ajq (K:=K) T) (hr.mono (by omega)) passN (by rfl) (pa_cons (pv 2) pa_nil))) .nil))))) pa_nil)) (G4 (k:=(2+n)) (E:=E) IH (hr.mono (by omega)) passN (by rfl) (pa_cons (pv 4) pa_nil))) (G4 (k:=(2+n)) (E:=E) IH (hr.mono (by omega)) passN (by rfl) (pa_cons (pv 5) pa_nil))))))))),
 (G3 (P0 (G9 (o8 S9 (o8 R7 (d8 0) (o9 0)) (J9 "dead")))
 (J5 (O6 (aaH (d7 (J9 "dead") j8))))
 M8)
 (G3 (P0 (G9 (o8 S9 (o8 R7 (d8 0) (o9 0)) (J9 "shut")))
 (J5 (O6 (aaH (d7 (o8 Q4 (J9 "shut") (ach aci (J9 "") (aaW (Z5 (o8 R7 (d8 0) (o9 1))) (afo (n:=3) (W8 (Q8 (i:=9) (by simp)) (W8 (Q8 (i:=7) (by simp)) (W8 (Q8 (i:=10) (by simp)) ad9)))) aaX (dj0 (abG (J9 " ") (abG (agE (d8 9)) (abG (J9 " ") (abG (agE (d8 7)) (abG (J9 " ") (abG (agE (d8 10)) an4)))))))))) j8))))
 M8)
 (G3 (P0 (G9 (o8 S9 (o8 R7 (d8 0) (o9 0)) (J9 "next")))
 (G3 (N8 (O6 (aaH (d7 (o8 Q4 (J9 "next ") (ach aci (J9 " ") (aaW (Z5 (o8 R7 (d8 0) (o9 1))) (afo (n:=2) (W8 (Q8 (i:=7) (by simp)) (W8 (Q8 (i:=8) (by simp)) ad9))) aaX (d8 7)))) j8))))
 (G3 (acw (Z5 (o8 R7 (d8 0) (o9 1))) (anS (n:=2) (abF (W6 7) (abF (W6 8) akP)))
 (acj (is:=[7,8]) (N8 (O6 (o8 Q4 (d8 6) (G7 (E:=E) (ac2 n) (d7 (d8 8) j8)))))))
 (J5 (O6 (d8 6)))))
 M8)
 (G3 (apC (anS (n:=5) (abF (W6 1) (abF (W6 2) (abF (W6 3) (abF (W6 4) (abF (W6 5) akP)))))) (d8 0))
 (J5 (O6 (o8 Q4 (o8 Q4 (aaH (d7 (dj0 (abG (J9 "split ") (abG (agE (d8 3)) (abG (J9 " ") (abG (agE (G7 (E:=E) aj9 (d7 (d8 2) j8))) an4))))) j8)) (G7 (E:=E) (ac2 n) (d7 (d8 4) j8))) (G7 (E:=E) (ac2 n) (d7 (d8 5) j8)))))))))⟩
theorem akl (T:TX P w K mg):CallF CX0 P w K mg base 143 "paper_text" ["paper"] ac3:=
  Q6 (k:=142) (ds:=aes) T.alb T.alc alM rfl rfl (fun _ _ _ _ _ _ us hl=>match us,hl with | [_],_=>rfl) fun cdv A outer s H E hr=>⟨_,
 (pss_one (ps_ret (pe_join pe_str (G4 (k:=142) (E:=E) (agb (K:=K) T 140) (hr.mono (by decide)) passN (by rfl) (pa_cons (pv 0) pa_nil))))),
 (J5 (ach aci (J9 "\n") (G7 (E:=E) (ac2 140) (d7 (d8 0) j8))))⟩
theorem agY (T:TX P w K mg):∀ n,CallF CX0 P w K mg base (1+n) "_law_same" ["_law_got","_law_wanted"] (aba n)
  | 0=>ai4 (k:=0) T.ahM T.ahN ae6 (fun _ _ _ _ _ _ us hl=>match us,hl with | [_,_],_=>rfl)
  | n+1=>by
    have IH:=agY T n
    exact Q6 (k:=1+n) (ds:=ae4 (aba n)) T.ahM T.ahN ae6 rfl rfl (fun _ _ _ _ _ _ us hl=>match us,hl with | [_,_],_=>rfl) fun cdv A outer s H E hr=>⟨_,
 (pss_cons (ps_if (pt_cmpR op_isN (pv 1) pe_non (nomark _))
 (pss_one (ps_ret (pe_cmpR op_isN (pv 0) pe_non (nomark _))))
 pss_nil)
 (pss_cons (ps_if (pt_val (pe_callB call_isi (by rfl) T.U3 boot_isinstance (pa_cons (pv 1) (pa_cons (pe_bltn (v:=.ty "bool") (by rfl) T.alf boot_bool rfl) pa_nil))))
 (pss_one (ps_ret (pe_and (pe_callB call_isi (by rfl) T.U3 boot_isinstance (pa_cons (pv 0) (pa_cons (pe_bltn (v:=.ty "bool") (by rfl) T.alf boot_bool rfl) pa_nil))) (pe_one (pe_cmpR (R4 (room64 hr)) (pv 0) (pv 1) (nomark _))))))
 pss_nil)
 (pss_cons (ps_if (pt_val (pe_callB call_isi (by rfl) T.U3 boot_isinstance (pa_cons (pv 1) (pa_cons (pe_bltn (v:=.ty "int") (by rfl) T.adp boot_int rfl) pa_nil))))
 (pss_one (ps_ret (pe_and (pe_callB call_isi (by rfl) T.U3 boot_isinstance (pa_cons (pv 0) (pa_cons (pe_bltn (v:=.ty "int") (by rfl) T.adp boot_int rfl) pa_nil))) (pe_and (pe_not (pe_callB call_isi (by rfl) T.U3 boot_isinstance (pa_cons (pv 0) (pa_cons (pe_bltn (v:=.ty "bool") (by rfl) T.alf boot_bool rfl) pa_nil)))) (pe_one (pe_cmpR (R4 (room64 hr)) (pv 0) (pv 1) (nomark _)))))))
 pss_nil)
 (pss_cons (ps_if (pt_val (pe_callB call_isi (by rfl) T.U3 boot_isinstance (pa_cons (pv 1) (pa_cons (pe_bltn (v:=.ty "str") (by rfl) T.ahc boot_str rfl) pa_nil))))
 (pss_one (ps_ret (pe_and (pe_callB call_isi (by rfl) T.U3 boot_isinstance (pa_cons (pv 0) (pa_cons (pe_bltn (v:=.ty "str") (by rfl) T.ahc boot_str rfl) pa_nil))) (pe_one (pe_cmpR (R4 (room64 hr)) (pv 0) (pv 1) (nomark _))))))
 pss_nil)
 (pss_cons (ps_if (PW.pt (pw_and (pt_val (pe_callB call_isi (by rfl) T.U3 boot_isinstance (pa_cons (pv 1) (pa_cons (pe_bltn (v:=.ty "tuple") (by rfl) T.abH boot_tuple rfl) pa_nil)))) (pw_and1 (pt_not (pt_val (pe_callB call_isi (by rfl) T.U3 boot_isinstance (pa_cons (pv 0) (pa_cons (pe_bltn (v:=.ty "tuple") (by rfl) T.abH boot_tuple rfl) pa_nil))))))))
 (pss_one (ps_ret pe_bl))
 pss_nil)
 (pss_cons (ps_if (PW.pt (pw_and (pt_val (pe_callB call_isi (by rfl) T.U3 boot_isinstance (pa_cons (pv 1) (pa_cons (pe_bltn (v:=.ty "list") (by rfl) T.ait boot_list rfl) pa_nil)))) (pw_and1 (pt_not (pt_val (pe_callB call_isi (by rfl) T.U3 boot_isinstance (pa_cons (pv 0) (pa_cons (pe_bltn (v:=.ty "list") (by rfl) T.ait boot_list rfl) pa_nil))))))))
 (pss_one (ps_ret pe_bl))
 pss_nil)
 (pss_cons (ps_if (pt_cmpR (aim (room64 hr)) (pe_callB R5 (by rfl) T.Y9 boot_len (pa_cons (pv 0) pa_nil)) (pe_callB R5 (by rfl) T.Y9 boot_len (pa_cons (pv 1) pa_nil)) (nomark _))
 (pss_one (ps_ret pe_bl))
 pss_nil)
 (pss_cons (ps_for PassesOwn.never rfl (pi_range1 (by rfl) T.ack (pa_cons (pe_callB R5 (by rfl) T.Y9 boot_len (pa_cons (pv 1) pa_nil)) pa_nil)) (pg_name (i:=2) ae6.nd rfl (by first | exact Or.inl rfl | exact Or.inr rfl))
 (pss_one (ps_if (pt_not (pt_val (G4 (k:=(1+n)) (E:=E) IH (hr.mono (by omega)) passN (by rfl) (pa_cons (pe_ix ix_seq (pv 0) (pv 2) (fun _ _=>rfl)) (pa_cons (pe_ix ix_seq (pv 1) (pv 2) (fun _ _=>rfl)) pa_nil)))))
 (pss_one (ps_ret pe_bl))
 pss_nil)))
 (pss_one (ps_ret pe_bl)))))))))),
 (G3 (P0 (G9 (o8 anP (d8 1) anN))
 (J5 (o8 anP (d8 0) anN))
 M8)
 (G3 (P0 (G9 (M9 abx (d7 (d8 1) (d7 acF j8))))
 (J5 (afl (M9 abx (d7 (d8 0) (d7 acF j8))) (o8 S9 (d8 0) (d8 1))))
 M8)
 (G3 (P0 (G9 (M9 abx (d7 (d8 1) (d7 acF j8))))
 (J5 (afl (M9 abx (d7 (d8 0) (d7 acF j8))) (afl (apB (M9 abx (d7 (d8 0) (d7 acF j8)))) (o8 S9 (d8 0) (d8 1)))))
 M8)
 (G3 (P0 (G9 (M9 abx (d7 (d8 1) (d7 acF j8))))
 (J5 (afl (M9 abx (d7 (d8 0) (d7 acF j8))) (o8 S9 (d8 0) (d8 1))))
 M8)
 (G3 (P0 (akN (G9 (M9 abx (d7 (d8 1) (d7 acF j8)))) (aaV (G9 (M9 abx (d7 (d8 0) (d7 acF j8))))))
 (J5 (acf false))
 M8)
 (G3 (P0 (akN (G9 (M9 abx (d7 (d8 1) (d7 acF j8)))) (aaV (G9 (M9 abx (d7 (d8 0) (d7 acF j8))))))
 (J5 (acf false))
 M8)
 (G3 (P0 (G9 (o8 akt (M9 V6 (d7 (d8 0) j8)) (M9 V6 (d7 (d8 1) j8))))
 (J5 (acf false))
 M8)
 (G3 (acw (aeJ (d7 (M9 V6 (d7 (d8 1) j8)) j8)) (W6 2)
 (acj (is:=[2]) (P0 (aaV (G9 (G7 (E:=E) (ahP n) (d7 (o8 R7 (d8 0) (d8 2)) (d7 (o8 R7 (d8 1) (d8 2)) j8)))))
 (J5 (acf false))
 M8)))
 (J5 (acf true))))))))))⟩
theorem agZ (T:TX P w K mg) {f:Addr} (F:∃ fd,FunD K "__init__" "Reader.__init__" (defArgs R9) (defBody R9) (defScope R9) [] [] f fd):FnR P w K mg base CX0 1 f (spD K aaq):=
  an3 (k:=0) (ds:=acr) F ahy rfl rfl (fun _ _ _ _ _ _ us hl=>match us,hl with | [_,_],_=>rfl) fun cdv A outer s H E hr=>⟨_,
 (pss_cons (amL (K:=K) ⟨rfl,rfl,rfl,rfl,rfl⟩ (pv 0) (pv 1))
 (pss_one (amL (K:=K) ⟨rfl,rfl,rfl,rfl,rfl⟩ (pv 0) pe_int))),
 (G3 (amK T.afK (d8 1))
 (amK T.aem (o9 0)))⟩
theorem alR (T:TX P w K mg):CallF CX0 P w K mg base 1 "is_number" ["word"] adn:=
  Q6 (k:=0) (ds:=aeU) T.amh T.ami ae7 rfl rfl (fun _ _ _ _ _ _ us hl=>match us,hl with | [_],_=>rfl) fun cdv A outer s H E hr=>⟨_,
 (pss_cons (ps_if (PW.pt (pw_or (pt_cmpR (R4 (room64 hr)) (pv 0) pe_str (nomark _)) (pw_or1 (pt_not (pt_val (pe_callB (cr_all rfl) (by rfl) T.akv boot_all (pa_cons (pe_lc (own:=[("digit",1)]) (g:=_) (tt:=tYes) (by rfl) ae7.nd (Z4 (pv 0)) (blkOk_by (N:=ahT) (sc:=defScope aaw) (by decide+kernel)) (fun _ _ _ _ _=>(pg_name (i:=1) ae7.nd rfl (by first | exact Or.inl rfl | exact Or.inr rfl))) (fun _ _ _ _ _=>pts_nil) (fun _ _ _ _ _=>(pe_cmpR (akL (room65 hr)) (pv 1) (afH (by rfl) T.aoY) rfl))) pa_nil)))))))
 (pss_one (ps_ret pe_bl))
 pss_nil)
 (pss_one (ps_ret (pe_or (pe_cmpR (R4 (room64 hr)) (pv 0) pe_str (nomark _)) (pe_one (pe_cmpR (aim (room64 hr)) (pe_ix ix_seq (pv 0) pe_int (fun _ _=>rfl)) pe_str (nomark _))))))),
 (G3 (P0 (aeF (G9 (o8 S9 (d8 0) (J9 ""))) (aaV (G9 (M9 ok_all (d7 (aaW (Z5 (d8 0)) (Q8 (i:=1) (by simp)) aaX (o8 anj (d8 1) (J9 "0123456789"))) j8)))))
 (J5 (acf false))
 M8)
 (J5 (anR (o8 S9 (d8 0) (J9 "0")) (o8 akt (o8 R7 (d8 0) (o9 0)) (J9 "0")))))⟩
theorem ab7 (T:TX P w K mg):CallF CX0 P w K mg base 2 "is_short_number" ["word"] Y5:=
  Q6 (k:=1) (ds:=acq) T.ahp T.ahq ahA rfl rfl (fun _ _ _ _ _ _ us hl=>match us,hl with | [_],_=>rfl) fun cdv A outer s H E hr=>⟨_,
 (pss_one (ps_ret (pe_and (G4 (k:=1) (E:=E) (alR (K:=K) T) (hr.mono (by decide)) passN (by rfl) (pa_cons (pv 0) pa_nil)) (pe_one (pe_cmpR op_le (pe_callB R5 (by rfl) T.Y9 boot_len (pa_cons (pv 0) pa_nil)) (afH (by rfl) T.aj8) (nomark _)))))),
 (J5 (afl (G7 (E:=E) amo (d7 (d8 0) j8)) (o8 (agv fun i j=>decide (i≤j)) (M9 V6 (d7 (d8 0) j8)) (o9 13))))⟩
theorem afU (T:TX P w K mg):CallF CX0 P w K mg base 1 "is_name" ["word"] acP:=
  Q6 (k:=0) (ds:=agg) T.an8 T.an9 agU rfl rfl (fun _ _ _ _ _ _ us hl=>match us,hl with | [_],_=>rfl) fun cdv A outer s H E hr=>⟨_,
 (pss_cons (ps_if (pt_not (pt_chain op_le op_le pe_int (pe_callB R5 (by rfl) T.Y9 boot_len (pa_cons (pv 0) pa_nil)) (afH (by rfl) T.aja)))
 (pss_one (ps_ret pe_bl))
 pss_nil)
 (pss_one (ps_ret (pe_callB (cr_all rfl) (by rfl) T.akv boot_all (pa_cons (pe_lc (own:=[("letter",1)]) (g:=_) (tt:=tYes) (by rfl) agU.nd (Z4 (pv 0)) (blkOk_by (N:=ajN) (sc:=defScope abo) (by decide+kernel)) (fun _ _ _ _ _=>(pg_name (i:=1) agU.nd rfl (by first | exact Or.inl rfl | exact Or.inr rfl))) (fun _ _ _ _ _=>pts_nil) (fun _ _ _ _ _=>(pe_cmpR (akL (room65 hr)) (pv 1) (afH (by rfl) T.aod) rfl))) pa_nil))))),
 (G3 (P0 (aaV (G9 (aoI (p:=(fun i j=>decide (i≤j))) (q:=(fun i j=>decide (i≤j))) (o9 1) (M9 V6 (d7 (d8 0) j8)) (o9 12))))
 (J5 (acf false))
 M8)
 (J5 (M9 ok_all (d7 (aaW (Z5 (d8 0)) (Q8 (i:=1) (by simp)) aaX (o8 anj (d8 1) (J9 "abcdefghijklmnopqrstuvwxyz"))) j8))))⟩
theorem ahC (T:TX P w K mg):CallF CX0 P w K mg base 2 "is_ballot_text" ["word"] abt:=
  Q6 (k:=1) (ds:=acK) T.ah9 T.aia acN rfl rfl (fun _ _ _ _ _ _ us hl=>match us,hl with | [_],_=>rfl) fun cdv A outer s H E hr=>⟨_,
 (pss_one (ps_ret (pe_or (pe_cmpR (R4 (room64 hr)) (pv 0) pe_str (nomark _)) (pe_one (pe_callB (cr_all rfl) (by rfl) T.akv boot_all (pa_cons (pe_lc (own:=[("part",1)]) (g:=_) (tt:=tYes) (by rfl) acN.nd (Z4 (pe_split (pv 0) pe_str)) (blkOk_by (N:=aey) (sc:=defScope V1) (by decide+kernel)) (fun _ _ _ _ _=>(pg_name (i:=1) acN.nd rfl (by first | exact Or.inl rfl | exact Or.inr rfl))) (fun _ _ _ _ _=>pts_nil) (fun _ _ _ _ _=>(G4 (k:=1) (E:=E0) (afU (K:=K) T) (hr.mono (by decide)) passN (by rfl) (pa_cons (pv 1) pa_nil)))) pa_nil)))))),
 (J5 (anR (o8 S9 (d8 0) (J9 "-")) (M9 ok_all (d7 (aaW (Z5 (ach afI (d8 0) (J9 ">"))) (Q8 (i:=1) (by simp)) aaX (G7 (E:=E0) agM (d7 (d8 1) j8))) j8))))⟩
theorem alS (T:TX P w K mg):CallF CX0 P w K mg base 1 "ballot_of" ["word"] ado:=
  Q6 (k:=0) (ds:=aeV) T.amj T.amk amA rfl rfl (fun _ _ _ _ _ _ us hl=>match us,hl with | [_],_=>rfl) fun cdv A outer s H E hr=>⟨_,
 (pss_cons (ps_if (pt_cmpR (R4 (room64 hr)) (pv 0) pe_str (nomark _))
 (pss_one (ps_ret (W4 pa_nil)))
 pss_nil)
 (pss_one (ps_ret (pe_callTy aax (by rfl) T.abH boot_tuple (pa_cons (pe_split (pv 0) pe_str) pa_nil))))),
 (G3 (P0 (G9 (o8 S9 (d8 0) (J9 "-")))
 (J5 (Z3 j8))
 M8)
 (J5 (M9 ab0 (d7 (ach afI (d8 0) (J9 ">")) j8))))⟩
theorem aiO (T:TX P w K mg):CallF CX0 P w K mg base 1 "triples" ["words"] adC:=
  Q6 (k:=0) (ds:=agh) T.aoa T.aob agV rfl rfl (fun _ _ _ _ _ _ us hl=>match us,hl with | [_],_=>rfl) fun cdv A outer s H E hr=>⟨_,
 (pss_one (ps_ret (pe_lc (own:=[("at",1)]) (g:=_) (tt:=tYes) (by rfl) agV.nd (pi_range3 (by rfl) T.ack (pa_cons pe_int (pa_cons (pe_callB R5 (by rfl) T.Y9 boot_len (pa_cons (pv 0) pa_nil)) (pa_cons pe_int pa_nil)))) (blkOk_by (N:=ajO) (sc:=defScope abp) (by decide+kernel)) (fun _ _ _ _ _=>(pg_name (i:=1) agV.nd rfl (by first | exact Or.inl rfl | exact Or.inr rfl))) (fun _ _ _ _ _=>pts_nil) (fun _ _ _ _ _=>(pe_slice anl (pv 0) (po_some (pv 1)) (po_some (pe_op O3 (pv 1) pe_int))))))),
 (J5 (O6 (aaW (arv (d7 (o9 0) (d7 (M9 V6 (d7 (d8 0) j8)) (d7 (o9 3) j8)))) (Q8 (i:=1) (by simp)) aaX (aku (d8 0) (afk (d8 1)) (afk (o8 Q4 (d8 1) (o9 3)))))))⟩
theorem ajr (T:TX P w K mg):CallF CX0 P w K mg base 3 "are_weights" ["words"] acE:=
  Q6 (k:=2) (ds:=adU) T.aj6 T.aj7 acH rfl rfl (fun _ _ _ _ _ _ us hl=>match us,hl with | [_],_=>rfl) fun cdv A outer s H E hr=>⟨_,
 (pss_cons (ps_if (pt_cmpR (aim (room64 hr)) (pe_op op_mod (pe_callB R5 (by rfl) T.Y9 boot_len (pa_cons (pv 0) pa_nil)) pe_int) pe_int (nomark _))
 (pss_one (ps_ret pe_bl))
 pss_nil)
 (pss_cons (ps_for PassesOwn.never rfl (Z4 (G4 (k:=1) (E:=E) (aiO (K:=K) T) (hr.mono (by decide)) passN (by rfl) (pa_cons (pv 0) pa_nil))) (amN (n:=3) rfl (pgs_cons (pg_name (i:=1) acH.nd rfl (by first | exact Or.inl rfl | exact Or.inr rfl)) (pgs_cons (pg_name (i:=2) acH.nd rfl (by first | exact Or.inl rfl | exact Or.inr rfl)) (pgs_cons (pg_name (i:=3) acH.nd rfl (by first | exact Or.inl rfl | exact Or.inr rfl)) pgs_nil))))
 (pss_one (ps_if (PW.pt (pw_or (pt_not (pt_val (G4 (k:=2) (E:=E) (ab7 (K:=K) T) (hr.mono (by decide)) passN (by rfl) (pa_cons (pv 1) pa_nil)))) (pw_or (pt_not (pt_val (G4 (k:=1) (E:=E) (afU (K:=K) T) (hr.mono (by decide)) passN (by rfl) (pa_cons (pv 2) pa_nil)))) (pw_or1 (pt_not (pt_val (G4 (k:=2) (E:=E) (ab7 (K:=K) T) (hr.mono (by decide)) passN (by rfl) (pa_cons (pv 3) pa_nil))))))))
 (pss_one (ps_ret pe_bl))
 pss_nil)))
 (pss_one (ps_ret pe_bl)))),
 (G3 (P0 (G9 (o8 akt (o8 afi (M9 V6 (d7 (d8 0) j8)) (o9 3)) (o9 0)))
 (J5 (acf false))
 M8)
 (G3 (acw (Z5 (G7 (E:=E) ajM (d7 (d8 0) j8))) (aqL (n:=3) (abF (W6 1) (abF (W6 2) (abF (W6 3) akP))))
 (acj (is:=[1,2,3]) (P0 (aeF (aaV (G9 (G7 (E:=E) acs (d7 (d8 1) j8)))) (aeF (aaV (G9 (G7 (E:=E) agM (d7 (d8 2) j8)))) (aaV (G9 (G7 (E:=E) acs (d7 (d8 3) j8))))))
 (J5 (acf false))
 M8)))
 (J5 (acf true))))⟩
theorem afV (T:TX P w K mg) {f:Addr} (F:∃ fd,FunD K "weights_of" "Reader.weights_of" (defArgs Q3) (defBody Q3) (defScope Q3) [] [] f fd):FnR P w K mg base CX0 4 f (spD K Z0):=
  an3 (k:=3) (ds:=abN) F Z6 rfl rfl (fun _ _ _ _ _ _ us hl=>match us,hl with | [_,_],_=>rfl) fun cdv A outer s H E hr=>⟨_,
 (pss_cons (ps_if (pt_not (pt_val (G4 (k:=3) (E:=E) (ajr (K:=K) T) (hr.mono (by decide)) passN (by rfl) (pa_cons (pv 1) pa_nil))))
 (pss_one ps_never)
 pss_nil)
 (pss_one (ps_ret (pe_callTy aax (by rfl) T.abH boot_tuple (pa_cons (pe_lc (own:=[("at",2),("name",3),("weight",4)]) (g:=_) (tt:=tYes) (by rfl) Z6.nd (Z4 (G4 (k:=1) (E:=E) (aiO (K:=K) T) (hr.mono (by decide)) passN (by rfl) (pa_cons (pv 1) pa_nil))) (blkOk_by (N:=adb) (sc:=defScope Q3) (by decide+kernel)) (fun _ _ _ _ _=>(amN (n:=3) rfl (pgs_cons (pg_name (i:=2) Z6.nd rfl (by first | exact Or.inl rfl | exact Or.inr rfl)) (pgs_cons (pg_name (i:=3) Z6.nd rfl (by first | exact Or.inl rfl | exact Or.inr rfl)) (pgs_cons (pg_name (i:=4) Z6.nd rfl (by first | exact Or.inl rfl | exact Or.inr rfl)) pgs_nil))))) (fun _ _ _ _ _=>pts_nil) (fun _ _ _ _ _=>(W4 (pa_cons (pe_callTy call_int_str (by rfl) T.adp boot_int (pa_cons (pv 2) pa_nil)) (pa_cons (pv 3) (pa_cons (pe_callTy call_int_str (by rfl) T.adp boot_int (pa_cons (pv 4) pa_nil)) pa_nil)))))) pa_nil))))),
 (G3 (P0 (aaV (G9 (G7 (E:=E) aka (d7 (d8 1) j8))))
 adc
 M8)
 (J5 (M9 ab0 (d7 (aaW (Z5 (G7 (E:=E) ajM (d7 (d8 1) j8))) (apU (n:=3) (W8 (Q8 (i:=2) (by simp)) (W8 (Q8 (i:=3) (by simp)) (W8 (Q8 (i:=4) (by simp)) ad9)))) aaX (Z3 (d7 (M9 ai7 (d7 (d8 2) j8)) (d7 (d8 3) (d7 (M9 ai7 (d7 (d8 4) j8)) j8))))) j8))))⟩
theorem ag0 (T:TX P w K mg):∀ c den,MTab.get aaz c=some den→MethF CX0 P w K mg base 4 c "weights_of" den:=fun c den h=>by
  have h:=MTab.mem h
  simp only [aaz,List.mem_cons,Prod.mk.injEq,List.not_mem_nil,or_false] at h
  rcases h with ⟨rfl,rfl⟩
  · exact ((ah6 T.ab3 T.afL (afV (K:=K) T T.agd) ada)).mono (by decide)
theorem aaM (T:TX P w K mg):∀ n,(∀ c den,MTab.get (X7 n) c=some den→MethP CX0 P w K mg base ((n+1) / 2+4) c "split_of" den)∧(∀ c den,MTab.get (U6 n) c=some den→MethP CX0 P w K mg base ((n+1) / 2+4) c "branches_of" den)∧(∀ c den,MTab.get (aaF n) c=some den→MethF CX0 P w K mg base (n / 2+5) c "node" den)
  | 0=>by
    refine ⟨?_,?_,?_⟩
    · intro c den h
      have h:=MTab.mem h
      simp only [X7,j9,List.mem_cons,Prod.mk.injEq,List.not_mem_nil,or_false] at h
      rcases h with ⟨rfl,rfl⟩
      · exact afJ T.ab3 T.adK (amQ (k:=(0+1) / 2+4) T.ad0 abe (fun _ _ _ _ _ _ us hl=>match us,hl with | [_,_,_],_=>rfl)) abu
    · intro c den h
      have h:=MTab.mem h
      simp only [U6,j9,List.mem_cons,Prod.mk.injEq,List.not_mem_nil,or_false] at h
      rcases h with ⟨rfl,rfl⟩
      · exact afJ T.ab3 T.acS (amQ (k:=(0+1) / 2+4) T.acY V5 (fun _ _ _ _ _ _ us hl=>match us,hl with | [_,_],_=>rfl)) abu
    · intro c den h
      have h:=MTab.mem h
      simp only [aaF,j9,List.mem_cons,Prod.mk.injEq,List.not_mem_nil,or_false] at h
      rcases h with ⟨rfl,rfl⟩
      · exact ah6 T.ab3 T.afp (apP (k:=0 / 2+4) T.af7 aao (fun _ _ _ _ _ _ us hl=>match us,hl with | [_],_=>rfl)) abu
  | n+1=>by
    have IH:=aaM T n
    refine ⟨?_,?_,?_⟩
    · intro c den h
      have h:=MTab.mem h
      simp only [X7,j9,List.mem_cons,Prod.mk.injEq,List.not_mem_nil,or_false] at h
      rcases h with ⟨rfl,rfl⟩
      · exact afJ T.ab3 T.adK (an7 (k:=(n+1+1) / 2+4) (ds:=aap (j9 n)) T.ad0 abe rfl rfl (fun _ _ _ _ _ _ us hl=>match us,hl with | [_,_,_],_=>rfl) fun cdv A outer s H E hr=>⟨_,
 (pss_cons (ps_if (PW.pt (pw_or (pt_not (pt_val (G4 (k:=2) (E:=E) (ab7 (K:=K) T) (hr.mono (by omega)) passN (by rfl) (pa_cons (pv 1) pa_nil)))) (pw_or1 (pt_not (pt_val (G4 (k:=2) (E:=E) (ahC (K:=K) T) (hr.mono (by omega)) passN (by rfl) (pa_cons (pv 2) pa_nil)))))))
 (pss_one ps_never)
 pss_nil)
 (pss_cons (ps_set (i:=3) abe.nd rfl (by first | exact Or.inl rfl | exact Or.inr rfl) (aeK (E:=(fun _=>E)) (K:=K) ⟨rfl,rfl,rfl,rfl,rfl⟩ IH.2.2 (hr.mono (by omega)) passN0 (pv 0)))
 (pss_cons (ps_set (i:=4) abe.nd rfl (by first | exact Or.inl rfl | exact Or.inr rfl) (aeK (E:=(fun _=>E)) (K:=K) ⟨rfl,rfl,rfl,rfl,rfl⟩ IH.2.2 (hr.mono (by omega)) passN0 (pv 0)))
 (pss_one (ps_ret (W4 (pa_cons pe_str (pa_cons (G4 (k:=1) (E:=E) (alS (K:=K) T) (hr.mono (by omega)) passN (by rfl) (pa_cons (pv 2) pa_nil)) (pa_cons (pe_callTy call_int_str (by rfl) T.adp boot_int (pa_cons (pv 1) pa_nil)) (pa_cons (pv 3) (pa_cons (pv 4) pa_nil))))))))))),
 (G3 (P0 (aeF (aaV (G9 (G7 (E:=E) acs (d7 (d8 1) j8)))) (aaV (G9 (G7 (E:=E) aic (d7 (d8 2) j8)))))
 adc
 M8)
 (G3 (N8 (acL (adx n) (d8 0) j8))
 (G3 (N8 (acL (adx n) (d8 0) j8))
 (J5 (Z3 (d7 (J9 "split") (d7 (G7 (E:=E) amq (d7 (d8 2) j8)) (d7 (M9 ai7 (d7 (d8 1) j8)) (d7 (d8 3) (d7 (d8 4) j8))))))))))⟩) O7
    · intro c den h
      have h:=MTab.mem h
      simp only [U6,j9,List.mem_cons,Prod.mk.injEq,List.not_mem_nil,or_false] at h
      rcases h with ⟨rfl,rfl⟩
      · exact afJ T.ab3 T.acS (an7 (k:=(n+1+1) / 2+4) (ds:=X6 (j9 n)) T.acY V5 rfl rfl (fun _ _ _ _ _ _ us hl=>match us,hl with | [_,_],_=>rfl) fun cdv A outer s H E hr=>⟨_,
 (pss_cons (ps_if (PW.pt (pw_or (pt_cmpR (R4 (room64 hr)) (pe_callB R5 (by rfl) T.Y9 boot_len (pa_cons (pv 1) pa_nil)) pe_int (nomark _)) (pw_or1 (pt_not (pt_val (pe_callB (cr_all rfl) (by rfl) T.akv boot_all (pa_cons (pe_lc (own:=[("name",2)]) (g:=_) (tt:=tYes) (by rfl) V5.nd (Z4 (pv 1)) (blkOk_by (N:=abv) (sc:=defScope R6) (by decide+kernel)) (fun _ _ _ _ _=>(pg_name (i:=2) V5.nd rfl (by first | exact Or.inl rfl | exact Or.inr rfl))) (fun _ _ _ _ _=>pts_nil) (fun _ _ _ _ _=>(G4 (k:=1) (E:=E0) (afU (K:=K) T) (hr.mono (by omega)) passN (by rfl) (pa_cons (pv 2) pa_nil)))) pa_nil)))))))
 (pss_one ps_never)
 pss_nil)
 (pss_one (ps_ret (pe_callTy aax (by rfl) T.abH boot_tuple (pa_cons (pe_lc (own:=[("name",2)]) (g:=_) (tt:=tYes) (by rfl) V5.nd (Z4 (pv 1)) (blkOk_by (N:=abv) (sc:=defScope R6) (by decide+kernel)) (fun _ _ _ _ _=>(pg_name (i:=2) V5.nd rfl (by first | exact Or.inl rfl | exact Or.inr rfl))) (fun _ _ _ _ _=>pts_nil) (fun _ _ _ _ _=>(W4 (pa_cons (pv 2) (pa_cons (aeK (E:=(fun _=>E0)) (K:=K) ⟨rfl,rfl,rfl,rfl,rfl⟩ IH.2.2 (hr.mono (by omega)) passN0 (pv 0)) pa_nil))))) pa_nil))))),
 (G3 (P0 (aeF (G9 (o8 S9 (M9 V6 (d7 (d8 1) j8)) (o9 0))) (aaV (G9 (M9 ok_all (d7 (aaW (Z5 (d8 1)) (Q8 (i:=2) (by simp)) aaX (G7 (E:=E0) agM (d7 (d8 2) j8))) j8)))))
 adc
 M8)
 (J5 (M9 ab0 (d7 (aaW (Z5 (d8 1)) (Q8 (i:=2) (by simp)) aaX (Z3 (d7 (d8 2) (d7 (acL (adx n) (d8 0) j8) j8)))) j8))))⟩) O7
    · intro c den h
      have h:=MTab.mem h
      simp only [aaF,j9,List.mem_cons,Prod.mk.injEq,List.not_mem_nil,or_false] at h
      rcases h with ⟨rfl,rfl⟩
      · exact ah6 T.ab3 T.afp (apZ (k:=(n+1) / 2+4) (ds:=abw (j9 n)) T.af7 aao rfl rfl (fun _ _ _ _ _ _ us hl=>match us,hl with | [_],_=>rfl) fun cdv A outer s H E hq=>have hr:=hq.room; ⟨_,
 (pss_cons (ps_if (pt_cmpR (R4 (room64 hr)) (aeb (K:=K) ⟨rfl,rfl,rfl,rfl,rfl⟩ (pv 0)) (pe_callB R5 (by rfl) T.Y9 boot_len (pa_cons (aeb (K:=K) ⟨rfl,rfl,rfl,rfl,rfl⟩ (pv 0)) pa_nil)) (nomark _))
 (pss_one ps_never)
 pss_nil)
 (pss_cons (ps_set (i:=1) aao.nd rfl (by first | exact Or.inl rfl | exact Or.inr rfl) (pe_split (pe_ix ix_seq (aeb (K:=K) ⟨rfl,rfl,rfl,rfl,rfl⟩ (pv 0)) (aeb (K:=K) ⟨rfl,rfl,rfl,rfl,rfl⟩ (pv 0)) (fun _ _=>rfl)) pe_str))
 (pss_cons (apS (K:=K) ⟨rfl,rfl,rfl,rfl,rfl⟩ (pv 0) pe_int)
 (pss_cons (aoV (pv 1)
 (an5 (ps:=[.lit "dead"]) rfl (.cons .lit .nil) (pss_one (ps_ret (W4 (pa_cons pe_str pa_nil))))
 (an6 (pats:=[_]) (ps:=[.lit "shut"]) (j:=2) rfl (.cons .lit .nil) ⟨aao.nd,rfl,(by first | exact Or.inl rfl | exact Or.inr rfl),(by first | exact Or.inl rfl | exact Or.inr rfl)⟩ (pss_one (ps_ret (W4 (pa_cons pe_str (pa_cons (aoP (E:=(fun _=>E)) (K:=K) ⟨rfl,rfl,rfl,rfl,rfl⟩ (ag0 (K:=K) T) (hr.mono (by omega)) passN0 (pv 0) (pa_cons (pv 2) pa_nil)) pa_nil)))))
 (an6 (pats:=[_]) (ps:=[.lit "next"]) (j:=3) rfl (.cons .lit .nil) ⟨aao.nd,rfl,(by first | exact Or.inl rfl | exact Or.inr rfl),(by first | exact Or.inl rfl | exact Or.inr rfl)⟩ (pss_one (ps_ret (W4 (pa_cons pe_str (pa_cons (ak2 (E:=(fun _=>E)) (K:=K) ⟨rfl,rfl,rfl,rfl,rfl⟩ IH.2.1 (hq.mono (by omega)) passN0 (pv 0) (pa_cons (pv 3) pa_nil)) pa_nil)))))
 (an5 (ps:=[.lit "split",.cap 4,.cap 5]) rfl (.cons .lit (.cons (.cap ⟨aao.nd,rfl,(by first | exact Or.inl rfl | exact Or.inr rfl),(by first | exact Or.inl rfl | exact Or.inr rfl)⟩) (.cons (.cap ⟨aao.nd,rfl,(by first | exact Or.inl rfl | exact Or.inr rfl),(by first | exact Or.inl rfl | exact Or.inr rfl)⟩) .nil))) (pss_one (ps_ret (ak2 (E:=(fun _=>E)) (K:=K) ⟨rfl,rfl,rfl,rfl,rfl⟩ IH.1 (hq.mono (by omega)) passN0 (pv 0) (pa_cons (pv 4) (pa_cons (pv 5) pa_nil)))))
 apV)))))
 (pss_one ps_never))))),
 (G3 (P0 (G9 (o8 S9 (aea T.aem (d8 0)) (M9 V6 (d7 (aea T.afK (d8 0)) j8))))
 adc
 M8)
 (G3 (N8 (O6 (ach afI (o8 R7 (aea T.afK (d8 0)) (aea T.aem (d8 0))) (J9 " "))))
 (G3 (apT (n:=1) T.aem)
 (G3 (aoW (d8 1)
 (apo (ps:=[.lit "dead"]) (J5 (Z3 (d7 (J9 "dead") j8)))
 (apq (ps:=[.lit "shut"]) (j:=2) (apn (is:=[2]) (J5 (Z3 (d7 (J9 "shut") (d7 (acL ahw (d8 0) (d7 (d8 2) j8)) j8)))))
 (apq (ps:=[.lit "next"]) (j:=3) (apn (is:=[3]) (J5 (Z3 (d7 (J9 "next") (d7 (acL (agN n) (d8 0) (d7 (d8 3) j8)) j8)))))
 (apo (ps:=[.lit "split",.cap 4,.cap 5]) (J5 (acL (aiF n) (d8 0) (d7 (d8 4) (d7 (d8 5) j8))))
 arw)))))
 adc))))⟩) O7
theorem alT (T:TX P w K mg):∀ n,∀ c den,MTab.get (aaF n) c=some den→MethF CX0 P w K mg base (n / 2+5) c "node" den:=fun n=>(aaM T n).2.2
theorem akm (T:TX P w K mg):CallF CX0 P w K mg base 141 "read_paper" ["text"] ac4:=
  Q6 (k:=140) (ds:=aet) T.ald T.ale aez rfl rfl (fun _ _ _ _ _ _ us hl=>match us,hl with | [_],_=>rfl) fun cdv A outer s H E hr=>⟨_,
 (pss_cons (ps_set (i:=1) aez.nd rfl (by first | exact Or.inl rfl | exact Or.inr rfl) (aoQ (E:=(fun _=>E)) (K:=K) ⟨rfl,rfl,rfl,rfl,rfl⟩ (aqH (den:=aaq) T.aoc T.aoX (agZ (K:=K) T T.ahr) ahv) (hr.mono (by decide)) (by rfl) passN0 (pa_cons (pe_split (pv 0) pe_str) pa_nil)))
 (pss_cons (ps_set (i:=2) aez.nd rfl (by first | exact Or.inl rfl | exact Or.inr rfl) (aeK (E:=(fun _=>E)) (K:=K) ⟨rfl,rfl,rfl,rfl,rfl⟩ (alT (K:=K) T 270) (hr.mono (by decide)) passN0 (pv 1)))
 (pss_cons (ps_if (pt_cmpR op_lt (aeb (K:=K) ⟨rfl,rfl,rfl,rfl,rfl⟩ (pv 1)) (pe_callB R5 (by rfl) T.Y9 boot_len (pa_cons (aeb (K:=K) ⟨rfl,rfl,rfl,rfl,rfl⟩ (pv 1)) pa_nil)) (nomark _))
 (pss_one ps_never)
 pss_nil)
 (pss_one (ps_ret (pv 2)))))),
 (G3 (N8 (aoS (d7 (O6 (ach afI (d8 0) (J9 "\n"))) j8)))
 (G3 (N8 (acL (adx 270) (d8 1) j8))
 (G3 (P0 (G9 (o8 (agv fun i j=>decide (i < j)) (aea T.aem (d8 1)) (M9 V6 (d7 (aea T.afK (d8 1)) j8))))
 adc
 M8)
 (J5 (d8 2)))))⟩
theorem aq7 (T:TX P w K mg) {fd:FuncData} (F:FunD K "law" "law" (defArgs adm) (defBody adm) (defScope adm) [] [] (He.ga K "law") fd):FnOk P w K mg base CX0 222 (He.ga K "law") fd ["_law_script"] (spD K akx):=
  apI (k:=221) (ds:=anx) F adB rfl rfl fun cdv A outer s H E hr=>⟨_,
 (pss_cons (ps_set (i:=1) adB.nd rfl (by first | exact Or.inl rfl | exact Or.inr rfl) (pe_lst pa_nil))
 (pss_cons (ps_for PassesOwn.never rfl (pi_range1 (by rfl) T.ack (pa_cons pe_int pa_nil)) (pg_name (i:=2) adB.nd rfl (by first | exact Or.inl rfl | exact Or.inr rfl))
 (pss_cons (ps_set (i:=4) adB.nd rfl (by first | exact Or.inl rfl | exact Or.inr rfl) (G4 (k:=2) (E:=E) (alP (K:=K) T) (hr.mono (by decide)) passN (by rfl) (pa_cons (pv 0) (pa_cons (pv 2) pa_nil))))
 (pss_cons (ps_set (i:=5) adB.nd rfl (by first | exact Or.inl rfl | exact Or.inr rfl) (G4 (k:=4) (E:=E) (aki (K:=K) T) (hr.mono (by decide)) passN (by rfl) (pa_cons (pv 4) (pa_cons pe_int (pa_cons pe_int pa_nil)))))
 (pss_cons (ps_set (i:=3) adB.nd rfl (by first | exact Or.inl rfl | exact Or.inr rfl) (G4 (k:=46) (E:=E) (agX (K:=K) T 40) (hr.mono (by decide)) passN (by rfl) (pa_cons (pv 4) (pa_cons (pv 5) (pa_cons (W4 pa_nil) (pa_cons (pe_lst (pa_cons (G4 (k:=2) (E:=E) (M7 (K:=K) T) (hr.mono (by decide)) passN (by rfl) (pa_cons (pv 4) (pa_cons pe_int pa_nil))) pa_nil)) pa_nil))))))
 (pss_cons (ps_if (pt_cmpR (R4 (room64 hr)) (G4 (k:=2) (E:=E) (M7 (K:=K) T) (hr.mono (by decide)) passN (by rfl) (pa_cons (pv 4) (pa_cons pe_int pa_nil))) pe_int (nomark _))
 (pss_one (ps_set (i:=3) adB.nd rfl (by first | exact Or.inl rfl | exact Or.inr rfl) (G4 (k:=6) (E:=E) (akj (K:=K) T) (hr.mono (by decide)) passN (by rfl) (pa_cons (pv 4) (pa_cons (pv 5) (pa_cons (pv 3) (pa_cons (G4 (k:=2) (E:=E) (M7 (K:=K) T) (hr.mono (by decide)) passN (by rfl) (pa_cons (pv 4) (pa_cons pe_int pa_nil))) pa_nil)))))))
 pss_nil)
 (pss_one (ps_expr (pe_bm PySem.F.plainAttrs_list PySem.F.slot_list_append PySem.F.type_list_append mt_append (pv 1) (pa_cons (pv 3) pa_nil)))))))))
 (pss_cons (ps_for PassesOwn.never rfl (Z4 (pe_lst (pa_cons (pe_ix ix_seq (pv 1) pe_int (fun _ _=>rfl)) (pa_cons (pe_ix ix_seq (pv 1) pe_int (fun _ _=>rfl)) (pa_cons (pe_ix ix_seq (pv 1) pe_int (fun _ _=>rfl)) pa_nil))))) (pg_name (i:=3) adB.nd rfl (by first | exact Or.inl rfl | exact Or.inr rfl))
 (pss_cons (ps_set (i:=6) adB.nd rfl (by first | exact Or.inl rfl | exact Or.inr rfl) (pe_join pe_str (G4 (k:=2) (E:=E) (akk (K:=K) T) (hr.mono (by decide)) passN (by rfl) (pa_cons (pv 3) pa_nil))))
 (pss_cons (ps_set (i:=7) adB.nd rfl (by first | exact Or.inl rfl | exact Or.inr rfl) (G4 (k:=143) (E:=E) (akl (K:=K) T) (hr.mono (by decide)) passN (by rfl) (pa_cons (pv 3) pa_nil)))
 (pss_cons (ps_if (PW.pt (pw_or (pt_not (pt_val (pe_callB call_isi (by rfl) T.U3 boot_isinstance (pa_cons (pv 7) (pa_cons (pe_bltn (v:=.ty "str") (by rfl) T.ahc boot_str rfl) pa_nil))))) (pw_or1 (pt_cmpR (aim (room64 hr)) (pv 7) (pv 6) (nomark _)))))
 (pss_one (ps_ret pe_bl))
 pss_nil)
 (pss_one (ps_if (pt_not (pt_val (G4 (k:=221) (E:=E) (agY (K:=K) T 220) (hr.mono (by decide)) passN (by rfl) (pa_cons (G4 (k:=141) (E:=E) (akm (K:=K) T) (hr.mono (by decide)) passN (by rfl) (pa_cons (pv 6) pa_nil)) (pa_cons (pv 3) pa_nil)))))
 (pss_one (ps_ret pe_bl))
 pss_nil))))))
 (pss_one (ps_ret pe_bl))))),
 (G3 (N8 (aaH j8))
 (G3 (acw (aeJ (d7 (o9 2) j8)) (W6 2)
 (acj (is:=[2,3,4,5]) (G3 (N8 (G7 (E:=E) amm (d7 (d8 0) (d7 (d8 2) j8))))
 (G3 (N8 (O6 (G7 (E:=E) alg (d7 (d8 4) (d7 (o9 1) (d7 (o9 5) j8))))))
 (G3 (N8 (O6 (G7 (E:=E) (adw 40) (d7 (d8 4) (d7 (d8 5) (d7 (Z3 j8) (d7 (aaH (d7 (G7 (E:=E) N5 (d7 (d8 4) (d7 (o9 30) j8))) j8)) j8)))))))
 (G3 (P0 (G9 (o8 S9 (G7 (E:=E) N5 (d7 (d8 4) (d7 (o9 8) j8))) (o9 0)))
 (N8 (O6 (G7 (E:=E) alh (d7 (d8 4) (d7 (d8 5) (d7 (d8 3) (d7 (O6 (G7 (E:=E) N5 (d7 (d8 4) (d7 (o9 101) j8)))) j8)))))))
 M8)
 (abg (ab1 Z8 acx (d7 (d8 3) j8)))))))))
 (G3 (acw (Z5 (aaH (d7 (o8 R7 (d8 1) (o9 0)) (d7 (o8 R7 (d8 1) (o9 1)) (d7 (o8 R7 (d8 1) (o9 0)) j8))))) (W6 3)
 (acj (is:=[3,6,7]) (G3 (N8 (ach aci (J9 "\n") (G7 (E:=E) ali (d7 (d8 3) j8))))
 (G3 (N8 (O6 (G7 (E:=E) alj (d7 (d8 3) j8))))
 (G3 (P0 (aeF (aaV (G9 (M9 abx (d7 (d8 7) (d7 acF j8))))) (G9 (o8 akt (d8 7) (d8 6))))
 (J5 (acf false))
 M8)
 (P0 (aaV (G9 (G7 (E:=E) (ahP 220) (d7 (O6 (G7 (E:=E) alk (d7 (d8 6) j8))) (d7 (d8 3) j8)))))
 (J5 (acf false))
 M8))))))
 (J5 (acf true)))))⟩
end
end Wk
noncomputable section
namespace Wk
open PySem PySem.Spec PyProof.Rows L2 Dn Tn
def abL (a0:List Int) (a1:Int):Option (Int):=PR.o (if (decide (a1 < (a0.length:Int)))=true then (PR.opt (atI a0 a1)) else
 (PR.ok 0))
theorem ajs {XF:XIf} (a0:List Int) (a1:Int):RV (adq [.im (eScr a0),.im (D.int a1)]) (fun v:Int=>(X.im (D.int v))) (fun v:Int=>[.im (eScr a0),.im (D.int a1)]) XF (PR.opt (abL a0 a1)):=by
  unfold abL
  refine T7 (N:=2) (n:=2) (ds:=aeY) (ps:=[.im (eScr a0),.im (D.int a1)]) (ex:=(fun v:Int=>(X.im (D.int v)))) (pe:=(fun v:Int=>[.im (eScr a0),.im (D.int a1)])) ⟨rfl,Nat.le_of_ble_eq_true rfl,rfl⟩ rfl ?_
  exact (O8 (aaO (T9 (S8 (j7 rfl) (abb (pa_cons (j7 rfl) pa_nil) rfl (ao5 a0)) rfl rfl rfl) rfl) (O2 (aas (K7 (j7 rfl) (j7 rfl) (oc rfl rfl (ap6 a0 a1))) (fun _=>rfl)))
 (R3 (S7 rfl rfl))))
def acB (a0:List Int) (a1:Int):Option ((List Int)):=PR.o ((PR.opt (abL a0 a1)).bind fun v1=>
 (if (decide (v1 ≥ 1000000000000000000))=true then (((PR.opt (mulP v1 64)).bind fun v2=>(PR.ok (v2+a1))).bind fun v4=>PR.ok [(v1 - 1000000000000000000),v4,0]) else
 (((PR.opt (mulP v1 64)).bind fun v5=>(PR.ok (v5+a1))).bind fun v7=>PR.ok [0,v7,0])))
theorem ajt {XF:XIf} (a0:List Int) (a1:Int):RV (adt [.im (eScr a0),.im (D.int a1)]) (fun v:(List Int)=>(X.ow (oLst D.int v))) (fun v:(List Int)=>[.im (eScr a0),.im (D.int a1)]) XF (PR.opt (acB a0 a1)):=by
  unfold acB
  refine T7 (N:=3) (n:=2) (ds:=aeZ) (ps:=[.im (eScr a0),.im (D.int a1)]) (ex:=(fun v:(List Int)=>(X.ow (oLst D.int v)))) (pe:=(fun v:(List Int)=>[.im (eScr a0),.im (D.int a1)])) ⟨rfl,Nat.le_of_ble_eq_true rfl,rfl⟩ rfl ?_
  exact (s_asg (E1:=fun (v1:Int)=>[.im (eScr a0),.im (D.int a1),.im (D.int v1)]) (T5 (df:=fun (v:Int)=>(D.int v)) (G8 (pa_cons (j7 rfl) (pa_cons (j7 rfl) pa_nil)) (w6 (ps:=[.im (eScr a0),.im (D.int a1)]) (E1:=fun u=>[.im (eScr a0),.im (D.int a1),.no]) rfl (of_decide_eq_true rfl) (ajs (XF:=XFT) a0 a1) (fun _=>rfl))) (fun _=>rfl)) (fun _=>rfl) fun v1=>(O8 (aaO (T9 (S8 (j7 rfl) (S8 rfl rfl rfl rfl (show pPow (.int 10) (.int 18)=some (X.im (D.int 1000000000000000000)) by simp [pPow])) rfl rfl rfl) rfl) (O2 (s_ret (afO (df:=fun (v:Int)=>[(D.int (v1 - 1000000000000000000)),(D.int v),(D.int 0)]) (U4 (S8 (j7 rfl) (S8 rfl rfl rfl rfl (show pPow (.int 10) (.int 18)=some (X.im (D.int 1000000000000000000)) by simp [pPow])) rfl rfl rfl) (N6 (xf:=fun (v3:Int)=>[(X.im (D.int 0))]) (O9 (K7 (j7 rfl) rfl (oc rfl rfl (aeO v1 64))) (fun v2=>(j7 rfl)) fun v2=>(ocV (ex:=(fun z:Int=>(X.im (D.int z)))) (v:=(v2+a1)) rfl rfl rfl)) (fun v3=>(pa_cons rfl pa_nil)))) (fun _=>rfl) (fun _=>aiI)) (fun _=>rfl)))
 (R3 (s_ret (afO (df:=fun (v:Int)=>[(D.int 0),(D.int v),(D.int 0)]) (U4 rfl (N6 (xf:=fun (v6:Int)=>[(X.im (D.int 0))]) (O9 (K7 (j7 rfl) rfl (oc rfl rfl (aeO v1 64))) (fun v5=>(j7 rfl)) fun v5=>(ocV (ex:=(fun z:Int=>(X.im (D.int z)))) (v:=(v5+a1)) rfl rfl rfl)) (fun v6=>(pa_cons rfl pa_nil)))) (fun _=>rfl) (fun _=>aiI)) (fun _=>rfl))))))
def ac7 (a0:Int) (a1:Int):Option (Int):=PR.o ((((((PR.opt (mulP a0 48271)).bind fun v1=>((PR.opt (mulP a1 69621)).bind fun v2=>(PR.ok (v1+v2)))).bind fun v3=>(PR.ok (v3+11))).bind fun v5=>(PR.ok v5)).bind fun v6=>(PR.opt (modP v6 2147483647))).bind fun v7=>
 ((((((PR.opt (mulP v7 v7)).bind fun v8=>((PR.opt (mulP a1 16807)).bind fun v9=>(PR.ok (v8+v9)))).bind fun v10=>(PR.ok (v10+3))).bind fun v12=>(PR.ok v12)).bind fun v13=>(PR.opt (modP v13 2147483629))).bind fun v14=>
 (((((PR.opt (mulP v14 v14)).bind fun v15=>((PR.opt (mulP v14 40692)).bind fun v16=>(PR.ok (v15+v16)))).bind fun v17=>(PR.ok (v17+7))).bind fun v19=>(PR.ok v19)).bind fun v20=>(PR.opt (modP v20 2147483587)))))
theorem akn {XF:XIf} (a0:Int) (a1:Int):RV (ad4 [.im (D.int a0),.im (D.int a1)]) (fun v:Int=>(X.im (D.int v))) (fun v:Int=>[.im (D.int a0),.im (D.int a1)]) XF (PR.opt (ac7 a0 a1)):=by
  unfold ac7
  refine T7 (N:=4) (n:=2) (ds:=afM) (ps:=[.im (D.int a0),.im (D.int a1)]) (ex:=(fun v:Int=>(X.im (D.int v)))) (pe:=(fun v:Int=>[.im (D.int a0),.im (D.int a1)])) ⟨rfl,Nat.le_of_ble_eq_true rfl,rfl⟩ rfl ?_
  exact (s_asg (E1:=fun (v7:Int)=>[.im (D.int a0),.im (D.int a1),.im (D.int v7),.no]) (O9 (aar (N6 (xf:=fun (v4:Int)=>[]) (O9 (abI (K7 (j7 rfl) rfl (oc rfl rfl (aeO a0 48271))) (fun v1=>(K7 (j7 rfl) rfl (oc rfl rfl (aeO a1 69621)))) fun v1 v2=>(ocV (ex:=(fun z:Int=>(X.im (D.int z)))) (v:=(v1+v2)) rfl rfl rfl)) (fun v3=>rfl) fun v3=>(ocV (ex:=(fun z:Int=>(X.im (D.int z)))) (v:=(v3+11)) rfl rfl rfl)) (fun v4=>pa_nil)) fun v5=>(ccV (ex:=(fun z:Int=>(X.im (D.int z)))) (v:=v5) rfl rfl)) (fun v6=>rfl) fun v6=>(oc rfl rfl (ahh v6 2147483647))) (fun _=>rfl) fun v7=>(s_asg (E1:=fun (v14:Int)=>[.im (D.int a0),.im (D.int a1),.im (D.int v7),.im (D.int v14)]) (O9 (aar (N6 (xf:=fun (v11:Int)=>[]) (O9 (abI (K7 (j7 rfl) (j7 rfl) (oc rfl rfl (aeO v7 v7))) (fun v8=>(K7 (j7 rfl) rfl (oc rfl rfl (aeO a1 16807)))) fun v8 v9=>(ocV (ex:=(fun z:Int=>(X.im (D.int z)))) (v:=(v8+v9)) rfl rfl rfl)) (fun v10=>rfl) fun v10=>(ocV (ex:=(fun z:Int=>(X.im (D.int z)))) (v:=(v10+3)) rfl rfl rfl)) (fun v11=>pa_nil)) fun v12=>(ccV (ex:=(fun z:Int=>(X.im (D.int z)))) (v:=v12) rfl rfl)) (fun v13=>rfl) fun v13=>(oc rfl rfl (ahh v13 2147483629))) (fun _=>rfl) fun v14=>(aas (O9 (aar (N6 (xf:=fun (v18:Int)=>[]) (O9 (abI (K7 (j7 rfl) (j7 rfl) (oc rfl rfl (aeO v14 v14))) (fun v15=>(K7 (j7 rfl) rfl (oc rfl rfl (aeO v14 40692)))) fun v15 v16=>(ocV (ex:=(fun z:Int=>(X.im (D.int z)))) (v:=(v15+v16)) rfl rfl rfl)) (fun v17=>rfl) fun v17=>(ocV (ex:=(fun z:Int=>(X.im (D.int z)))) (v:=(v17+7)) rfl rfl rfl)) (fun v18=>pa_nil)) fun v19=>(ccV (ex:=(fun z:Int=>(X.im (D.int z)))) (v:=v19) rfl rfl)) (fun v20=>rfl) fun v20=>(oc rfl rfl (ahh v20 2147483587))) (fun _=>rfl))))
def J8 (a0:(List Int)) (a1:Int):Option (Int×(List Int)):=PR.o (((PR.opt (atI a0 0)).bind fun v1=>(PR.ok (decide (v1 > 0)))).bind fun v2=>if v2=true then ((((PR.opt (atI a0 0)).bind fun v4=>(PR.ok v4)).bind fun v5=>(PR.opt (modP v5 a1))).bind fun v6=>
 (((PR.opt (atI a0 0)).bind fun v7=>(PR.opt (divP v7 a1))).bind fun v8=>((PR.opt (setP a0 0 v8)).bind fun l9=>(PR.ok (v6,l9))))) else
 (((PR.opt (atI a0 2)).bind fun v10=>(PR.ok (v10+1))).bind fun v11=>((PR.opt (setP a0 2 v11)).bind fun l12=>((((((PR.opt (atI l12 1)).bind fun v13=>((PR.opt (atI l12 2)).bind fun v15=>PR.ok (v13,v15))).bind fun v16=>(PR.opt (ac7 v16.1 v16.2))).bind fun v18=>(PR.ok v18)).bind fun v19=>(PR.opt (modP v19 a1))).bind fun v20=>PR.ok (v20,l12)))))
theorem K6 {XF:XIf} (a0:(List Int)) (a1:Int):RV (K9 [.ow true (oLst D.int a0),.im (D.int a1)]) (fun v:Int×(List Int)=>(X.im (D.int v.1))) (fun v:Int×(List Int)=>[.ow true (oLst D.int v.2),.im (D.int a1)]) XF (PR.opt (J8 a0 a1)):=by
  unfold J8
  refine T7 (N:=3) (n:=2) (ds:=ae0) (ps:=[.ow true (oLst D.int a0),.im (D.int a1)]) (ex:=(fun v:Int×(List Int)=>(X.im (D.int v.1)))) (pe:=(fun v:Int×(List Int)=>[.ow true (oLst D.int v.2),.im (D.int a1)])) ⟨rfl,Nat.le_of_ble_eq_true rfl,rfl⟩ rfl ?_
  exact (O8 (U8 (Q9 (g:=fun (v:Bool)=>v) (O9 (K7 (M6 rfl) rfl (oc rfl rfl (abS D.int a0 0))) (fun v1=>rfl) fun v1=>(ocV (ex:=(fun z:Bool=>(X.im (D.bl z)))) (v:=(decide (v1 > 0))) rfl rfl rfl)) (fun _=>rfl)) (fun v2=>(adi (s_asg (E1:=fun (v6:Int)=>[.ow true (oLst D.int a0),.im (D.int a1),.im (D.int v6)]) (O9 (aar (N6 (xf:=fun (v3:Int)=>[]) (K7 (M6 rfl) rfl (oc rfl rfl (abS D.int a0 0))) (fun v3=>pa_nil)) fun v4=>(ccV (ex:=(fun z:Int=>(X.im (D.int z)))) (v:=v4) rfl rfl)) (fun v5=>(j7 rfl)) fun v5=>(oc rfl rfl (ahh v5 a1))) (fun _=>rfl) fun v6=>(adi (ajj (e:=D.int) (xs:=fun (v8:Int)=>a0) (v:=fun (v8:Int)=>v8) (k:=fun (v8:Int)=>0) (zf:=fun (v8:Int)=>(X.im (D.int 0))) (E1:=fun (v8:Int) l9=>[.ow true (oLst D.int l9),.im (D.int a1),.im (D.int v6)]) rfl (O9 (K7 (M6 rfl) rfl (oc rfl rfl (abS D.int a0 0))) (fun v7=>(j7 rfl)) fun v7=>(oc rfl rfl (arE v7 a1))) (fun (v8:Int)=>rfl) (fun _=>rfl) (fun _=>rfl) (fun _ _=>rfl) fun (v8:Int) l9=>(O2 (S7 (j7 rfl) rfl)))))))
 (fun v2=>(R3 (ajj (e:=D.int) (xs:=fun (v11:Int)=>a0) (v:=fun (v11:Int)=>v11) (k:=fun (v11:Int)=>2) (zf:=fun (v11:Int)=>(X.im (D.int 2))) (E1:=fun (v11:Int) l12=>[.ow true (oLst D.int l12),.im (D.int a1),.no]) rfl (O9 (K7 (M6 rfl) rfl (oc rfl rfl (abS D.int a0 2))) (fun v10=>rfl) fun v10=>(ocV (ex:=(fun z:Int=>(X.im (D.int z)))) (v:=(v10+1)) rfl rfl rfl)) (fun (v11:Int)=>rfl) (fun _=>rfl) (fun _=>rfl) (fun _ _=>rfl) fun (v11:Int) l12=>(s_ret (O9 (aar (N6 (xf:=fun (v17:Int)=>[]) (aaK (ahd (exs:=fun (p:(Int)×(Int))=>[(X.im (D.int p.1)),(X.im (D.int p.2))]) (ees:=fun (p:(Int)×(Int))=>[.ow true (oLst D.int l12),.im (D.int a1),.no]) (pk:=fun v w=>(v,w)) (K7 (M6 rfl) rfl (oc rfl rfl (abS D.int l12 1))) (fun v13=>(N6 (xf:=fun (v14:Int)=>[]) (K7 (M6 rfl) rfl (oc rfl rfl (abS D.int l12 2))) (fun v14=>pa_nil))) (fun _ _=>rfl) (fun _ _=>rfl)) fun v16=>(w6 (ps:=[.im (D.int v16.1),.im (D.int v16.2)]) (E1:=fun u=>[.ow true (oLst D.int l12),.im (D.int a1),.no]) rfl (of_decide_eq_true rfl) (akn (XF:=XFT) v16.1 v16.2) (fun _=>rfl))) (fun v17=>pa_nil)) fun v18=>(ccV (ex:=(fun z:Int=>(X.im (D.int z)))) (v:=v18) rfl rfl)) (fun v19=>(j7 rfl)) fun v19=>(oc rfl rfl (ahh v19 a1))) (fun _=>by exact rfl)))))))
def acC (a0:(List Int)):Option (Str×(List Int)):=PR.o ((PR.opt (J8 a0 4)).bind fun v1=>
 (if (decide (v1.1=0))=true then (((PR.opt (J8 v1.2 26)).bind fun v2=>((PR.opt (ixS ("abcdefghijklmnopqrstuvwxyz":Str) v2.1)).bind fun z3=>PR.ok (z3,v2.2))).bind fun v4=>PR.ok (v4.1,v4.2)) else
 (((PR.opt (J8 v1.2 12)).bind fun v5=>(PR.ok ((1+v5.1),v5.2))).bind fun v6=>
 (if (decide (v1.1=1))=true then (((PR.opt (repSP ("a":Str) (v6.1 - 1))).bind fun v7=>(((PR.opt (J8 v6.2 26)).bind fun v8=>((PR.opt (ixS ("abcdefghijklmnopqrstuvwxyz":Str) v8.1)).bind fun z9=>PR.ok (z9,v8.2))).bind fun v10=>((PR.opt (catS v7 v10.1)).bind fun z11=>PR.ok (z11,v10.2)))).bind fun v12=>PR.ok (v12.1,v12.2)) else
 (if (decide (v1.1=2))=true then ((((PR.opt (J8 v6.2 26)).bind fun v13=>((PR.opt (ixS ("abcdefghijklmnopqrstuvwxyz":Str) v13.1)).bind fun z14=>PR.ok (z14,v13.2))).bind fun v15=>((PR.opt (repSP ("z":Str) (v6.1 - 1))).bind fun v16=>((PR.opt (catS v15.1 v16)).bind fun z17=>PR.ok (z17,v15.2)))).bind fun v18=>PR.ok (v18.1,v18.2)) else
 ((((PR.opt (rg1 v6.1)).bind fun v19=>(PR.opt (lcS (fun (x20:Int) (s23:(List Int))=>(some true)) (fun x20 s23=>(((PR.opt (J8 s23 26)).bind fun v24=>((PR.opt (ixS ("abcdefghijklmnopqrstuvwxyz":Str) v24.1)).bind fun z25=>PR.ok (z25,v24.2))).bind fun v26=>PR.ok (v26.1,v26.2)).o) v19 v6.2 0))).bind fun v27=>((PR.opt (joinP ("":Str) v27.1)).bind fun z28=>PR.ok (z28,v27.2))).bind fun v29=>PR.ok (v29.1,v29.2)))))))
theorem ako {XF:XIf} (a0:(List Int)):RV (adu [.ow true (oLst D.int a0)]) (fun v:Str×(List Int)=>(X.im (D.str v.1))) (fun v:Str×(List Int)=>[.ow true (oLst D.int v.2)]) XF (PR.opt (acC a0)):=by
  unfold acC
  refine T7 (N:=5) (n:=1) (ds:=ae1) (ps:=[.ow true (oLst D.int a0)]) (ex:=(fun v:Str×(List Int)=>(X.im (D.str v.1)))) (pe:=(fun v:Str×(List Int)=>[.ow true (oLst D.int v.2)])) ⟨rfl,Nat.le_of_ble_eq_true rfl,rfl⟩ rfl ?_
  exact (adN (E1:=[.ow true (oLst D.int a0),.im (D.str ("abcdefghijklmnopqrstuvwxyz":Str)),.no,.no,.no]) rfl rfl (s_asg (E1:=fun (v1:Int×(List Int))=>[.ow true (oLst D.int v1.2),.im (D.str ("abcdefghijklmnopqrstuvwxyz":Str)),.im (D.int v1.1),.no,.no]) (T5 (df:=fun (v:Int×(List Int))=>(D.int v.1)) (G8 (pa_cons (M6 rfl) (pa_cons rfl pa_nil)) (w6 (ps:=[.ow true (oLst D.int a0),.im (D.int 4)]) (E1:=fun u:Int×(List Int)=>[.ow true (oLst D.int u.2),.im (D.str ("abcdefghijklmnopqrstuvwxyz":Str)),.no,.no,.no]) rfl (of_decide_eq_true rfl) (K6 (XF:=XFT) a0 4) (fun _=>rfl))) (fun _=>rfl)) (fun _=>rfl) fun v1=>(O8 (aaO (T9 (S8 (j7 rfl) rfl rfl rfl (aab v1.1 0)) rfl) (O2 (s_ret (Y7 (j7 rfl) (G8 (pa_cons (M6 rfl) (pa_cons rfl pa_nil)) (w6 (ps:=[.ow true (oLst D.int v1.2),.im (D.int 26)]) (E1:=fun u:Int×(List Int)=>[.ow true (oLst D.int u.2),.im (D.str ("abcdefghijklmnopqrstuvwxyz":Str)),.im (D.int v1.1),.no,.no]) rfl (of_decide_eq_true rfl) (K6 (XF:=XFT) v1.2 26) (fun _=>rfl))) fun v2=>(wE (E:=fun p:(List Int)=>[.ow true (oLst D.int p),.im (D.str ("abcdefghijklmnopqrstuvwxyz":Str)),.im (D.int v1.1),.no,.no]) (s:=v2.2) (oc rfl rfl (aiK ("abcdefghijklmnopqrstuvwxyz":Str) v2.1)))) (fun _=>by exact rfl)))
 (R3 (s_asg (E1:=fun (v6:Int×(List Int))=>[.ow true (oLst D.int v6.2),.im (D.str ("abcdefghijklmnopqrstuvwxyz":Str)),.im (D.int v1.1),.im (D.int v6.1),.no]) (T5 (df:=fun (v:Int×(List Int))=>(D.int v.1)) (Y7 rfl (G8 (pa_cons (M6 rfl) (pa_cons rfl pa_nil)) (w6 (ps:=[.ow true (oLst D.int v1.2),.im (D.int 12)]) (E1:=fun u:Int×(List Int)=>[.ow true (oLst D.int u.2),.im (D.str ("abcdefghijklmnopqrstuvwxyz":Str)),.im (D.int v1.1),.no,.no]) rfl (of_decide_eq_true rfl) (K6 (XF:=XFT) v1.2 12) (fun _=>rfl))) fun v5=>(ocVE (ex:=fun z:Int×(List Int)=>(X.im (D.int z.1))) (ee:=fun z:Int×(List Int)=>[.ow true (oLst D.int z.2),.im (D.str ("abcdefghijklmnopqrstuvwxyz":Str)),.im (D.int v1.1),.no,.no]) (v:=((1+v5.1),v5.2)) rfl rfl rfl rfl)) (fun _=>rfl)) (fun _=>rfl) fun v6=>(O8 (aaO (T9 (S8 (j7 rfl) rfl rfl rfl (aab v1.1 1)) rfl) (O2 (s_ret (abI (K7 rfl (S8 (j7 rfl) rfl rfl rfl rfl) (oc rfl rfl (aoj ("a":Str) (v6.1 - 1)))) (fun v7=>(Y7 (j7 rfl) (G8 (pa_cons (M6 rfl) (pa_cons rfl pa_nil)) (w6 (ps:=[.ow true (oLst D.int v6.2),.im (D.int 26)]) (E1:=fun u:Int×(List Int)=>[.ow true (oLst D.int u.2),.im (D.str ("abcdefghijklmnopqrstuvwxyz":Str)),.im (D.int v1.1),.im (D.int v6.1),.no]) rfl (of_decide_eq_true rfl) (K6 (XF:=XFT) v6.2 26) (fun _=>rfl))) fun v8=>(wE (E:=fun p:(List Int)=>[.ow true (oLst D.int p),.im (D.str ("abcdefghijklmnopqrstuvwxyz":Str)),.im (D.int v1.1),.im (D.int v6.1),.no]) (s:=v8.2) (oc rfl rfl (aiK ("abcdefghijklmnopqrstuvwxyz":Str) v8.1))))) fun v7 v10=>(wE (E:=fun p:(List Int)=>[.ow true (oLst D.int p),.im (D.str ("abcdefghijklmnopqrstuvwxyz":Str)),.im (D.int v1.1),.im (D.int v6.1),.no]) (s:=v10.2) (oc rfl rfl (aa1 v7 v10.1)))) (fun _=>by exact rfl)))
 (R3 (O8 (aaO (T9 (S8 (j7 rfl) rfl rfl rfl (aab v1.1 2)) rfl) (O2 (s_ret (abI (Y7 (j7 rfl) (G8 (pa_cons (M6 rfl) (pa_cons rfl pa_nil)) (w6 (ps:=[.ow true (oLst D.int v6.2),.im (D.int 26)]) (E1:=fun u:Int×(List Int)=>[.ow true (oLst D.int u.2),.im (D.str ("abcdefghijklmnopqrstuvwxyz":Str)),.im (D.int v1.1),.im (D.int v6.1),.no]) rfl (of_decide_eq_true rfl) (K6 (XF:=XFT) v6.2 26) (fun _=>rfl))) fun v13=>(wE (E:=fun p:(List Int)=>[.ow true (oLst D.int p),.im (D.str ("abcdefghijklmnopqrstuvwxyz":Str)),.im (D.int v1.1),.im (D.int v6.1),.no]) (s:=v13.2) (oc rfl rfl (aiK ("abcdefghijklmnopqrstuvwxyz":Str) v13.1)))) (fun v15=>(K7 rfl (S8 (j7 rfl) rfl rfl rfl rfl) (oc rfl rfl (aoj ("z":Str) (v6.1 - 1))))) fun v15 v16=>(wE (E:=fun p:(List Int)=>[.ow true (oLst D.int p),.im (D.str ("abcdefghijklmnopqrstuvwxyz":Str)),.im (D.int v1.1),.im (D.int v6.1),.no]) (s:=v15.2) (oc rfl rfl (aa1 v15.1 v16)))) (fun _=>by exact rfl)))
 (R3 (s_ret (aed rfl rfl (ac5 (l:=fun (v19:List Int)=>v19.map D.int) (agP (pa_cons (j7 rfl) pa_nil) rfl) fun v19=>(lceS (e:=D.int) (e':=D.str) (ex:=fun y:Str=>(X.im (D.str y))) (B:=fun (s23:(List Int))=>[.ow true (oLst D.int s23),.im (D.str ("abcdefghijklmnopqrstuvwxyz":Str)),.im (D.int v1.1),.im (D.int v6.1),.no]) (E1:=fun (s23:(List Int))=>[.ow true (oLst D.int s23),.im (D.str ("abcdefghijklmnopqrstuvwxyz":Str)),.im (D.int v1.1),.im (D.int v6.1),.no]) (Bx:=fun (x20:Int) (s23:(List Int))=>[.ow true (oLst D.int s23),.im (D.str ("abcdefghijklmnopqrstuvwxyz":Str)),.im (D.int v1.1),.im (D.int v6.1),.im (D.int x20)]) (s0:=v6.2) (XF:=fun _ _=>True) rfl rfl (fun _ _=>rfl) (fun x20 s23=>(X4 (ex:=fun b:Bool=>b) (v:=true) abR rfl)) (fun x20 s23=>(aeu (XI':=fun _ _=>True) (abh (f:=fun (v26:Str×(List Int))=>(v26.1,v26.2)) (ex:=fun v:Str×(List Int)=>(X.im (D.str v.1))) (ee:=fun v:Str×(List Int)=>[.ow true (oLst D.int v.2),.im (D.str ("abcdefghijklmnopqrstuvwxyz":Str)),.im (D.int v1.1),.im (D.int v6.1),.im (D.int x20)]) (Y7 (j7 rfl) (G8 (pa_cons (M6 rfl) (pa_cons rfl pa_nil)) (w6 (ps:=[.ow true (oLst D.int s23),.im (D.int 26)]) (E1:=fun u:Int×(List Int)=>[.ow true (oLst D.int u.2),.im (D.str ("abcdefghijklmnopqrstuvwxyz":Str)),.im (D.int v1.1),.im (D.int v6.1),.im (D.int x20)]) rfl (of_decide_eq_true rfl) (K6 (XF:=XFT) s23 26) (fun _=>rfl))) fun v24=>(wE (E:=fun p:(List Int)=>[.ow true (oLst D.int p),.im (D.str ("abcdefghijklmnopqrstuvwxyz":Str)),.im (D.int v1.1),.im (D.int v6.1),.im (D.int x20)]) (s:=v24.2) (oc rfl rfl (aiK ("abcdefghijklmnopqrstuvwxyz":Str) v24.1)))) (fun _=>rfl) (fun _=>rfl)))) (fun _=>rfl) (fun _ _=>rfl) (fun _=>rfl))) fun v27=>(wE (E:=fun p:(List Int)=>[.ow true (oLst D.int p),.im (D.str ("abcdefghijklmnopqrstuvwxyz":Str)),.im (D.int v1.1),.im (D.int v6.1),.no]) (s:=v27.2) (oc rfl rfl (acT ("":Str) v27.1)))) (fun _=>by exact rfl))))))))))))))
def ab8 (a0:(List Int)) (a1:Int) (a2:Int):Option ((List Str)×(List Int)):=PR.o (((((PR.opt (J8 a0 ((a2 - a1)+1))).bind fun v1=>(PR.ok ((a1+v1.1),v1.2))).bind fun v3=>((PR.opt (rg1 v3.1)).bind fun l4=>PR.ok (l4,v3.2))).bind fun v5=>(foldP (fun (x7:Int) (s6:(List Int)×(List Str))=>((PR.opt (acC s6.1)).bind fun v8=>
 ((if (decide (v8.1∈s6.2))=true then (((PR.opt (lcP (fun (x11:Str)=>(some (!decide (x11∈s6.2)))) (fun x11=>(some x11)) [("a":Str),("b":Str),("c":Str),("d":Str),("e":Str)] 0)).bind fun v12=>(PR.opt (atI v12 0))).bind fun v13=>
 (PR.ok v13)) else
 (PR.ok v8.1)).bind fun s9:Str=>
 ((PR.opt (appP s6.2 s9)).bind fun v14=>(PR.ok (v8.2,v14)))))) v5.1 (v5.2,[]))).bind fun s15:(List Int)×(List Str)=>
 (PR.ok (s15.2,s15.1)))
theorem aif {XF:XIf} (a0:(List Int)) (a1:Int) (a2:Int):RV (acZ [.ow true (oLst D.int a0),.im (D.int a1),.im (D.int a2)]) (fun v:(List Str)×(List Int)=>(X.im (j5 D.str v.1))) (fun v:(List Str)×(List Int)=>[.ow true (oLst D.int v.2),.im (D.int a1),.im (D.int a2)]) XF (PR.opt (ab8 a0 a1 a2)):=by
  unfold ab8
  refine T7 (N:=7) (n:=3) (ds:=aen) (ps:=[.ow true (oLst D.int a0),.im (D.int a1),.im (D.int a2)]) (ex:=(fun v:(List Str)×(List Int)=>(X.im (j5 D.str v.1)))) (pe:=(fun v:(List Str)×(List Int)=>[.ow true (oLst D.int v.2),.im (D.int a1),.im (D.int a2)])) ⟨rfl,Nat.le_of_ble_eq_true rfl,rfl⟩ rfl ?_
  exact (adN (E1:=[.ow true (oLst D.int a0),.im (D.int a1),.im (D.int a2),.ow false (oLst D.str []),.no,.no,.no]) (aeM (ds:=[]) pa_nil rfl aeN) rfl (abi (J:=fun (s15:(List Int)×(List Str))=>[.ow true (oLst D.int s15.1),.im (D.int a1),.im (D.int a2),.ow false (oLst D.str s15.2),.no,.no,.no]) (abJ (ld:=fun (v5:(List Int)×(List Int))=>v5.1.map D.int) (aog (j:=fun (v3:Int×(List Int))=>v3.1) (s:=fun (v3:Int×(List Int))=>v3.2) (E:=fun p:(List Int)=>[.ow true (oLst D.int p),.im (D.int a1),.im (D.int a2),.ow false (oLst D.str []),.no,.no,.no]) (N6 (xf:=fun (v2:Int×(List Int))=>[]) (Y7 (j7 rfl) (G8 (pa_cons (M6 rfl) (pa_cons (afN (S8 (S8 (j7 rfl) (j7 rfl) rfl rfl rfl) rfl rfl rfl rfl) rfl) pa_nil)) (w6 (ps:=[.ow true (oLst D.int a0),.im (D.int ((a2 - a1)+1))]) (E1:=fun u:Int×(List Int)=>[.ow true (oLst D.int u.2),.im (D.int a1),.im (D.int a2),.ow false (oLst D.str []),.no,.no,.no]) rfl (of_decide_eq_true rfl) (K6 (XF:=XFT) a0 ((a2 - a1)+1)) (fun _=>rfl))) fun v1=>(ocVE (ex:=fun z:Int×(List Int)=>(X.im (D.int z.1))) (ee:=fun z:Int×(List Int)=>[.ow true (oLst D.int z.2),.im (D.int a1),.im (D.int a2),.ow false (oLst D.str []),.no,.no,.no]) (v:=((a1+v1.1),v1.2)) rfl rfl rfl rfl)) (fun v2=>pa_nil)) (fun _=>rfl) (fun _=>rfl)) fun v5=>(fore (e:=D.int) (L:=fun (s6:(List Int)×(List Str))=>[.ow true (oLst D.int s6.1),.im (D.int a1),.im (D.int a2),.ow false (oLst D.str s6.2),.no,.no,.no]) (G:=fun (x7:Int) (s6:(List Int)×(List Str))=>[.ow true (oLst D.int s6.1),.im (D.int a1),.im (D.int a2),.ow false (oLst D.str s6.2),.im (D.int x7),.no,.no]) (J:=fun (s15:(List Int)×(List Str))=>[.ow true (oLst D.int s15.1),.im (D.int a1),.im (D.int a2),.ow false (oLst D.str s15.2),.no,.no,.no]) (s0:=(v5.2,[])) rfl (fun _ _=>rfl) (fun x7 s6=>(adk (s_asg (E1:=fun (v8:Str×(List Int))=>[.ow true (oLst D.int v8.2),.im (D.int a1),.im (D.int a2),.ow false (oLst D.str s6.2),.im (D.int x7),.im (D.str v8.1),.no]) (T5 (df:=fun (v:Str×(List Int))=>(D.str v.1)) (G8 (pa_cons (M6 rfl) pa_nil) (w6 (ps:=[.ow true (oLst D.int s6.1)]) (E1:=fun u:Str×(List Int)=>[.ow true (oLst D.int u.2),.im (D.int a1),.im (D.int a2),.ow false (oLst D.str s6.2),.im (D.int x7),.no,.no]) rfl (of_decide_eq_true rfl) (ako (XF:=XFT) s6.1) (fun _=>rfl))) (fun _=>rfl)) (fun _=>rfl) fun v8=>(abi (J:=fun (s9:Str)=>[.ow true (oLst D.int v8.2),.im (D.int a1),.im (D.int a2),.ow false (oLst D.str s6.2),.im (D.int x7),.im (D.str s9),.no]) (aaO (T9 (S8 (j7 rfl) (M6 rfl) rfl rfl (aqU v8.1 s6.2)) rfl) (X8 (s_asg (E1:=fun (v13:Str)=>[.ow true (oLst D.int v8.2),.im (D.int a1),.im (D.int a2),.ow false (oLst D.str s6.2),.im (D.int x7),.im (D.str v13),.no]) (O9 (adM (adL (l:=[("a":Str),("b":Str),("c":Str),("d":Str),("e":Str)].map D.str) (aeM (ds:=[(D.str ("a":Str)),(D.str ("b":Str)),(D.str ("c":Str)),(D.str ("d":Str)),(D.str ("e":Str))]) (pa_cons rfl (pa_cons rfl (pa_cons rfl (pa_cons rfl (pa_cons rfl pa_nil))))) rfl aiJ) rfl) (lce (e:=D.str) (e':=D.str) (B:=[.ow true (oLst D.int v8.2),.im (D.int a1),.im (D.int a2),.ow false (oLst D.str s6.2),.im (D.int x7),.im (D.str v8.1),.no]) (Bx:=fun (x11:Str)=>[.ow true (oLst D.int v8.2),.im (D.int a1),.im (D.int a2),.ow false (oLst D.str s6.2),.im (D.int x7),.im (D.str v8.1),.im (D.str x11)]) (XF:=fun _ _=>True) rfl rfl (fun _=>rfl) (fun x11=>(X4 (ex:=fun b:Bool=>b) (v:=(!decide (x11∈s6.2))) (T9 (S8 (j7 rfl) (M6 rfl) rfl rfl (ap4 x11 s6.2)) rfl) rfl)) (fun x11=>(X4 (ex:=fun y:Str=>(X.im (D.str y))) (v:=x11) (j7 rfl) rfl)) (fun _=>rfl) (fun _=>rfl) rfl)) (fun v12=>rfl) fun v12=>(oc rfl rfl (abS D.str v12 0))) (fun _=>rfl) fun v13=>(s_end rfl)))
 (s_end rfl)) fun s9=>(X8 (s_drop (afr (exd:=(fun z=>.non)) (oo:=(fun z=>(oLst D.str z))) (E1:=fun z=>[.ow true (oLst D.int v8.2),.im (D.int a1),.im (D.int a2),.ow false (oLst D.str z),.im (D.int x7),.im (D.str s9),.no]) rfl rfl (pa_cons (j7 rfl) pa_nil) rfl (adz D.str s6.2 s9) (fun _=>rfl)) fun v14=>(s_end rfl))))))) (fun _=>rfl))) fun s15=>(S7 (abb (pa_cons (M6 rfl) pa_nil) rfl (adR D.str s15.2)) rfl)))
def abl (a0:(List Int)) (a1:Int):Option (Int×(List Int)):=PR.o (if (decide (a1=0))=true then ((PR.opt (J8 a0 4)).bind fun v1=>PR.ok (v1.1,v1.2)) else
 (if (decide (a1=1))=true then ((PR.opt (J8 a0 30)).bind fun v2=>PR.ok (v2.1,v2.2)) else
 ((PR.opt (J8 a0 (1000000000000+1))).bind fun v3=>PR.ok (v3.1,v3.2))))
theorem aeQ {XF:XIf} (a0:(List Int)) (a1:Int):RV (ab4 [.ow true (oLst D.int a0),.im (D.int a1)]) (fun v:Int×(List Int)=>(X.im (D.int v.1))) (fun v:Int×(List Int)=>[.ow true (oLst D.int v.2),.im (D.int a1)]) XF (PR.opt (abl a0 a1)):=by
  unfold abl
  refine T7 (N:=2) (n:=2) (ds:=aeo) (ps:=[.ow true (oLst D.int a0),.im (D.int a1)]) (ex:=(fun v:Int×(List Int)=>(X.im (D.int v.1)))) (pe:=(fun v:Int×(List Int)=>[.ow true (oLst D.int v.2),.im (D.int a1)])) ⟨rfl,Nat.le_of_ble_eq_true rfl,rfl⟩ rfl ?_
  exact (O8 (aaO (T9 (S8 (j7 rfl) rfl rfl rfl (aab a1 0)) rfl) (O2 (s_ret (G8 (pa_cons (M6 rfl) (pa_cons rfl pa_nil)) (w6 (ps:=[.ow true (oLst D.int a0),.im (D.int 4)]) (E1:=fun u:Int×(List Int)=>[.ow true (oLst D.int u.2),.im (D.int a1)]) rfl (of_decide_eq_true rfl) (K6 (XF:=XFT) a0 4) (fun _=>rfl))) (fun _=>by exact rfl)))
 (R3 (O8 (aaO (T9 (S8 (j7 rfl) rfl rfl rfl (aab a1 1)) rfl) (O2 (s_ret (G8 (pa_cons (M6 rfl) (pa_cons rfl pa_nil)) (w6 (ps:=[.ow true (oLst D.int a0),.im (D.int 30)]) (E1:=fun u:Int×(List Int)=>[.ow true (oLst D.int u.2),.im (D.int a1)]) rfl (of_decide_eq_true rfl) (K6 (XF:=XFT) a0 30) (fun _=>rfl))) (fun _=>by exact rfl)))
 (R3 (s_ret (G8 (pa_cons (M6 rfl) (pa_cons (afN (S8 (S8 rfl rfl rfl rfl (show pPow (.int 10) (.int 12)=some (X.im (D.int 1000000000000)) by simp [pPow])) rfl rfl rfl rfl) rfl) pa_nil)) (w6 (ps:=[.ow true (oLst D.int a0),.im (D.int (1000000000000+1))]) (E1:=fun u:Int×(List Int)=>[.ow true (oLst D.int u.2),.im (D.int a1)]) rfl (of_decide_eq_true rfl) (K6 (XF:=XFT) a0 (1000000000000+1)) (fun _=>rfl))) (fun _=>by exact rfl))))))))
def abm (a0:(List Int)) (a1:(List Str)) (a2:(List Str)) (a3:Int):Option ((List (Int×Str×Int))×(List Int)):=PR.o (if (decide ((a2.length:Int)=0))=true then (PR.ok ([],a0)) else
 ((((PR.opt (J8 a0 (a3+1))).bind fun v2=>((PR.opt (rg1 v2.1)).bind fun l3=>PR.ok (l3,v2.2))).bind fun v4=>(foldP (fun (x6:Int) (s5:(List Int)×(List (Int×Str×Int)))=>(((PR.opt (J8 s5.1 (a2.length:Int))).bind fun v7=>(PR.ok ((1+v7.1),v7.2))).bind fun v8=>
 ((PR.opt (lcP (fun (x10:Str)=>(some (!decide (x10∈(Dn.cutD a2 none (some v8.1)))))) (fun x10=>(some x10)) a1 0)).bind fun v11=>
 (((PR.opt (J8 v8.2 (v11.length:Int))).bind fun v12=>((PR.opt (atI v11 v12.1)).bind fun z13=>PR.ok (z13,v12.2))).bind fun v14=>
 ((((PR.opt (J8 v14.2 3)).bind fun v16=>(PR.opt (abl v16.2 v16.1))).bind fun v19=>((PR.opt (appP s5.2 (v8.1,v14.1,v19.1))).bind fun v20=>PR.ok ((),(v19.2,v20)))).bind fun v21=>(PR.ok (v21.2.1,v21.2.2))))))) v4.1 (v4.2,[]))).bind fun s22:(List Int)×(List (Int×Str×Int))=>
 (PR.ok (s22.2,s22.1))))
theorem agf {XF:XIf} (a0:(List Int)) (a1:(List Str)) (a2:(List Str)) (a3:Int):RV (acl [.ow true (oLst D.int a0),.im (j5 D.str a1),.im (j5 D.str a2),.im (D.int a3)]) (fun v:(List (Int×Str×Int))×(List Int)=>(X.ow (oLst (Q7 D.int D.str D.int) v.1))) (fun v:(List (Int×Str×Int))×(List Int)=>[.ow true (oLst D.int v.2),.im (j5 D.str a1),.im (j5 D.str a2),.im (D.int a3)]) XF (PR.opt (abm a0 a1 a2 a3)):=by
  unfold abm
  refine T7 (N:=10) (n:=4) (ds:=adg) (ps:=[.ow true (oLst D.int a0),.im (j5 D.str a1),.im (j5 D.str a2),.im (D.int a3)]) (ex:=(fun v:(List (Int×Str×Int))×(List Int)=>(X.ow (oLst (Q7 D.int D.str D.int) v.1)))) (pe:=(fun v:(List (Int×Str×Int))×(List Int)=>[.ow true (oLst D.int v.2),.im (j5 D.str a1),.im (j5 D.str a2),.im (D.int a3)])) ⟨rfl,Nat.le_of_ble_eq_true rfl,rfl⟩ rfl ?_
  exact (adN (E1:=[.ow true (oLst D.int a0),.im (j5 D.str a1),.im (j5 D.str a2),.im (D.int a3),.ow false (oLst (Q7 D.int D.str D.int) []),.no,.no,.no,.no,.no]) (aeM (ds:=[]) pa_nil rfl aeN) rfl (O8 (aaO (T9 (S8 (abb (pa_cons (j7 rfl) pa_nil) rfl (adP D.str a2)) rfl rfl rfl (aab (a2.length:Int) 0)) rfl) (O2 (S7 (M6 rfl) rfl))
 (R3 (abi (J:=fun (s22:(List Int)×(List (Int×Str×Int)))=>[.ow true (oLst D.int s22.1),.im (j5 D.str a1),.im (j5 D.str a2),.im (D.int a3),.ow false (oLst (Q7 D.int D.str D.int) s22.2),.no,.no,.no,.no,.no]) (abJ (ld:=fun (v4:(List Int)×(List Int))=>v4.1.map D.int) (aog (j:=fun (v2:Int×(List Int))=>v2.1) (s:=fun (v2:Int×(List Int))=>v2.2) (E:=fun p:(List Int)=>[.ow true (oLst D.int p),.im (j5 D.str a1),.im (j5 D.str a2),.im (D.int a3),.ow false (oLst (Q7 D.int D.str D.int) []),.no,.no,.no,.no,.no]) (N6 (xf:=fun (v1:Int×(List Int))=>[]) (G8 (pa_cons (M6 rfl) (pa_cons (afN (S8 (j7 rfl) rfl rfl rfl rfl) rfl) pa_nil)) (w6 (ps:=[.ow true (oLst D.int a0),.im (D.int (a3+1))]) (E1:=fun u:Int×(List Int)=>[.ow true (oLst D.int u.2),.im (j5 D.str a1),.im (j5 D.str a2),.im (D.int a3),.ow false (oLst (Q7 D.int D.str D.int) []),.no,.no,.no,.no,.no]) rfl (of_decide_eq_true rfl) (K6 (XF:=XFT) a0 (a3+1)) (fun _=>rfl))) (fun v1=>pa_nil)) (fun _=>rfl) (fun _=>rfl)) fun v4=>(fore (e:=D.int) (L:=fun (s5:(List Int)×(List (Int×Str×Int)))=>[.ow true (oLst D.int s5.1),.im (j5 D.str a1),.im (j5 D.str a2),.im (D.int a3),.ow false (oLst (Q7 D.int D.str D.int) s5.2),.no,.no,.no,.no,.no]) (G:=fun (x6:Int) (s5:(List Int)×(List (Int×Str×Int)))=>[.ow true (oLst D.int s5.1),.im (j5 D.str a1),.im (j5 D.str a2),.im (D.int a3),.ow false (oLst (Q7 D.int D.str D.int) s5.2),.im (D.int x6),.no,.no,.no,.no]) (J:=fun (s22:(List Int)×(List (Int×Str×Int)))=>[.ow true (oLst D.int s22.1),.im (j5 D.str a1),.im (j5 D.str a2),.im (D.int a3),.ow false (oLst (Q7 D.int D.str D.int) s22.2),.no,.no,.no,.no,.no]) (s0:=(v4.2,[])) rfl (fun _ _=>rfl) (fun x6 s5=>(adk (s_asg (E1:=fun (v8:Int×(List Int))=>[.ow true (oLst D.int v8.2),.im (j5 D.str a1),.im (j5 D.str a2),.im (D.int a3),.ow false (oLst (Q7 D.int D.str D.int) s5.2),.im (D.int x6),.im (D.int v8.1),.no,.no,.no]) (T5 (df:=fun (v:Int×(List Int))=>(D.int v.1)) (Y7 rfl (G8 (pa_cons (M6 rfl) (pa_cons (abb (pa_cons (j7 rfl) pa_nil) rfl (adP D.str a2)) pa_nil)) (w6 (ps:=[.ow true (oLst D.int s5.1),.im (D.int (a2.length:Int))]) (E1:=fun u:Int×(List Int)=>[.ow true (oLst D.int u.2),.im (j5 D.str a1),.im (j5 D.str a2),.im (D.int a3),.ow false (oLst (Q7 D.int D.str D.int) s5.2),.im (D.int x6),.no,.no,.no,.no]) rfl (of_decide_eq_true rfl) (K6 (XF:=XFT) s5.1 (a2.length:Int)) (fun _=>rfl))) fun v7=>(ocVE (ex:=fun z:Int×(List Int)=>(X.im (D.int z.1))) (ee:=fun z:Int×(List Int)=>[.ow true (oLst D.int z.2),.im (j5 D.str a1),.im (j5 D.str a2),.im (D.int a3),.ow false (oLst (Q7 D.int D.str D.int) s5.2),.im (D.int x6),.no,.no,.no,.no]) (v:=((1+v7.1),v7.2)) rfl rfl rfl rfl)) (fun _=>rfl)) (fun _=>rfl) fun v8=>(s_asg (E1:=fun (v11:(List Str))=>[.ow true (oLst D.int v8.2),.im (j5 D.str a1),.im (j5 D.str a2),.im (D.int a3),.ow false (oLst (Q7 D.int D.str D.int) s5.2),.im (D.int x6),.im (D.int v8.1),.im (t7 D.str v11),.no,.no]) (T5 (df:=fun (v:(List Str))=>(t7 D.str v)) (adM (adL (l:=a1.map D.str) (j7 rfl) rfl) (lce (e:=D.str) (e':=D.str) (B:=[.ow true (oLst D.int v8.2),.im (j5 D.str a1),.im (j5 D.str a2),.im (D.int a3),.ow false (oLst (Q7 D.int D.str D.int) s5.2),.im (D.int x6),.im (D.int v8.1),.no,.no,.no]) (Bx:=fun (x10:Str)=>[.ow true (oLst D.int v8.2),.im (j5 D.str a1),.im (j5 D.str a2),.im (D.int a3),.ow false (oLst (Q7 D.int D.str D.int) s5.2),.im (D.int x6),.im (D.int v8.1),.no,.no,.im (D.str x10)]) (XF:=fun _ _=>True) rfl rfl (fun _=>rfl) (fun x10=>(X4 (ex:=fun b:Bool=>b) (v:=(!decide (x10∈(Dn.cutD a2 none (some v8.1))))) (T9 (S8 (j7 rfl) (aky (j7 rfl) aln (agO (j7 rfl) rfl) rfl (anC D.str a2 none (some v8.1))) rfl rfl (amY x10 (Dn.cutD a2 none (some v8.1)))) rfl) rfl)) (fun x10=>(X4 (ex:=fun y:Str=>(X.im (D.str y))) (v:=x10) (j7 rfl) rfl)) (fun _=>rfl) (fun _=>rfl) rfl)) (fun _=>rfl)) (fun _=>rfl) fun v11=>(s_asg (E1:=fun (v14:Str×(List Int))=>[.ow true (oLst D.int v14.2),.im (j5 D.str a1),.im (j5 D.str a2),.im (D.int a3),.ow false (oLst (Q7 D.int D.str D.int) s5.2),.im (D.int x6),.im (D.int v8.1),.im (t7 D.str v11),.im (D.str v14.1),.no]) (Y7 (j7 rfl) (G8 (pa_cons (M6 rfl) (pa_cons (abb (pa_cons (j7 rfl) pa_nil) rfl (adQ D.str v11)) pa_nil)) (w6 (ps:=[.ow true (oLst D.int v8.2),.im (D.int (v11.length:Int))]) (E1:=fun u:Int×(List Int)=>[.ow true (oLst D.int u.2),.im (j5 D.str a1),.im (j5 D.str a2),.im (D.int a3),.ow false (oLst (Q7 D.int D.str D.int) s5.2),.im (D.int x6),.im (D.int v8.1),.im (t7 D.str v11),.no,.no]) rfl (of_decide_eq_true rfl) (K6 (XF:=XFT) v8.2 (v11.length:Int)) (fun _=>rfl))) fun v12=>(wE (E:=fun p:(List Int)=>[.ow true (oLst D.int p),.im (j5 D.str a1),.im (j5 D.str a2),.im (D.int a3),.ow false (oLst (Q7 D.int D.str D.int) s5.2),.im (D.int x6),.im (D.int v8.1),.im (t7 D.str v11),.no,.no]) (s:=v12.2) (oc rfl rfl (abS D.str v11 v12.1)))) (fun _=>rfl) fun v14=>(X8 (s_drop (adh (dsf:=fun (v19:Int×(List Int))=>[(Q7 D.int D.str D.int (v8.1,v14.1,v19.1))]) (pf:=fun _=>false) (of:=fun (v19:Int×(List Int))=>(oLst (Q7 D.int D.str D.int) s5.2)) rfl rfl (N6 (xf:=fun (v18:Int×(List Int))=>[]) (ady (df:=fun (v:Int×(List Int))=>[(D.int v8.1),(D.str v14.1),(D.int v.1)]) (U4 (j7 rfl) (U4 (j7 rfl) (N6 (xf:=fun (v17:Int×(List Int))=>[]) (aaK (U4 (M6 rfl) (N6 (xf:=fun (v15:Int×(List Int))=>[]) (T5 (df:=fun (v:Int×(List Int))=>(D.int v.1)) (G8 (pa_cons (M6 rfl) (pa_cons rfl pa_nil)) (w6 (ps:=[.ow true (oLst D.int v14.2),.im (D.int 3)]) (E1:=fun u:Int×(List Int)=>[.ow true (oLst D.int u.2),.im (j5 D.str a1),.im (j5 D.str a2),.im (D.int a3),.ow false (oLst (Q7 D.int D.str D.int) s5.2),.im (D.int x6),.im (D.int v8.1),.im (t7 D.str v11),.im (D.str v14.1),.no]) rfl (of_decide_eq_true rfl) (K6 (XF:=XFT) v14.2 3) (fun _=>rfl))) (fun _=>rfl)) (fun v15=>pa_nil))) fun v16=>(w6 (ps:=[.ow true (oLst D.int v16.2),.im (D.int v16.1)]) (E1:=fun u:Int×(List Int)=>[.ow true (oLst D.int u.2),.im (j5 D.str a1),.im (j5 D.str a2),.im (D.int a3),.ow false (oLst (Q7 D.int D.str D.int) s5.2),.im (D.int x6),.im (D.int v8.1),.im (t7 D.str v11),.im (D.str v14.1),.no]) rfl (of_decide_eq_true rfl) (aeQ (XF:=XFT) v16.2 v16.1) (fun _=>rfl))) (fun v17=>pa_nil)))) (fun _=>rfl) (fun _=>aiI)) (fun v18=>pa_nil)) (fun _=>rfl) (fun _=>rfl) fun v19=>(abh (f:=fun v20=>((),(v19.2,v20))) (ex:=fun z:Unit×(List Int)×(List (Int×Str×Int))=>(X.im (eU z.1))) (ee:=fun z:Unit×(List Int)×(List (Int×Str×Int))=>[.ow true (oLst D.int z.2.1),.im (j5 D.str a1),.im (j5 D.str a2),.im (D.int a3),.ow false (oLst (Q7 D.int D.str D.int) z.2.2),.im (D.int x6),.im (D.int v8.1),.im (t7 D.str v11),.im (D.str v14.1),.no]) (mc (exd:=(fun z=>.non)) (oo:=(fun z=>(oLst (Q7 D.int D.str D.int) z))) (E1:=fun z=>[.ow true (oLst D.int v19.2),.im (j5 D.str a1),.im (j5 D.str a2),.im (D.int a3),.ow false (oLst (Q7 D.int D.str D.int) z),.im (D.int x6),.im (D.int v8.1),.im (t7 D.str v11),.im (D.str v14.1),.no]) (adz (Q7 D.int D.str D.int) s5.2 (v8.1,v14.1,v19.1)) (fun _=>rfl)) (fun _=>rfl) (fun _=>rfl))) fun v21=>(s_end rfl)))))))) (fun _=>rfl))) fun s22=>(S7 (M6 rfl) rfl))))))
def abd (a0:(List Int)) (a1:(List Str)) (a2:(List Str)):Option (D×(List Int)):=PR.o (((PR.opt (J8 a0 3)).bind fun v1=>(PR.ok ((decide (v1.1=0)),v1.2))).bind fun v2=>if v2.1=true then (PR.ok ((D.tup [(D.str ("dead":Str))]),v2.2)) else
 (((PR.opt (abm v2.2 a1 (Dn.cutD a2 none (some ((a1.length:Int) - 1))) 4)).bind fun v4=>(PR.ok (v4.1,v4.2))).bind fun v6=>PR.ok ((D.tup [(D.str ("shut":Str)),(j5 (Q7 D.int D.str D.int) v6.1)]),v6.2)))
theorem aeR {XF:XIf} (a0:(List Int)) (a1:(List Str)) (a2:(List Str)):RV (acy [.ow true (oLst D.int a0),.im (j5 D.str a1),.im (j5 D.str a2)]) (fun v:D×(List Int)=>(X.im v.1)) (fun v:D×(List Int)=>[.ow true (oLst D.int v.2),.im (j5 D.str a1),.im (j5 D.str a2)]) XF (PR.opt (abd a0 a1 a2)):=by
  unfold abd
  refine T7 (N:=3) (n:=3) (ds:=ae2) (ps:=[.ow true (oLst D.int a0),.im (j5 D.str a1),.im (j5 D.str a2)]) (ex:=(fun v:D×(List Int)=>(X.im v.1))) (pe:=(fun v:D×(List Int)=>[.ow true (oLst D.int v.2),.im (j5 D.str a1),.im (j5 D.str a2)])) ⟨rfl,Nat.le_of_ble_eq_true rfl,rfl⟩ rfl ?_
  exact (O8 (U8 (Q9 (g:=fun (v:Bool×(List Int))=>v.1) (O9 (G8 (pa_cons (M6 rfl) (pa_cons rfl pa_nil)) (w6 (ps:=[.ow true (oLst D.int a0),.im (D.int 3)]) (E1:=fun u:Int×(List Int)=>[.ow true (oLst D.int u.2),.im (j5 D.str a1),.im (j5 D.str a2)]) rfl (of_decide_eq_true rfl) (K6 (XF:=XFT) a0 3) (fun _=>rfl))) (fun v1=>rfl) fun v1=>(ocVE (ex:=fun z:Bool×(List Int)=>(X.im (D.bl z.1))) (ee:=fun z:Bool×(List Int)=>[.ow true (oLst D.int z.2),.im (j5 D.str a1),.im (j5 D.str a2)]) (v:=((decide (v1.1=0)),v1.2)) rfl rfl (aab v1.1 0) rfl)) (fun _=>rfl)) (fun v2=>(O2 (S7 (aeL (ds:=[(D.str ("dead":Str))]) (pa_cons rfl pa_nil) rfl ad5) rfl)))
 (fun v2=>(R3 (s_ret (ady (df:=fun (v:(List (Int×Str×Int))×(List Int))=>[(D.str ("shut":Str)),(j5 (Q7 D.int D.str D.int) v.1)]) (U4 rfl (N6 (xf:=fun (v5:(List (Int×Str×Int))×(List Int))=>[]) (aar (N6 (xf:=fun (v3:(List (Int×Str×Int))×(List Int))=>[]) (G8 (pa_cons (M6 rfl) (pa_cons (j7 rfl) (pa_cons (afN (aky (j7 rfl) aln (agO (S8 (abb (pa_cons (j7 rfl) pa_nil) rfl (adP D.str a1)) rfl rfl rfl rfl) rfl) rfl (anC D.str a2 none (some ((a1.length:Int) - 1)))) rfl) (pa_cons rfl pa_nil)))) (w6 (ps:=[.ow true (oLst D.int v2.2),.im (j5 D.str a1),.im (j5 D.str (Dn.cutD a2 none (some ((a1.length:Int) - 1)))),.im (D.int 4)]) (E1:=fun u:(List (Int×Str×Int))×(List Int)=>[.ow true (oLst D.int u.2),.im (j5 D.str a1),.im (j5 D.str a2)]) rfl (of_decide_eq_true rfl) (agf (XF:=XFT) v2.2 a1 (Dn.cutD a2 none (some ((a1.length:Int) - 1))) 4) (fun _=>rfl))) (fun v3=>pa_nil)) fun v4=>(ccVE (ex:=fun z:(List (Int×Str×Int))×(List Int)=>(X.im (j5 (Q7 D.int D.str D.int) z.1))) (ee:=fun z:(List (Int×Str×Int))×(List Int)=>[.ow true (oLst D.int z.2),.im (j5 D.str a1),.im (j5 D.str a2)]) (v:=(v4.1,v4.2)) rfl (adR (Q7 D.int D.str D.int) v4.1) rfl)) (fun v5=>pa_nil))) (fun _=>rfl) (fun _=>ahg)) (fun _=>by exact rfl))))))
def aaR (a0:(List Int)) (a1:(List Str)) (a2:Int):Option ((List Str)×(List Int)):=PR.o (((PR.opt (rg1 a2)).bind fun v1=>(foldP (fun (x3:Int) (s2:(List Int)×(List Str)×(List Str))=>((PR.opt (J8 s2.1 (s2.2.1.length:Int))).bind fun v4=>
 (((PR.opt (popAtP s2.2.1 v4.1)).bind fun v6=>((PR.opt (appP s2.2.2 v6.1)).bind fun v7=>PR.ok ((),(v6.2,v7)))).bind fun v8=>(PR.ok (v4.2,v8.2.1,v8.2.2))))) v1 (a0,a1,[]))).bind fun s9:(List Int)×(List Str)×(List Str)=>
 (PR.ok (s9.2.2,s9.1)))
theorem ad1 {XF:XIf} (a0:(List Int)) (a1:(List Str)) (a2:Int):RV (aby [.ow true (oLst D.int a0),.im (j5 D.str a1),.im (D.int a2)]) (fun v:(List Str)×(List Int)=>(X.im (j5 D.str v.1))) (fun v:(List Str)×(List Int)=>[.ow true (oLst D.int v.2),.im (j5 D.str a1),.im (D.int a2)]) XF (PR.opt (aaR a0 a1 a2)):=by
  unfold aaR
  refine T7 (N:=7) (n:=3) (ds:=adV) (ps:=[.ow true (oLst D.int a0),.im (j5 D.str a1),.im (D.int a2)]) (ex:=(fun v:(List Str)×(List Int)=>(X.im (j5 D.str v.1)))) (pe:=(fun v:(List Str)×(List Int)=>[.ow true (oLst D.int v.2),.im (j5 D.str a1),.im (D.int a2)])) ⟨rfl,Nat.le_of_ble_eq_true rfl,rfl⟩ rfl ?_
  exact (adN (E1:=[.ow true (oLst D.int a0),.im (j5 D.str a1),.im (D.int a2),.ow false (oLst D.str a1),.no,.no,.no]) (abb (pa_cons (j7 rfl) pa_nil) rfl (aon D.str a1)) rfl (adN (E1:=[.ow true (oLst D.int a0),.im (j5 D.str a1),.im (D.int a2),.ow false (oLst D.str a1),.ow false (oLst D.str []),.no,.no]) (aeM (ds:=[]) pa_nil rfl aeN) rfl (abi (J:=fun (s9:(List Int)×(List Str)×(List Str))=>[.ow true (oLst D.int s9.1),.im (j5 D.str a1),.im (D.int a2),.ow false (oLst D.str s9.2.1),.ow false (oLst D.str s9.2.2),.no,.no]) (abJ (ld:=fun (v1:List Int)=>v1.map D.int) (agP (pa_cons (j7 rfl) pa_nil) rfl) fun v1=>(fore (e:=D.int) (L:=fun (s2:(List Int)×(List Str)×(List Str))=>[.ow true (oLst D.int s2.1),.im (j5 D.str a1),.im (D.int a2),.ow false (oLst D.str s2.2.1),.ow false (oLst D.str s2.2.2),.no,.no]) (G:=fun (x3:Int) (s2:(List Int)×(List Str)×(List Str))=>[.ow true (oLst D.int s2.1),.im (j5 D.str a1),.im (D.int a2),.ow false (oLst D.str s2.2.1),.ow false (oLst D.str s2.2.2),.im (D.int x3),.no]) (J:=fun (s9:(List Int)×(List Str)×(List Str))=>[.ow true (oLst D.int s9.1),.im (j5 D.str a1),.im (D.int a2),.ow false (oLst D.str s9.2.1),.ow false (oLst D.str s9.2.2),.no,.no]) (s0:=(a0,a1,[])) rfl (fun _ _=>rfl) (fun x3 s2=>(adk (s_asg (E1:=fun (v4:Int×(List Int))=>[.ow true (oLst D.int v4.2),.im (j5 D.str a1),.im (D.int a2),.ow false (oLst D.str s2.2.1),.ow false (oLst D.str s2.2.2),.im (D.int x3),.im (D.int v4.1)]) (T5 (df:=fun (v:Int×(List Int))=>(D.int v.1)) (G8 (pa_cons (M6 rfl) (pa_cons (abb (pa_cons (M6 rfl) pa_nil) rfl (adQ D.str s2.2.1)) pa_nil)) (w6 (ps:=[.ow true (oLst D.int s2.1),.im (D.int (s2.2.1.length:Int))]) (E1:=fun u:Int×(List Int)=>[.ow true (oLst D.int u.2),.im (j5 D.str a1),.im (D.int a2),.ow false (oLst D.str s2.2.1),.ow false (oLst D.str s2.2.2),.im (D.int x3),.no]) rfl (of_decide_eq_true rfl) (K6 (XF:=XFT) s2.1 (s2.2.1.length:Int)) (fun _=>rfl))) (fun _=>rfl)) (fun _=>rfl) fun v4=>(X8 (s_drop (adh (dsf:=fun (v6:Str×(List Str))=>[(D.str v6.1)]) (pf:=fun _=>false) (of:=fun (v6:Str×(List Str))=>(oLst D.str s2.2.2)) rfl rfl (N6 (xf:=fun (v5:Str×(List Str))=>[]) (afr (exd:=(fun z=>(D.str z.1))) (oo:=(fun z=>(oLst D.str z.2))) (E1:=fun z=>[.ow true (oLst D.int v4.2),.im (j5 D.str a1),.im (D.int a2),.ow false (oLst D.str z.2),.ow false (oLst D.str s2.2.2),.im (D.int x3),.im (D.int v4.1)]) rfl rfl (pa_cons (j7 rfl) pa_nil) rfl (ap8 D.str s2.2.1 v4.1) (fun _=>rfl)) (fun v5=>pa_nil)) (fun _=>rfl) (fun _=>rfl) fun v6=>(abh (f:=fun v7=>((),(v6.2,v7))) (ex:=fun z:Unit×(List Str)×(List Str)=>(X.im (eU z.1))) (ee:=fun z:Unit×(List Str)×(List Str)=>[.ow true (oLst D.int v4.2),.im (j5 D.str a1),.im (D.int a2),.ow false (oLst D.str z.2.1),.ow false (oLst D.str z.2.2),.im (D.int x3),.im (D.int v4.1)]) (mc (exd:=(fun z=>.non)) (oo:=(fun z=>(oLst D.str z))) (E1:=fun z=>[.ow true (oLst D.int v4.2),.im (j5 D.str a1),.im (D.int a2),.ow false (oLst D.str v6.2),.ow false (oLst D.str z),.im (D.int x3),.im (D.int v4.1)]) (adz D.str s2.2.2 v6.1) (fun _=>rfl)) (fun _=>rfl) (fun _=>rfl))) fun v8=>(s_end rfl)))))) (fun _=>rfl))) fun s9=>(S7 (abb (pa_cons (M6 rfl) pa_nil) rfl (adR D.str s9.2.2)) rfl))))
def aaS (a0:(List Int)) (a1:(List Str)):Option ((List Str)×(List Int)):=PR.o (((PR.opt (J8 a0 ((a1.length:Int)+1))).bind fun v2=>(PR.opt (aaR v2.2 a1 v2.1))).bind fun v3=>PR.ok (v3.1,v3.2))
theorem aeA {XF:XIf} (a0:(List Int)) (a1:(List Str)):RV (abz [.ow true (oLst D.int a0),.im (j5 D.str a1)]) (fun v:(List Str)×(List Int)=>(X.im (j5 D.str v.1))) (fun v:(List Str)×(List Int)=>[.ow true (oLst D.int v.2),.im (j5 D.str a1)]) XF (PR.opt (aaS a0 a1)):=by
  unfold aaS
  refine T7 (N:=2) (n:=2) (ds:=adW) (ps:=[.ow true (oLst D.int a0),.im (j5 D.str a1)]) (ex:=(fun v:(List Str)×(List Int)=>(X.im (j5 D.str v.1)))) (pe:=(fun v:(List Str)×(List Int)=>[.ow true (oLst D.int v.2),.im (j5 D.str a1)])) ⟨rfl,Nat.le_of_ble_eq_true rfl,rfl⟩ rfl ?_
  exact (s_ret (aaK (U4 (M6 rfl) (U4 (j7 rfl) (N6 (xf:=fun (v1:Int×(List Int))=>[]) (T5 (df:=fun (v:Int×(List Int))=>(D.int v.1)) (G8 (pa_cons (M6 rfl) (pa_cons (afN (S8 (abb (pa_cons (j7 rfl) pa_nil) rfl (adP D.str a1)) rfl rfl rfl rfl) rfl) pa_nil)) (w6 (ps:=[.ow true (oLst D.int a0),.im (D.int ((a1.length:Int)+1))]) (E1:=fun u:Int×(List Int)=>[.ow true (oLst D.int u.2),.im (j5 D.str a1)]) rfl (of_decide_eq_true rfl) (K6 (XF:=XFT) a0 ((a1.length:Int)+1)) (fun _=>rfl))) (fun _=>rfl)) (fun v1=>pa_nil)))) fun v2=>(w6 (ps:=[.ow true (oLst D.int v2.2),.im (j5 D.str a1),.im (D.int v2.1)]) (E1:=fun u:(List Str)×(List Int)=>[.ow true (oLst D.int u.2),.im (j5 D.str a1)]) rfl (of_decide_eq_true rfl) (ad1 (XF:=XFT) v2.2 a1 v2.1) (fun _=>rfl))) (fun _=>by exact rfl))
def aac:Nat→(List Int)→(List Str)→(List Str)→(List Int)→Option (D×(List Int)×(List Int))
  | 0,_,_,_,_=>none
  | n+1,a0,a1,a2,a3=>PR.o (((PR.opt (lcP (fun (x2:Str)=>(some (!decide (x2∈a2)))) (fun x2=>(some x2)) a1 0)).bind fun v4=>(PR.ok v4)).bind fun v5=>
 ((PR.opt (J8 a0 4)).bind fun v6=>
 ((((PR.opt (atI a3 0)).bind fun v7=>(PR.ok (decide (v7=0)))).bind fun v8=>(if v8=true then (PR.ok true) else (PR.ok (decide (v6.1=0))))).bind fun v9=>if v9=true then ((PR.opt (abd v6.2 a1 a2)).bind fun v10=>PR.ok (v10.1,(v10.2,a3))) else
 (((PR.opt (atI a3 0)).bind fun v11=>(PR.ok (v11 - 1))).bind fun v12=>((PR.opt (setP a3 0 v12)).bind fun l13=>(if ((decide (v6.1=1)) || (decide ((v5.length:Int)=0)))=true then ((PR.opt (aaS v6.2 a1)).bind fun v14=>
 (((PR.opt (J8 v14.2 3)).bind fun v16=>(PR.opt (abl v16.2 v16.1))).bind fun v17=>
 ((PR.opt (aac n v17.2 a1 a2 l13)).bind fun v18=>
 ((PR.opt (aac n v18.2.1 a1 a2 v18.2.2)).bind fun v20=>PR.ok ((D.tup [(D.str ("split":Str)),(j5 D.str v14.1),(D.int v17.1),v18.1,v20.1]),(v20.2.1,v20.2.2)))))) else
 ((if (decide (v6.1=2))=true then ((((PR.opt (J8 v6.2 (v5.length:Int))).bind fun v22=>(PR.ok ((1+v22.1),v22.2))).bind fun v24=>(PR.opt (aaR v24.2 v5 v24.1))).bind fun v25=>
 (PR.ok (v25.2,v25.1))) else
 (PR.ok (v6.2,v5))).bind fun s21:(List Int)×(List Str)=>
 (((if (decide (v6.1=3))=true then (((PR.opt (J8 s21.1 4)).bind fun v27=>(PR.ok ((decide (v27.1=0)),v27.2))).bind fun v28=>PR.ok (v28.1,v28.2)) else (PR.ok (false,s21.1))).bind fun v29=>if v29.1=true then ((PR.opt (catP s21.2 (Dn.cutD s21.2 none (some 1)))).bind fun v30=>
 (PR.ok (v29.2,v30))) else
 (PR.ok (v29.2,s21.2))).bind fun s26:(List Int)×(List Str)=>
 (((PR.opt (lcS (fun (x32:Str) (s36:(List Int)×(List Int))=>(some true)) (fun x32 s36=>(((PR.opt (catP a2 [x32])).bind fun v38=>(PR.opt (aac n s36.1 a1 v38 s36.2))).bind fun v40=>PR.ok ((x32,v40.1),(v40.2.1,v40.2.2))).o) s26.2 (s26.1,l13) 0)).bind fun v42=>(PR.ok (v42.1,(v42.2.1,v42.2.2)))).bind fun v44=>PR.ok ((D.tup [(D.str ("next":Str)),(j5 (ePr D.str eD) v44.1)]),(v44.2.1,v44.2.2)))))))))))
theorem aeB {XF:XIf}:∀ (n:Nat) (a0:(List Int)) (a1:(List Str)) (a2:(List Str)) (a3:(List Int)),RV (aa9 n [.ow true (oLst D.int a0),.im (j5 D.str a1),.im (j5 D.str a2),.ow true (oLst D.int a3)]) (fun v:D×(List Int)×(List Int)=>(X.im v.1)) (fun v:D×(List Int)×(List Int)=>[.ow true (oLst D.int v.2.1),.im (j5 D.str a1),.im (j5 D.str a2),.ow true (oLst D.int v.2.2)]) XF (PR.opt (aac n a0 a1 a2 a3))
  | 0,_,_,_,_=>trivial
  | n+1,a0,a1,a2,a3=>by
    have IH:=fun {XF:XIf}=>aeB (XF:=XF) n
    refine T7 (N:=10) (n:=4) (ds:=ae3 (aa9 n)) (ps:=[.ow true (oLst D.int a0),.im (j5 D.str a1),.im (j5 D.str a2),.ow true (oLst D.int a3)]) (ex:=(fun v:D×(List Int)×(List Int)=>(X.im v.1))) (pe:=(fun v:D×(List Int)×(List Int)=>[.ow true (oLst D.int v.2.1),.im (j5 D.str a1),.im (j5 D.str a2),.ow true (oLst D.int v.2.2)])) ⟨rfl,Nat.le_of_ble_eq_true rfl,rfl⟩ rfl ?_
    exact (s_asg (E1:=fun (v5:(List Str))=>[.ow true (oLst D.int a0),.im (j5 D.str a1),.im (j5 D.str a2),.ow true (oLst D.int a3),.im (j5 D.str v5),.no,.no,.no,.no,.no]) (aar (N6 (xf:=fun (v3:(List Str))=>[]) (adM (adL (l:=a1.map D.str) (j7 rfl) rfl) (lce (e:=D.str) (e':=D.str) (B:=[.ow true (oLst D.int a0),.im (j5 D.str a1),.im (j5 D.str a2),.ow true (oLst D.int a3),.no,.no,.no,.no,.no,.no]) (Bx:=fun (x2:Str)=>[.ow true (oLst D.int a0),.im (j5 D.str a1),.im (j5 D.str a2),.ow true (oLst D.int a3),.no,.no,.no,.no,.no,.im (D.str x2)]) (XF:=fun _ _=>True) rfl rfl (fun _=>rfl) (fun x2=>(X4 (ex:=fun b:Bool=>b) (v:=(!decide (x2∈a2))) (T9 (S8 (j7 rfl) (j7 rfl) rfl rfl (amY x2 a2)) rfl) rfl)) (fun x2=>(X4 (ex:=fun y:Str=>(X.im (D.str y))) (v:=x2) (j7 rfl) rfl)) (fun _=>rfl) (fun _=>rfl) rfl)) (fun v3=>pa_nil)) fun v4=>(ccV (ex:=(fun z:(List Str)=>(X.im (j5 D.str z)))) (v:=v4) rfl (adR D.str v4))) (fun _=>rfl) fun v5=>(s_asg (E1:=fun (v6:Int×(List Int))=>[.ow true (oLst D.int v6.2),.im (j5 D.str a1),.im (j5 D.str a2),.ow true (oLst D.int a3),.im (j5 D.str v5),.im (D.int v6.1),.no,.no,.no,.no]) (T5 (df:=fun (v:Int×(List Int))=>(D.int v.1)) (G8 (pa_cons (M6 rfl) (pa_cons rfl pa_nil)) (w6 (ps:=[.ow true (oLst D.int a0),.im (D.int 4)]) (E1:=fun u:Int×(List Int)=>[.ow true (oLst D.int u.2),.im (j5 D.str a1),.im (j5 D.str a2),.ow true (oLst D.int a3),.im (j5 D.str v5),.no,.no,.no,.no,.no]) rfl (of_decide_eq_true rfl) (K6 (XF:=XFT) a0 4) (fun _=>rfl))) (fun _=>rfl)) (fun _=>rfl) fun v6=>(O8 (U8 (afq (Q9 (g:=fun (v:Bool)=>v) (O9 (K7 (M6 rfl) rfl (oc rfl rfl (abS D.int a3 0))) (fun v7=>rfl) fun v7=>(ocV (ex:=(fun z:Bool=>(X.im (D.bl z)))) (v:=(decide (v7=0))) rfl rfl (aab v7 0))) (fun _=>rfl)) (fun v8=>(rv_eq (T9 (S8 (j7 rfl) rfl rfl rfl (aab v6.1 0)) rfl) (anz (ex:=fun v:Bool=>v) (ee:=fun _=>[.ow true (oLst D.int v6.2),.im (j5 D.str a1),.im (j5 D.str a2),.ow true (oLst D.int a3),.im (j5 D.str v5),.im (D.int v6.1),.no,.no,.no,.no]) (v:=(decide (v6.1=0))) rfl rfl))) (fun _=>rfl)) (fun v9=>(O2 (s_ret (G8 (pa_cons (M6 rfl) (pa_cons (j7 rfl) (pa_cons (j7 rfl) pa_nil))) (w6 (ps:=[.ow true (oLst D.int v6.2),.im (j5 D.str a1),.im (j5 D.str a2)]) (E1:=fun u:D×(List Int)=>[.ow true (oLst D.int u.2),.im (j5 D.str a1),.im (j5 D.str a2),.ow true (oLst D.int a3),.im (j5 D.str v5),.im (D.int v6.1),.no,.no,.no,.no]) rfl (of_decide_eq_true rfl) (aeR (XF:=XFT) v6.2 a1 a2) (fun _=>rfl))) (fun _=>by exact rfl))))
 (fun v9=>(R3 (ajj (e:=D.int) (xs:=fun (v12:Int)=>a3) (v:=fun (v12:Int)=>v12) (k:=fun (v12:Int)=>0) (zf:=fun (v12:Int)=>(X.im (D.int 0))) (E1:=fun (v12:Int) l13=>[.ow true (oLst D.int v6.2),.im (j5 D.str a1),.im (j5 D.str a2),.ow true (oLst D.int l13),.im (j5 D.str v5),.im (D.int v6.1),.no,.no,.no,.no]) rfl (O9 (K7 (M6 rfl) rfl (oc rfl rfl (abS D.int a3 0))) (fun v11=>rfl) fun v11=>(ocV (ex:=(fun z:Int=>(X.im (D.int z)))) (v:=(v11 - 1)) rfl rfl rfl)) (fun (v12:Int)=>rfl) (fun _=>rfl) (fun _=>rfl) (fun _ _=>rfl) fun (v12:Int) l13=>(O8 (aaO (arB (T9 (S8 (j7 rfl) rfl rfl rfl (aab v6.1 1)) rfl) (T9 (S8 (abb (pa_cons (j7 rfl) pa_nil) rfl (adP D.str v5)) rfl rfl rfl (aab (v5.length:Int) 0)) rfl)) (adi (s_asg (E1:=fun (v14:(List Str)×(List Int))=>[.ow true (oLst D.int v14.2),.im (j5 D.str a1),.im (j5 D.str a2),.ow true (oLst D.int l13),.im (j5 D.str v5),.im (D.int v6.1),.im (j5 D.str v14.1),.no,.no,.no]) (T5 (df:=fun (v:(List Str)×(List Int))=>(j5 D.str v.1)) (G8 (pa_cons (M6 rfl) (pa_cons (j7 rfl) pa_nil)) (w6 (ps:=[.ow true (oLst D.int v6.2),.im (j5 D.str a1)]) (E1:=fun u:(List Str)×(List Int)=>[.ow true (oLst D.int u.2),.im (j5 D.str a1),.im (j5 D.str a2),.ow true (oLst D.int l13),.im (j5 D.str v5),.im (D.int v6.1),.no,.no,.no,.no]) rfl (of_decide_eq_true rfl) (aeA (XF:=XFT) v6.2 a1) (fun _=>rfl))) (fun _=>rfl)) (fun _=>rfl) fun v14=>(adi (s_asg (E1:=fun (v17:Int×(List Int))=>[.ow true (oLst D.int v17.2),.im (j5 D.str a1),.im (j5 D.str a2),.ow true (oLst D.int l13),.im (j5 D.str v5),.im (D.int v6.1),.im (j5 D.str v14.1),.im (D.int v17.1),.no,.no]) (T5 (df:=fun (v:Int×(List Int))=>(D.int v.1)) (aaK (U4 (M6 rfl) (N6 (xf:=fun (v15:Int×(List Int))=>[]) (T5 (df:=fun (v:Int×(List Int))=>(D.int v.1)) (G8 (pa_cons (M6 rfl) (pa_cons rfl pa_nil)) (w6 (ps:=[.ow true (oLst D.int v14.2),.im (D.int 3)]) (E1:=fun u:Int×(List Int)=>[.ow true (oLst D.int u.2),.im (j5 D.str a1),.im (j5 D.str a2),.ow true (oLst D.int l13),.im (j5 D.str v5),.im (D.int v6.1),.im (j5 D.str v14.1),.no,.no,.no]) rfl (of_decide_eq_true rfl) (K6 (XF:=XFT) v14.2 3) (fun _=>rfl))) (fun _=>rfl)) (fun v15=>pa_nil))) fun v16=>(w6 (ps:=[.ow true (oLst D.int v16.2),.im (D.int v16.1)]) (E1:=fun u:Int×(List Int)=>[.ow true (oLst D.int u.2),.im (j5 D.str a1),.im (j5 D.str a2),.ow true (oLst D.int l13),.im (j5 D.str v5),.im (D.int v6.1),.im (j5 D.str v14.1),.no,.no,.no]) rfl (of_decide_eq_true rfl) (aeQ (XF:=XFT) v16.2 v16.1) (fun _=>rfl))) (fun _=>rfl)) (fun _=>rfl) fun v17=>(adi (s_asg (E1:=fun (v18:D×(List Int)×(List Int))=>[.ow true (oLst D.int v18.2.1),.im (j5 D.str a1),.im (j5 D.str a2),.ow true (oLst D.int v18.2.2),.im (j5 D.str v5),.im (D.int v6.1),.im (j5 D.str v14.1),.im (D.int v17.1),.im v18.1,.no]) (T5 (df:=fun (v:D×(List Int)×(List Int))=>v.1) (G8 (pa_cons (M6 rfl) (pa_cons (j7 rfl) (pa_cons (j7 rfl) (pa_cons (M6 rfl) pa_nil)))) (w6 (ps:=[.ow true (oLst D.int v17.2),.im (j5 D.str a1),.im (j5 D.str a2),.ow true (oLst D.int l13)]) (E1:=fun u:D×(List Int)×(List Int)=>[.ow true (oLst D.int u.2.1),.im (j5 D.str a1),.im (j5 D.str a2),.ow true (oLst D.int u.2.2),.im (j5 D.str v5),.im (D.int v6.1),.im (j5 D.str v14.1),.im (D.int v17.1),.no,.no]) rfl (of_decide_eq_true rfl) (IH (XF:=XFT) v17.2 a1 a2 l13) (fun _=>rfl))) (fun _=>rfl)) (fun _=>rfl) fun v18=>(O2 (s_ret (ady (df:=fun (v:D×(List Int)×(List Int))=>[(D.str ("split":Str)),(j5 D.str v14.1),(D.int v17.1),v18.1,v.1]) (U4 rfl (U4 (j7 rfl) (U4 (j7 rfl) (U4 (j7 rfl) (N6 (xf:=fun (v19:D×(List Int)×(List Int))=>[]) (G8 (pa_cons (M6 rfl) (pa_cons (j7 rfl) (pa_cons (j7 rfl) (pa_cons (M6 rfl) pa_nil)))) (w6 (ps:=[.ow true (oLst D.int v18.2.1),.im (j5 D.str a1),.im (j5 D.str a2),.ow true (oLst D.int v18.2.2)]) (E1:=fun u:D×(List Int)×(List Int)=>[.ow true (oLst D.int u.2.1),.im (j5 D.str a1),.im (j5 D.str a2),.ow true (oLst D.int u.2.2),.im (j5 D.str v5),.im (D.int v6.1),.im (j5 D.str v14.1),.im (D.int v17.1),.im v18.1,.no]) rfl (of_decide_eq_true rfl) (IH (XF:=XFT) v18.2.1 a1 a2 v18.2.2) (fun _=>rfl))) (fun v19=>pa_nil)))))) (fun _=>rfl) (fun _=>aiJ)) (fun _=>by exact rfl)))))))))
 (R3 (abi (J:=fun (s21:(List Int)×(List Str))=>[.ow true (oLst D.int s21.1),.im (j5 D.str a1),.im (j5 D.str a2),.ow true (oLst D.int l13),.im (j5 D.str s21.2),.im (D.int v6.1),.no,.no,.no,.no]) (aaO (T9 (S8 (j7 rfl) rfl rfl rfl (aab v6.1 2)) rfl) (X8 (s_asg (E1:=fun (v25:(List Str)×(List Int))=>[.ow true (oLst D.int v25.2),.im (j5 D.str a1),.im (j5 D.str a2),.ow true (oLst D.int l13),.im (j5 D.str v25.1),.im (D.int v6.1),.no,.no,.no,.no]) (T5 (df:=fun (v:(List Str)×(List Int))=>(j5 D.str v.1)) (aaK (U4 (M6 rfl) (U4 (j7 rfl) (N6 (xf:=fun (v23:Int×(List Int))=>[]) (T5 (df:=fun (v:Int×(List Int))=>(D.int v.1)) (Y7 rfl (G8 (pa_cons (M6 rfl) (pa_cons (abb (pa_cons (j7 rfl) pa_nil) rfl (adP D.str v5)) pa_nil)) (w6 (ps:=[.ow true (oLst D.int v6.2),.im (D.int (v5.length:Int))]) (E1:=fun u:Int×(List Int)=>[.ow true (oLst D.int u.2),.im (j5 D.str a1),.im (j5 D.str a2),.ow true (oLst D.int l13),.im (j5 D.str v5),.im (D.int v6.1),.no,.no,.no,.no]) rfl (of_decide_eq_true rfl) (K6 (XF:=XFT) v6.2 (v5.length:Int)) (fun _=>rfl))) fun v22=>(ocVE (ex:=fun z:Int×(List Int)=>(X.im (D.int z.1))) (ee:=fun z:Int×(List Int)=>[.ow true (oLst D.int z.2),.im (j5 D.str a1),.im (j5 D.str a2),.ow true (oLst D.int l13),.im (j5 D.str v5),.im (D.int v6.1),.no,.no,.no,.no]) (v:=((1+v22.1),v22.2)) rfl rfl rfl rfl)) (fun _=>rfl)) (fun v23=>pa_nil)))) fun v24=>(w6 (ps:=[.ow true (oLst D.int v24.2),.im (j5 D.str v5),.im (D.int v24.1)]) (E1:=fun u:(List Str)×(List Int)=>[.ow true (oLst D.int u.2),.im (j5 D.str a1),.im (j5 D.str a2),.ow true (oLst D.int l13),.im (j5 D.str v5),.im (D.int v6.1),.no,.no,.no,.no]) rfl (of_decide_eq_true rfl) (ad1 (XF:=XFT) v24.2 v5 v24.1) (fun _=>rfl))) (fun _=>rfl)) (fun _=>rfl) fun v25=>(s_end rfl)))
 (s_end rfl)) fun s21=>(abi (J:=fun (s26:(List Int)×(List Str))=>[.ow true (oLst D.int s26.1),.im (j5 D.str a1),.im (j5 D.str a2),.ow true (oLst D.int l13),.im (j5 D.str s26.2),.im (D.int v6.1),.no,.no,.no,.no]) (U8 (ao1 (T9 (S8 (j7 rfl) rfl rfl rfl (aab v6.1 3)) rfl) (abh (f:=fun (v28:Bool×(List Int))=>(v28.1,v28.2)) (ex:=fun v:Bool×(List Int)=>v.1) (ee:=fun v:Bool×(List Int)=>[.ow true (oLst D.int v.2),.im (j5 D.str a1),.im (j5 D.str a2),.ow true (oLst D.int l13),.im (j5 D.str s21.2),.im (D.int v6.1),.no,.no,.no,.no]) (Q9 (g:=fun (v:Bool×(List Int))=>v.1) (O9 (G8 (pa_cons (M6 rfl) (pa_cons rfl pa_nil)) (w6 (ps:=[.ow true (oLst D.int s21.1),.im (D.int 4)]) (E1:=fun u:Int×(List Int)=>[.ow true (oLst D.int u.2),.im (j5 D.str a1),.im (j5 D.str a2),.ow true (oLst D.int l13),.im (j5 D.str s21.2),.im (D.int v6.1),.no,.no,.no,.no]) rfl (of_decide_eq_true rfl) (K6 (XF:=XFT) s21.1 4) (fun _=>rfl))) (fun v27=>rfl) fun v27=>(ocVE (ex:=fun z:Bool×(List Int)=>(X.im (D.bl z.1))) (ee:=fun z:Bool×(List Int)=>[.ow true (oLst D.int z.2),.im (j5 D.str a1),.im (j5 D.str a2),.ow true (oLst D.int l13),.im (j5 D.str s21.2),.im (D.int v6.1),.no,.no,.no,.no]) (v:=((decide (v27.1=0)),v27.2)) rfl rfl (aab v27.1 0) rfl)) (fun _=>rfl)) (fun _=>rfl) (fun _=>rfl)) rfl) (fun v29=>(X8 (s_asg (E1:=fun (v30:(List Str))=>[.ow true (oLst D.int v29.2),.im (j5 D.str a1),.im (j5 D.str a2),.ow true (oLst D.int l13),.im (j5 D.str v30),.im (D.int v6.1),.no,.no,.no,.no]) (T5 (df:=fun (v:(List Str))=>(j5 D.str v)) (K7 (j7 rfl) (aky (j7 rfl) aln (agO rfl rfl) rfl (anC D.str s21.2 none (some 1))) (oc rfl rfl (aok D.str s21.2 (Dn.cutD s21.2 none (some 1))))) (fun _=>rfl)) (fun _=>rfl) fun v30=>(s_end rfl))))
 (fun v29=>(s_end rfl))) fun s26=>(s_ret (ady (df:=fun (v:(List (Str×D))×(List Int)×(List Int))=>[(D.str ("next":Str)),(j5 (ePr D.str eD) v.1)]) (U4 rfl (N6 (xf:=fun (v43:(List (Str×D))×(List Int)×(List Int))=>[]) (aar (N6 (xf:=fun (v41:(List (Str×D))×(List Int)×(List Int))=>[]) (adM (adL (l:=s26.2.map D.str) (j7 rfl) rfl) (lceS (e:=D.str) (e':=(ePr D.str eD)) (ex:=fun y:(Str×D)=>(X.im (ePr D.str eD y))) (B:=fun (s36:(List Int)×(List Int))=>[.ow true (oLst D.int s36.1),.im (j5 D.str a1),.im (j5 D.str a2),.ow true (oLst D.int s36.2),.im (j5 D.str s26.2),.im (D.int v6.1),.no,.no,.no,.no]) (E1:=fun (s36:(List Int)×(List Int))=>[.ow true (oLst D.int s36.1),.im (j5 D.str a1),.im (j5 D.str a2),.ow true (oLst D.int s36.2),.im (j5 D.str s26.2),.im (D.int v6.1),.no,.no,.no,.no]) (Bx:=fun (x32:Str) (s36:(List Int)×(List Int))=>[.ow true (oLst D.int s36.1),.im (j5 D.str a1),.im (j5 D.str a2),.ow true (oLst D.int s36.2),.im (j5 D.str s26.2),.im (D.int v6.1),.no,.no,.no,.im (D.str x32)]) (s0:=(s26.1,l13)) (XF:=fun _ _=>True) rfl rfl (fun _ _=>rfl) (fun x32 s36=>(X4 (ex:=fun b:Bool=>b) (v:=true) abR rfl)) (fun x32 s36=>(aeu (XI':=fun _ _=>True) (abh (f:=fun (v40:D×(List Int)×(List Int))=>((x32,v40.1),(v40.2.1,v40.2.2))) (ex:=fun v:(Str×D)×(List Int)×(List Int)=>(X.im (ePr D.str eD v.1))) (ee:=fun v:(Str×D)×(List Int)×(List Int)=>[.ow true (oLst D.int v.2.1),.im (j5 D.str a1),.im (j5 D.str a2),.ow true (oLst D.int v.2.2),.im (j5 D.str s26.2),.im (D.int v6.1),.no,.no,.no,.im (D.str x32)]) (ady (df:=fun (v:D×(List Int)×(List Int))=>[(D.str x32),v.1]) (U4 (j7 rfl) (N6 (xf:=fun (v39:D×(List Int)×(List Int))=>[]) (aaK (U4 (M6 rfl) (U4 (j7 rfl) (N6 (xf:=fun (v37:(List Str))=>[(X.sl 3)]) (T5 (df:=fun (v:(List Str))=>(j5 D.str v)) (K7 (j7 rfl) (aeL (ds:=[(D.str x32)]) (pa_cons (j7 rfl) pa_nil) rfl ad5) (oc rfl rfl (aok D.str a2 [x32]))) (fun _=>rfl)) (fun v37=>(pa_cons (M6 rfl) pa_nil))))) fun v38=>(w6 (ps:=[.ow true (oLst D.int s36.1),.im (j5 D.str a1),.im (j5 D.str v38),.ow true (oLst D.int s36.2)]) (E1:=fun u:D×(List Int)×(List Int)=>[.ow true (oLst D.int u.2.1),.im (j5 D.str a1),.im (j5 D.str a2),.ow true (oLst D.int u.2.2),.im (j5 D.str s26.2),.im (D.int v6.1),.no,.no,.no,.im (D.str x32)]) rfl (of_decide_eq_true rfl) (IH (XF:=XFT) s36.1 a1 v38 s36.2) (fun _=>rfl))) (fun v39=>pa_nil))) (fun _=>rfl) (fun _=>ahg)) (fun _=>rfl) (fun _=>rfl)))) (fun _=>rfl) (fun _ _=>rfl) (fun _=>rfl))) (fun v41=>pa_nil)) fun v42=>(ccVE (ex:=fun z:(List (Str×D))×(List Int)×(List Int)=>(X.im (j5 (ePr D.str eD) z.1))) (ee:=fun z:(List (Str×D))×(List Int)×(List Int)=>[.ow true (oLst D.int z.2.1),.im (j5 D.str a1),.im (j5 D.str a2),.ow true (oLst D.int z.2.2),.im (j5 D.str s26.2),.im (D.int v6.1),.no,.no,.no,.no]) (v:=(v42.1,(v42.2.1,v42.2.2))) rfl (adR (ePr D.str eD) v42.1) rfl)) (fun v43=>pa_nil))) (fun _=>rfl) (fun _=>ahg)) (fun _=>by exact rfl))))))))))))))
def ab9 (a0:(List Int)) (a1:(List Str)) (a2:D) (a3:Int):Option (D×(List Int)):=PR.o (((PR.opt (rg1 a3)).bind fun v1=>(foldP (fun (x3:Int) (s2:(List Int)×D)=>((PR.opt (aaS s2.1 a1)).bind fun v4=>
 ((PR.opt (abd v4.2 a1 [])).bind fun v5=>
 (((PR.opt (J8 v5.2 2)).bind fun v6=>(PR.ok ((decide (v6.1=0)),v6.2))).bind fun v7=>if v7.1=true then (PR.lt (D.tup [(D.str ("split":Str)),(j5 D.str v4.1),(D.int x3),v5.1,s2.2]) fun v8:D=>
 (PR.ok (v7.2,v8))) else
 (PR.lt (D.tup [(D.str ("split":Str)),(j5 D.str v4.1),(D.int x3),s2.2,v5.1]) fun v9:D=>
 (PR.ok (v7.2,v9))))))) v1 (a0,a2))).bind fun s10:(List Int)×D=>
 (PR.ok (s10.2,s10.1)))
theorem ahD {XF:XIf} (a0:(List Int)) (a1:(List Str)) (a2:D) (a3:Int):RV (ac0 [.ow true (oLst D.int a0),.im (j5 D.str a1),.im a2,.im (D.int a3)]) (fun v:D×(List Int)=>(X.im v.1)) (fun v:D×(List Int)=>[.ow true (oLst D.int v.2),.im (j5 D.str a1),.im a2,.im (D.int a3)]) XF (PR.opt (ab9 a0 a1 a2 a3)):=by
  unfold ab9
  refine T7 (N:=7) (n:=4) (ds:=aep) (ps:=[.ow true (oLst D.int a0),.im (j5 D.str a1),.im a2,.im (D.int a3)]) (ex:=(fun v:D×(List Int)=>(X.im v.1))) (pe:=(fun v:D×(List Int)=>[.ow true (oLst D.int v.2),.im (j5 D.str a1),.im a2,.im (D.int a3)])) ⟨rfl,Nat.le_of_ble_eq_true rfl,rfl⟩ rfl ?_
  exact (abi (J:=fun (s10:(List Int)×D)=>[.ow true (oLst D.int s10.1),.im (j5 D.str a1),.im s10.2,.im (D.int a3),.no,.no,.no]) (abJ (ld:=fun (v1:List Int)=>v1.map D.int) (agP (pa_cons (j7 rfl) pa_nil) rfl) fun v1=>(fore (e:=D.int) (L:=fun (s2:(List Int)×D)=>[.ow true (oLst D.int s2.1),.im (j5 D.str a1),.im s2.2,.im (D.int a3),.no,.no,.no]) (G:=fun (x3:Int) (s2:(List Int)×D)=>[.ow true (oLst D.int s2.1),.im (j5 D.str a1),.im s2.2,.im (D.int a3),.im (D.int x3),.no,.no]) (J:=fun (s10:(List Int)×D)=>[.ow true (oLst D.int s10.1),.im (j5 D.str a1),.im s10.2,.im (D.int a3),.no,.no,.no]) (s0:=(a0,a2)) rfl (fun _ _=>rfl) (fun x3 s2=>(adk (s_asg (E1:=fun (v4:(List Str)×(List Int))=>[.ow true (oLst D.int v4.2),.im (j5 D.str a1),.im s2.2,.im (D.int a3),.im (D.int x3),.im (j5 D.str v4.1),.no]) (T5 (df:=fun (v:(List Str)×(List Int))=>(j5 D.str v.1)) (G8 (pa_cons (M6 rfl) (pa_cons (j7 rfl) pa_nil)) (w6 (ps:=[.ow true (oLst D.int s2.1),.im (j5 D.str a1)]) (E1:=fun u:(List Str)×(List Int)=>[.ow true (oLst D.int u.2),.im (j5 D.str a1),.im s2.2,.im (D.int a3),.im (D.int x3),.no,.no]) rfl (of_decide_eq_true rfl) (aeA (XF:=XFT) s2.1 a1) (fun _=>rfl))) (fun _=>rfl)) (fun _=>rfl) fun v4=>(s_asg (E1:=fun (v5:D×(List Int))=>[.ow true (oLst D.int v5.2),.im (j5 D.str a1),.im s2.2,.im (D.int a3),.im (D.int x3),.im (j5 D.str v4.1),.im v5.1]) (T5 (df:=fun (v:D×(List Int))=>v.1) (G8 (pa_cons (M6 rfl) (pa_cons (j7 rfl) (pa_cons (aeL (ds:=[]) pa_nil rfl aeN) pa_nil))) (w6 (ps:=[.ow true (oLst D.int v4.2),.im (j5 D.str a1),.im (j5 D.str [])]) (E1:=fun u:D×(List Int)=>[.ow true (oLst D.int u.2),.im (j5 D.str a1),.im s2.2,.im (D.int a3),.im (D.int x3),.im (j5 D.str v4.1),.no]) rfl (of_decide_eq_true rfl) (aeR (XF:=XFT) v4.2 a1 []) (fun _=>rfl))) (fun _=>rfl)) (fun _=>rfl) fun v5=>(U8 (Q9 (g:=fun (v:Bool×(List Int))=>v.1) (O9 (G8 (pa_cons (M6 rfl) (pa_cons rfl pa_nil)) (w6 (ps:=[.ow true (oLst D.int v5.2),.im (D.int 2)]) (E1:=fun u:Int×(List Int)=>[.ow true (oLst D.int u.2),.im (j5 D.str a1),.im s2.2,.im (D.int a3),.im (D.int x3),.im (j5 D.str v4.1),.im v5.1]) rfl (of_decide_eq_true rfl) (K6 (XF:=XFT) v5.2 2) (fun _=>rfl))) (fun v6=>rfl) fun v6=>(ocVE (ex:=fun z:Bool×(List Int)=>(X.im (D.bl z.1))) (ee:=fun z:Bool×(List Int)=>[.ow true (oLst D.int z.2),.im (j5 D.str a1),.im s2.2,.im (D.int a3),.im (D.int x3),.im (j5 D.str v4.1),.im v5.1]) (v:=((decide (v6.1=0)),v6.2)) rfl rfl (aab v6.1 0) rfl)) (fun _=>rfl)) (fun v7=>(X8 (als (ex:=fun z:D=>(X.im z)) (E1:=fun v8=>[.ow true (oLst D.int v7.2),.im (j5 D.str a1),.im v8,.im (D.int a3),.im (D.int x3),.im (j5 D.str v4.1),.im v5.1]) (aeL (ds:=[(D.str ("split":Str)),(j5 D.str v4.1),(D.int x3),v5.1,s2.2]) (pa_cons rfl (pa_cons (j7 rfl) (pa_cons (j7 rfl) (pa_cons (j7 rfl) (pa_cons (j7 rfl) pa_nil))))) rfl aiJ) rfl (fun _=>rfl) fun v8=>(s_end rfl))))
 (fun v7=>(X8 (als (ex:=fun z:D=>(X.im z)) (E1:=fun v9=>[.ow true (oLst D.int v7.2),.im (j5 D.str a1),.im v9,.im (D.int a3),.im (D.int x3),.im (j5 D.str v4.1),.im v5.1]) (aeL (ds:=[(D.str ("split":Str)),(j5 D.str v4.1),(D.int x3),s2.2,v5.1]) (pa_cons rfl (pa_cons (j7 rfl) (pa_cons (j7 rfl) (pa_cons (j7 rfl) (pa_cons (j7 rfl) pa_nil))))) rfl aiJ) rfl (fun _=>rfl) fun v9=>(s_end rfl))))))))) (fun _=>rfl))) fun s10=>(S7 (j7 rfl) rfl))
def X3 (a0:(List Str)):Option (Str):=PR.o (if (decide ((a0.length:Int)=0))=true then (PR.ok ("-":Str)) else
 (PR.opt (joinP (">":Str) a0)))
theorem afW {XF:XIf} (a0:(List Str)):RV (aaZ [.im (j5 D.str a0)]) (fun v:Str=>(X.im (D.str v))) (fun v:Str=>[.im (j5 D.str a0)]) XF (PR.opt (X3 a0)):=by
  unfold X3
  refine T7 (N:=1) (n:=1) (ds:=ab5) (ps:=[.im (j5 D.str a0)]) (ex:=(fun v:Str=>(X.im (D.str v)))) (pe:=(fun v:Str=>[.im (j5 D.str a0)])) ⟨rfl,Nat.le_of_ble_eq_true rfl,rfl⟩ rfl ?_
  exact (O8 (aaO (T9 (S8 (abb (pa_cons (j7 rfl) pa_nil) rfl (adP D.str a0)) rfl rfl rfl (aab (a0.length:Int) 0)) rfl) (O2 (S7 rfl rfl))
 (R3 (aas (aec rfl rfl (abb (pa_cons (j7 rfl) pa_nil) rfl (aon D.str a0)) (oc rfl rfl (acT (">":Str) a0))) (fun _=>rfl)))))
def aca (a0:D):Option ((List Str)):=PR.o (PR.lt [a0] fun v1:(List D)=>
 (thenO (ρ:=((List Str))) ((PR.opt (rg1 1000)).bind fun v2=>(forO (ρ:=((List Str))) (fun (x4:Int) (s3:(List Str)×(List D))=>(if (decide ((s3.2.length:Int)=0))=true then (PR.ok (.bk (s3.1,s3.2))) else
 ((PR.opt (popP s3.2)).bind fun v5=>
 ((((PR.opt (ixD v5.1 0)).bind fun v7=>(PR.opt (pEqB v7 (D.str ("next":Str))))).bind fun v8=>if v8=true then (((((((PR.opt (ixD v5.1 1)).bind fun v9=>(PR.opt (decC (j5 (ePr D.str eD)) v9))).bind fun v10=>(PR.opt (lcP (fun (x11:(Str×D))=>(some true)) (fun x11=>(some x11.1)) v10 0))).bind fun v12=>(PR.opt (joinP (" ":Str) v12))).bind fun v13=>(PR.opt (catS ("next ":Str) v13))).bind fun v15=>(PR.opt (appP s3.1 v15))).bind fun v16=>((((((PR.opt (ixD v5.1 1)).bind fun v17=>(PR.opt (decC (j5 (ePr D.str eD)) v17))).bind fun v18=>(PR.opt (lcP (fun (x19:(Str×D))=>(some true)) (fun x19=>(some x19.2)) v18 0))).bind fun v20=>(PR.ok v20.reverse)).bind fun v22=>(PR.opt (extP v5.2 v22))).bind fun v23=>(PR.ok (v16,v23)))) else
 ((((PR.opt (ixD v5.1 0)).bind fun v25=>(PR.opt (pEqB v25 (D.str ("split":Str))))).bind fun v26=>if v26=true then ((((((((PR.opt (ixD v5.1 2)).bind fun v27=>(PR.opt (decC D.int v27))).bind fun v29=>(PR.opt (fmtP v29))).bind fun v30=>(PR.opt (catS ("split ":Str) v30))).bind fun v31=>(PR.opt (catS v31 (" ":Str)))).bind fun v32=>((((PR.opt (ixD v5.1 1)).bind fun v33=>(PR.opt (decC (j5 D.str) v33))).bind fun v35=>(PR.opt (X3 v35))).bind fun v36=>(PR.opt (catS v32 v36)))).bind fun v38=>(PR.opt (appP s3.1 v38))).bind fun v39=>(((PR.opt (ixD v5.1 4)).bind fun v41=>(PR.opt (appP v5.2 v41))).bind fun v42=>(((PR.opt (ixD v5.1 3)).bind fun v44=>(PR.opt (appP v42 v44))).bind fun v45=>(PR.ok (v39,v45))))) else
 ((((PR.opt (ixD v5.1 0)).bind fun v47=>(PR.opt (pEqB v47 (D.str ("shut":Str))))).bind fun v48=>if v48=true then ((((PR.opt (ixD v5.1 1)).bind fun v49=>(PR.opt (decC (j5 (Q7 D.int D.str D.int)) v49))).bind fun v50=>(PR.opt (lcP (fun (x51:(Int×Str×Int))=>(some true)) (fun x51=>((((((PR.opt (fmtP x51.1)).bind fun v52=>(PR.opt (catS (" ":Str) v52))).bind fun v53=>(PR.opt (catS v53 (" ":Str)))).bind fun v54=>(PR.opt (catS v54 x51.2.1))).bind fun v55=>(PR.opt (catS v55 (" ":Str)))).bind fun v56=>((PR.opt (fmtP x51.2.2)).bind fun v57=>(PR.opt (catS v56 v57)))).o) v50 0))).bind fun v59=>
 ((((PR.opt (joinP ("":Str) v59)).bind fun v60=>(PR.opt (catS ("shut":Str) v60))).bind fun v62=>(PR.opt (appP s3.1 v62))).bind fun v63=>(PR.ok v63))) else
 ((PR.opt (appP s3.1 ("dead":Str))).bind fun v64=>(PR.ok v64))).bind fun s46:(List Str)=>
 (PR.ok (s46,v5.2)))).bind fun s24:(List Str)×(List D)=>
 (PR.ok (s24.1,s24.2)))).bind fun s6:(List Str)×(List D)=>
 (PR.ok (.nx (s6.1,s6.2))))))) v2 ([],v1))) (fun s65:(List Str)×(List D)=>
 (PR.ok s65.1)) (fun r=>r)))
theorem aju {XF:XIf} (a0:D):RV (ac1 [.im a0]) (fun v:(List Str)=>(X.ow (oLst D.str v))) (fun v:(List Str)=>[.im a0]) XF (PR.opt (aca a0)):=by
  unfold aca
  refine T7 (N:=10) (n:=1) (ds:=aeq) (ps:=[.im a0]) (ex:=(fun v:(List Str)=>(X.ow (oLst D.str v)))) (pe:=(fun v:(List Str)=>[.im a0])) ⟨rfl,Nat.le_of_ble_eq_true rfl,rfl⟩ rfl ?_
  exact (adN (E1:=[.im a0,.ow false (oLst D.str []),.no,.no,.no,.no,.no,.no,.no,.no]) (aeM (ds:=[]) pa_nil rfl aeN) rfl (als (ex:=fun z:(List D)=>(X.ow (oLst eD z))) (E1:=fun v1=>[.im a0,.ow false (oLst D.str []),.ow false (oLst eD v1),.no,.no,.no,.no,.no,.no,.no]) (aeM (ds:=[a0]) (pa_cons (j7 rfl) pa_nil) rfl ad5) rfl (fun _=>rfl) fun v1=>(ahf (J:=fun (s65:(List Str)×(List D))=>[.im a0,.ow false (oLst D.str s65.1),.ow false (oLst eD s65.2),.no,.no,.no,.no,.no,.no,.no]) (RT:=(fun v x e=>finR 1 [.im a0] (.rt x e)=RE.ok ((fun v:(List Str)=>(X.ow (oLst D.str v))) v) ((fun v:(List Str)=>[.im a0]) v))) (abJ (ld:=fun (v2:List Int)=>v2.map D.int) (agP (pa_cons rfl pa_nil) rfl) fun v2=>(foreO (e:=D.int) (L:=fun (s3:(List Str)×(List D))=>[.im a0,.ow false (oLst D.str s3.1),.ow false (oLst eD s3.2),.no,.no,.no,.no,.no,.no,.no]) (G:=fun (x4:Int) (s3:(List Str)×(List D))=>[.im a0,.ow false (oLst D.str s3.1),.ow false (oLst eD s3.2),.im (D.int x4),.no,.no,.no,.no,.no,.no]) (J:=fun (s65:(List Str)×(List D))=>[.im a0,.ow false (oLst D.str s65.1),.ow false (oLst eD s65.2),.no,.no,.no,.no,.no,.no,.no]) (RT:=(fun v x e=>finR 1 [.im a0] (.rt x e)=RE.ok ((fun v:(List Str)=>(X.ow (oLst D.str v))) v) ((fun v:(List Str)=>[.im a0]) v))) (s0:=([],v1)) rfl (fun _ _=>rfl) (fun x4 s3=>(adk (O8 (aaO (T9 (S8 (abb (pa_cons (M6 rfl) pa_nil) rfl (adQ eD s3.2)) rfl rfl rfl (aab (s3.2.length:Int) 0)) rfl) (anB (ap3 (arC rfl)))
 (R3 (s_asg (E1:=fun (v5:D×(List D))=>[.im a0,.ow false (oLst D.str s3.1),.ow false (oLst eD v5.2),.im (D.int x4),.im v5.1,.no,.no,.no,.no,.no]) (afr (exd:=(fun z=>z.1)) (oo:=(fun z=>(oLst eD z.2))) (E1:=fun z=>[.im a0,.ow false (oLst D.str s3.1),.ow false (oLst eD z.2),.im (D.int x4),.no,.no,.no,.no,.no,.no]) rfl rfl pa_nil rfl (arG eD s3.2) (fun _=>rfl)) (fun _=>rfl) fun v5=>(X8 (abi (J:=fun (s6:(List Str)×(List D))=>[.im a0,.ow false (oLst D.str s6.1),.ow false (oLst eD s6.2),.im (D.int x4),.im v5.1,.no,.no,.no,.no,.no]) (adk (U8 (Q9 (g:=fun (v:Bool)=>v) (O9 (K7 (j7 rfl) rfl (oc rfl rfl (aaP v5.1 0))) (fun v7=>rfl) fun v7=>(oc rfl rfl (afP v7 (D.str ("next":Str))))) (fun _=>rfl)) (fun v8=>(s_drop (adh (dsf:=fun (v15:Str)=>[(D.str v15)]) (pf:=fun _=>false) (of:=fun (v15:Str)=>(oLst D.str s3.1)) rfl rfl (N6 (xf:=fun (v14:Str)=>[]) (Y7 rfl (aed rfl rfl (ac5 (l:=fun (v10:(List (Str×D)))=>v10.map (ePr D.str eD)) (acz (l:=fun (v:(List (Str×D)))=>v.map (ePr D.str eD)) (acA (e:=(j5 (ePr D.str eD))) (g:=fun (v9:D)=>v9) (K7 (j7 rfl) rfl (oc rfl rfl (aaP v5.1 1)))) (fun v=>rfl)) fun v10=>(lce (e:=(ePr D.str eD)) (e':=D.str) (B:=[.im a0,.ow false (oLst D.str s3.1),.ow false (oLst eD v5.2),.im (D.int x4),.im v5.1,.no,.no,.no,.no,.no]) (Bx:=fun (x11:(Str×D))=>[.im a0,.ow false (oLst D.str s3.1),.ow false (oLst eD v5.2),.im (D.int x4),.im v5.1,.no,.im (D.str x11.1),.im x11.2,.no,.no]) (XF:=fun _ _=>True) rfl rfl (fun _=>rfl) (fun x11=>(X4 (ex:=fun b:Bool=>b) (v:=true) abR rfl)) (fun x11=>(X4 (ex:=fun y:Str=>(X.im (D.str y))) (v:=x11.1) (j7 rfl) rfl)) (fun _=>rfl) (fun _=>rfl) rfl)) fun v12=>(oc rfl rfl (acT (" ":Str) v12))) fun v13=>(oc rfl rfl (aa1 ("next ":Str) v13))) (fun v14=>pa_nil)) (fun _=>rfl) (fun _=>rfl) fun v15=>(mc (exd:=(fun z=>.non)) (oo:=(fun z=>(oLst D.str z))) (E1:=fun z=>[.im a0,.ow false (oLst D.str z),.ow false (oLst eD v5.2),.im (D.int x4),.im v5.1,.no,.no,.no,.no,.no]) (adz D.str s3.1 v15) (fun _=>rfl))) fun v16=>(X8 (s_drop (ao6 (dsf:=fun (v22:(List D))=>[(t7 eD v22)]) (pf:=fun _=>false) (of:=fun (v22:(List D))=>(oLst eD v5.2)) rfl rfl (N6 (xf:=fun (v21:(List D))=>[]) (aof (ac5 (l:=fun (v18:(List (Str×D)))=>v18.map (ePr D.str eD)) (acz (l:=fun (v:(List (Str×D)))=>v.map (ePr D.str eD)) (acA (e:=(j5 (ePr D.str eD))) (g:=fun (v17:D)=>v17) (K7 (j7 rfl) rfl (oc rfl rfl (aaP v5.1 1)))) (fun v=>rfl)) fun v18=>(lce (e:=(ePr D.str eD)) (e':=eD) (B:=[.im a0,.ow false (oLst D.str v16),.ow false (oLst eD v5.2),.im (D.int x4),.im v5.1,.no,.no,.no,.no,.no]) (Bx:=fun (x19:(Str×D))=>[.im a0,.ow false (oLst D.str v16),.ow false (oLst eD v5.2),.im (D.int x4),.im v5.1,.no,.im (D.str x19.1),.im x19.2,.no,.no]) (XF:=fun _ _=>True) rfl rfl (fun _=>rfl) (fun x19=>(X4 (ex:=fun b:Bool=>b) (v:=true) abR rfl)) (fun x19=>(X4 (ex:=fun y:D=>(X.im y)) (v:=x19.2) (j7 rfl) rfl)) (fun _=>rfl) (fun _=>rfl) rfl)) fun v20=>(ucV (ex:=(fun z:(List D)=>(X.ow (oLst eD z)))) (v:=v20.reverse) rfl (aqV eD v20))) (fun v21=>pa_nil)) (fun _=>rfl) (fun _=>rfl) fun v22=>(mc (exd:=(fun z=>.non)) (oo:=(fun z=>(oLst eD z))) (E1:=fun z=>[.im a0,.ow false (oLst D.str v16),.ow false (oLst eD z),.im (D.int x4),.im v5.1,.no,.no,.no,.no,.no]) (arH eD v5.2 v22) (fun _=>rfl))) fun v23=>(s_end rfl)))))
 (fun v8=>(X8 (abi (J:=fun (s24:(List Str)×(List D))=>[.im a0,.ow false (oLst D.str s24.1),.ow false (oLst eD s24.2),.im (D.int x4),.im v5.1,.no,.no,.no,.no,.no]) (adk (U8 (Q9 (g:=fun (v:Bool)=>v) (O9 (K7 (j7 rfl) rfl (oc rfl rfl (aaP v5.1 0))) (fun v25=>rfl) fun v25=>(oc rfl rfl (afP v25 (D.str ("split":Str))))) (fun _=>rfl)) (fun v26=>(s_drop (adh (dsf:=fun (v38:Str)=>[(D.str v38)]) (pf:=fun _=>false) (of:=fun (v38:Str)=>(oLst D.str s3.1)) rfl rfl (N6 (xf:=fun (v37:Str)=>[]) (abI (O9 (Y7 rfl (aar (N6 (xf:=fun (v28:Int)=>[]) (acA (e:=D.int) (g:=fun (v27:D)=>v27) (K7 (j7 rfl) rfl (oc rfl rfl (aaP v5.1 2)))) (fun v28=>pa_nil)) fun v29=>(cc rfl (alz v29))) fun v30=>(oc rfl rfl (aa1 ("split ":Str) v30))) (fun v31=>rfl) fun v31=>(oc rfl rfl (aa1 v31 (" ":Str)))) (fun v32=>(aaK (N6 (xf:=fun (v34:(List Str))=>[]) (acA (e:=(j5 D.str)) (g:=fun (v33:D)=>v33) (K7 (j7 rfl) rfl (oc rfl rfl (aaP v5.1 1)))) (fun v34=>pa_nil)) fun v35=>(w6 (ps:=[.im (j5 D.str v35)]) (E1:=fun u=>[.im a0,.ow false (oLst D.str s3.1),.ow false (oLst eD v5.2),.im (D.int x4),.im v5.1,.no,.no,.no,.no,.no]) rfl (of_decide_eq_true rfl) (afW (XF:=XFT) v35) (fun _=>rfl)))) fun v32 v36=>(oc rfl rfl (aa1 v32 v36))) (fun v37=>pa_nil)) (fun _=>rfl) (fun _=>rfl) fun v38=>(mc (exd:=(fun z=>.non)) (oo:=(fun z=>(oLst D.str z))) (E1:=fun z=>[.im a0,.ow false (oLst D.str z),.ow false (oLst eD v5.2),.im (D.int x4),.im v5.1,.no,.no,.no,.no,.no]) (adz D.str s3.1 v38) (fun _=>rfl))) fun v39=>(s_drop (adh (dsf:=fun (v41:D)=>[v41]) (pf:=fun _=>false) (of:=fun (v41:D)=>(oLst eD v5.2)) rfl rfl (N6 (xf:=fun (v40:D)=>[]) (K7 (j7 rfl) rfl (oc rfl rfl (aaP v5.1 4))) (fun v40=>pa_nil)) (fun _=>rfl) (fun _=>rfl) fun v41=>(mc (exd:=(fun z=>.non)) (oo:=(fun z=>(oLst eD z))) (E1:=fun z=>[.im a0,.ow false (oLst D.str v39),.ow false (oLst eD z),.im (D.int x4),.im v5.1,.no,.no,.no,.no,.no]) (adz eD v5.2 v41) (fun _=>rfl))) fun v42=>(X8 (s_drop (adh (dsf:=fun (v44:D)=>[v44]) (pf:=fun _=>false) (of:=fun (v44:D)=>(oLst eD v42)) rfl rfl (N6 (xf:=fun (v43:D)=>[]) (K7 (j7 rfl) rfl (oc rfl rfl (aaP v5.1 3))) (fun v43=>pa_nil)) (fun _=>rfl) (fun _=>rfl) fun v44=>(mc (exd:=(fun z=>.non)) (oo:=(fun z=>(oLst eD z))) (E1:=fun z=>[.im a0,.ow false (oLst D.str v39),.ow false (oLst eD z),.im (D.int x4),.im v5.1,.no,.no,.no,.no,.no]) (adz eD v42 v44) (fun _=>rfl))) fun v45=>(s_end rfl))))))
 (fun v26=>(X8 (abi (J:=fun (s46:(List Str))=>[.im a0,.ow false (oLst D.str s46),.ow false (oLst eD v5.2),.im (D.int x4),.im v5.1,.no,.no,.no,.no,.no]) (adk (U8 (Q9 (g:=fun (v:Bool)=>v) (O9 (K7 (j7 rfl) rfl (oc rfl rfl (aaP v5.1 0))) (fun v47=>rfl) fun v47=>(oc rfl rfl (afP v47 (D.str ("shut":Str))))) (fun _=>rfl)) (fun v48=>(s_asg (E1:=fun (v59:(List Str))=>[.im a0,.ow false (oLst D.str s3.1),.ow false (oLst eD v5.2),.im (D.int x4),.im v5.1,.im (t7 D.str v59),.no,.no,.no,.no]) (T5 (df:=fun (v:(List Str))=>(t7 D.str v)) (ac5 (l:=fun (v50:(List (Int×Str×Int)))=>v50.map (Q7 D.int D.str D.int)) (acz (l:=fun (v:(List (Int×Str×Int)))=>v.map (Q7 D.int D.str D.int)) (acA (e:=(j5 (Q7 D.int D.str D.int))) (g:=fun (v49:D)=>v49) (K7 (j7 rfl) rfl (oc rfl rfl (aaP v5.1 1)))) (fun v=>rfl)) fun v50=>(lce (e:=(Q7 D.int D.str D.int)) (e':=D.str) (B:=[.im a0,.ow false (oLst D.str s3.1),.ow false (oLst eD v5.2),.im (D.int x4),.im v5.1,.no,.no,.no,.no,.no]) (Bx:=fun (x51:(Int×Str×Int))=>[.im a0,.ow false (oLst D.str s3.1),.ow false (oLst eD v5.2),.im (D.int x4),.im v5.1,.no,.im (D.str x51.2.1),.no,.im (D.int x51.1),.im (D.int x51.2.2)]) (XF:=fun _ _=>True) rfl rfl (fun _=>rfl) (fun x51=>(X4 (ex:=fun b:Bool=>b) (v:=true) abR rfl)) (fun x51=>(aeu (XI':=fun _ _=>True) (abI (O9 (O9 (O9 (Y7 rfl (V7 (pa_cons (j7 rfl) pa_nil) (cc rfl (alz x51.1))) fun v52=>(oc rfl rfl (aa1 (" ":Str) v52))) (fun v53=>rfl) fun v53=>(oc rfl rfl (aa1 v53 (" ":Str)))) (fun v54=>(j7 rfl)) fun v54=>(oc rfl rfl (aa1 v54 x51.2.1))) (fun v55=>rfl) fun v55=>(oc rfl rfl (aa1 v55 (" ":Str)))) (fun v56=>(V7 (pa_cons (j7 rfl) pa_nil) (cc rfl (alz x51.2.2)))) fun v56 v57=>(oc rfl rfl (aa1 v56 v57))))) (fun _=>rfl) (fun _=>rfl) rfl)) (fun _=>rfl)) (fun _=>rfl) fun v59=>(X8 (s_drop (adh (dsf:=fun (v62:Str)=>[(D.str v62)]) (pf:=fun _=>false) (of:=fun (v62:Str)=>(oLst D.str s3.1)) rfl rfl (N6 (xf:=fun (v61:Str)=>[]) (Y7 rfl (aec rfl rfl (j7 rfl) (oc rfl rfl (acT ("":Str) v59))) fun v60=>(oc rfl rfl (aa1 ("shut":Str) v60))) (fun v61=>pa_nil)) (fun _=>rfl) (fun _=>rfl) fun v62=>(mc (exd:=(fun z=>.non)) (oo:=(fun z=>(oLst D.str z))) (E1:=fun z=>[.im a0,.ow false (oLst D.str z),.ow false (oLst eD v5.2),.im (D.int x4),.im v5.1,.im (t7 D.str v59),.no,.no,.no,.no]) (adz D.str s3.1 v62) (fun _=>rfl))) fun v63=>(s_end rfl)))))
 (fun v48=>(X8 (s_drop (afr (exd:=(fun z=>.non)) (oo:=(fun z=>(oLst D.str z))) (E1:=fun z=>[.im a0,.ow false (oLst D.str z),.ow false (oLst eD v5.2),.im (D.int x4),.im v5.1,.no,.no,.no,.no,.no]) rfl rfl (pa_cons rfl pa_nil) rfl (adz D.str s3.1 ("dead":Str)) (fun _=>rfl)) fun v64=>(s_end rfl)))))) fun s46=>(s_end rfl)))))) fun s24=>(s_end rfl)))))) fun s6=>(s_end (akz rfl)))))))))) (fun _=>rfl))) (fun s65=>(S7 (M6 rfl) rfl)) (fun _ _ _ h=>h))))
def abC (a0:(List Str)):Option (Str):=PR.o (if (decide ((a0.length:Int)=0))=true then (PR.ok ("-":Str)) else
 (PR.opt (joinP (">":Str) a0)))
theorem aiP {XF:XIf} (a0:(List Str)):RV (acG [.im (j5 D.str a0)]) (fun v:Str=>(X.im (D.str v))) (fun v:Str=>[.im (j5 D.str a0)]) XF (PR.opt (abC a0)):=by
  unfold abC
  refine T7 (N:=1) (n:=1) (ds:=adX) (ps:=[.im (j5 D.str a0)]) (ex:=(fun v:Str=>(X.im (D.str v)))) (pe:=(fun v:Str=>[.im (j5 D.str a0)])) ⟨rfl,Nat.le_of_ble_eq_true rfl,rfl⟩ rfl ?_
  exact (O8 (aaO (T9 (S8 (abb (pa_cons (j7 rfl) pa_nil) rfl (adP D.str a0)) rfl rfl rfl (aab (a0.length:Int) 0)) rfl) (O2 (S7 rfl rfl))
 (R3 (aas (aec rfl rfl (j7 rfl) (oc rfl rfl (ap7 (">":Str) a0))) (fun _=>rfl)))))
def V3:Nat→D→Option ((List Str))
  | 0,_=>none
  | n+1,a0=>PR.o (((PR.opt (ixD a0 0)).bind fun v1=>(PR.opt (pEqB v1 (D.str ("dead":Str))))).bind fun v2=>if v2=true then (PR.ok [("dead":Str)]) else
 (((PR.opt (ixD a0 0)).bind fun v3=>(PR.opt (pEqB v3 (D.str ("shut":Str))))).bind fun v4=>if v4=true then ((((((PR.opt (ixD a0 1)).bind fun v5=>(PR.opt (decC (j5 (Q7 D.int D.str D.int)) v5))).bind fun v6=>(PR.opt (lcP (fun (x7:(Int×Str×Int))=>(some true)) (fun x7=>((PR.opt (catS Str.empty (" ":Str))).bind fun v8=>((PR.opt (fmtP x7.1)).bind fun v10=>(PR.opt (catS v8 v10)).bind fun v9=>((PR.opt (catS v9 (" ":Str))).bind fun v11=>((PR.opt (fmtS x7.2.1)).bind fun v13=>(PR.opt (catS v11 v13)).bind fun v12=>((PR.opt (catS v12 (" ":Str))).bind fun v14=>((PR.opt (fmtP x7.2.2)).bind fun v16=>(PR.opt (catS v14 v16)).bind fun v15=>(PR.ok v15))))))).o) v6 0))).bind fun v18=>(PR.opt (joinP ("":Str) v18))).bind fun v19=>(PR.opt (catS ("shut":Str) v19))).bind fun v21=>PR.ok [v21]) else
 (((PR.opt (ixD a0 0)).bind fun v22=>(PR.opt (pEqB v22 (D.str ("next":Str))))).bind fun v23=>if v23=true then ((((((PR.opt (ixD a0 1)).bind fun v24=>(PR.opt (decC (j5 (ePr D.str eD)) v24))).bind fun v25=>(PR.opt (lcP (fun (x26:(Str×D))=>(some true)) (fun x26=>(some x26.1)) v25 0))).bind fun v27=>(PR.opt (joinP (" ":Str) v27))).bind fun v28=>(PR.opt (catS ("next ":Str) v28))).bind fun v30=>
 ((((PR.opt (ixD a0 1)).bind fun v31=>(PR.opt (decC (j5 (ePr D.str eD)) v31))).bind fun v32=>(foldP (fun (x34:(Str×D)) (s33:(List Str))=>(((PR.opt (V3 n x34.2)).bind fun v35=>(PR.opt (catP s33 v35))).bind fun v36=>
 (PR.ok v36))) v32 [v30])).bind fun s37:(List Str)=>
 (PR.ok s37))) else
 ((PR.opt (decC (ePr5 D.str (j5 D.str) D.int eD eD) a0)).bind fun v38=>
 ((((PR.opt (catS Str.empty ("split ":Str))).bind fun v39=>((PR.opt (fmtP v38.2.2.1)).bind fun v41=>(PR.opt (catS v39 v41)).bind fun v40=>((PR.opt (catS v40 (" ":Str))).bind fun v42=>(((PR.opt (abC v38.2.1)).bind fun v43=>(PR.opt (fmtS v43))).bind fun v45=>(PR.opt (catS v42 v45)).bind fun v44=>(PR.ok v44))))).bind fun v47=>((PR.opt (V3 n v38.2.2.2.1)).bind fun v48=>(PR.opt (catP [v47] v48)))).bind fun v49=>((PR.opt (V3 n v38.2.2.2.2)).bind fun v50=>(PR.opt (catP v49 v50))))))))
theorem afx {XF:XIf}:∀ (n:Nat) (a0:D),RV (aaJ n [.im a0]) (fun v:(List Str)=>(X.im (t7 D.str v))) (fun v:(List Str)=>[.im a0]) XF (PR.opt (V3 n a0))
  | 0,_=>trivial
  | n+1,a0=>by
    have IH:=fun {XF:XIf}=>afx (XF:=XF) n
    refine T7 (N:=11) (n:=1) (ds:=aer (aaJ n)) (ps:=[.im a0]) (ex:=(fun v:(List Str)=>(X.im (t7 D.str v)))) (pe:=(fun v:(List Str)=>[.im a0])) ⟨rfl,Nat.le_of_ble_eq_true rfl,rfl⟩ rfl ?_
    exact (O8 (U8 (Q9 (g:=fun (v:Bool)=>v) (O9 (K7 (j7 rfl) rfl (oc rfl rfl (aaP a0 0))) (fun v1=>rfl) fun v1=>(oc rfl rfl (afP v1 (D.str ("dead":Str))))) (fun _=>rfl)) (fun v2=>(O2 (S7 (afN (aeM (ds:=[(D.str ("dead":Str))]) (pa_cons rfl pa_nil) rfl ad5) rfl) rfl)))
 (fun v2=>(R3 (O8 (U8 (Q9 (g:=fun (v:Bool)=>v) (O9 (K7 (j7 rfl) rfl (oc rfl rfl (aaP a0 0))) (fun v3=>rfl) fun v3=>(oc rfl rfl (afP v3 (D.str ("shut":Str))))) (fun _=>rfl)) (fun v4=>(O2 (s_ret (T5 (df:=fun (v:Str)=>(t7 D.str [v])) (afO (df:=fun (v:Str)=>[(D.str v)]) (N6 (xf:=fun (v20:Str)=>[]) (Y7 rfl (aed rfl rfl (ac5 (l:=fun (v6:(List (Int×Str×Int)))=>v6.map (Q7 D.int D.str D.int)) (acz (l:=fun (v:(List (Int×Str×Int)))=>v.map (Q7 D.int D.str D.int)) (acA (e:=(j5 (Q7 D.int D.str D.int))) (g:=fun (v5:D)=>v5) (K7 (j7 rfl) rfl (oc rfl rfl (aaP a0 1)))) (fun v=>rfl)) fun v6=>(lce (e:=(Q7 D.int D.str D.int)) (e':=D.str) (B:=[.im a0,.no,.no,.no,.no,.no,.no,.no,.no,.no,.no]) (Bx:=fun (x7:(Int×Str×Int))=>[.im a0,.no,.no,.no,.no,.no,.no,.im (D.str x7.2.1),.no,.im (D.int x7.1),.im (D.int x7.2.2)]) (XF:=fun _ _=>True) rfl rfl (fun _=>rfl) (fun x7=>(X4 (ex:=fun b:Bool=>b) (v:=true) abR rfl)) (fun x7=>(aeu (XI':=fun _ _=>True) (aqW (alA rfl fun v8=>(alB (f:=fun (v10:Str)=>v10) (aiH (j7 rfl) (uc rfl (aly x7.1))) fun v10 v9=>(alA rfl fun v11=>(alB (f:=fun (v13:Str)=>v13) (aiH (j7 rfl) (uc rfl (aoo x7.2.1))) fun v13 v12=>(alA rfl fun v14=>(alB (f:=fun (v16:Str)=>v16) (aiH (j7 rfl) (uc rfl (aly x7.2.2))) fun v16 v15=>aop))))))))) (fun _=>rfl) (fun _=>rfl) rfl)) fun v18=>(oc rfl rfl (acT ("":Str) v18))) fun v19=>(oc rfl rfl (aa1 ("shut":Str) v19))) (fun v20=>pa_nil)) (fun _=>rfl) (fun _=>ad5)) (fun _=>rfl)) (fun _=>rfl))))
 (fun v4=>(R3 (O8 (U8 (Q9 (g:=fun (v:Bool)=>v) (O9 (K7 (j7 rfl) rfl (oc rfl rfl (aaP a0 0))) (fun v22=>rfl) fun v22=>(oc rfl rfl (afP v22 (D.str ("next":Str))))) (fun _=>rfl)) (fun v23=>(adi (s_asg (E1:=fun (v30:Str)=>[.im a0,.no,.no,.no,.no,.no,.im (t7 D.str [v30]),.no,.no,.no,.no]) (T5 (df:=fun (v:Str)=>(t7 D.str [v])) (afO (df:=fun (v:Str)=>[(D.str v)]) (N6 (xf:=fun (v29:Str)=>[]) (Y7 rfl (aed rfl rfl (ac5 (l:=fun (v25:(List (Str×D)))=>v25.map (ePr D.str eD)) (acz (l:=fun (v:(List (Str×D)))=>v.map (ePr D.str eD)) (acA (e:=(j5 (ePr D.str eD))) (g:=fun (v24:D)=>v24) (K7 (j7 rfl) rfl (oc rfl rfl (aaP a0 1)))) (fun v=>rfl)) fun v25=>(lce (e:=(ePr D.str eD)) (e':=D.str) (B:=[.im a0,.no,.no,.no,.no,.no,.no,.no,.no,.no,.no]) (Bx:=fun (x26:(Str×D))=>[.im a0,.no,.no,.no,.no,.no,.no,.im (D.str x26.1),.im x26.2,.no,.no]) (XF:=fun _ _=>True) rfl rfl (fun _=>rfl) (fun x26=>(X4 (ex:=fun b:Bool=>b) (v:=true) abR rfl)) (fun x26=>(X4 (ex:=fun y:Str=>(X.im (D.str y))) (v:=x26.1) (j7 rfl) rfl)) (fun _=>rfl) (fun _=>rfl) rfl)) fun v27=>(oc rfl rfl (acT (" ":Str) v27))) fun v28=>(oc rfl rfl (aa1 ("next ":Str) v28))) (fun v29=>pa_nil)) (fun _=>rfl) (fun _=>ad5)) (fun _=>rfl)) (fun _=>rfl) fun v30=>(adi (abi (J:=fun (s37:(List Str))=>[.im a0,.no,.no,.no,.no,.no,.im (t7 D.str s37),.no,.no,.no,.no]) (abJ (ld:=fun (v32:(List (Str×D)))=>v32.map (ePr D.str eD)) (acz (l:=fun (v:(List (Str×D)))=>v.map (ePr D.str eD)) (acA (e:=(j5 (ePr D.str eD))) (g:=fun (v31:D)=>v31) (K7 (j7 rfl) rfl (oc rfl rfl (aaP a0 1)))) (fun v=>rfl)) fun v32=>(fore (e:=(ePr D.str eD)) (L:=fun (s33:(List Str))=>[.im a0,.no,.no,.no,.no,.no,.im (t7 D.str s33),.no,.no,.no,.no]) (G:=fun (x34:(Str×D)) (s33:(List Str))=>[.im a0,.no,.no,.no,.no,.no,.im (t7 D.str s33),.im (D.str x34.1),.im x34.2,.no,.no]) (J:=fun (s37:(List Str))=>[.im a0,.no,.no,.no,.no,.no,.im (t7 D.str s37),.no,.no,.no,.no]) (s0:=[v30]) rfl (fun _ _=>rfl) (fun x34 s33=>(adk (X8 (s_asg (E1:=fun (v36:(List Str))=>[.im a0,.no,.no,.no,.no,.no,.im (t7 D.str v36),.im (D.str x34.1),.im x34.2,.no,.no]) (T5 (df:=fun (v:(List Str))=>(t7 D.str v)) (Y7 (j7 rfl) (G8 (pa_cons (j7 rfl) pa_nil) (w6 (ps:=[.im x34.2]) (E1:=fun u=>[.im a0,.no,.no,.no,.no,.no,.im (t7 D.str s33),.im (D.str x34.1),.im x34.2,.no,.no]) rfl (of_decide_eq_true rfl) (IH (XF:=XFT) x34.2) (fun _=>rfl))) fun v35=>(oc rfl rfl (alu D.str s33 v35))) (fun _=>rfl)) (fun _=>rfl) fun v36=>(s_end rfl))))) (fun _=>rfl))) fun s37=>(O2 (S7 (afN (j7 rfl) rfl) rfl)))))))
 (fun v23=>(R3 (aqQ (df:=fun (v38:(Str×(List Str)×Int×D×D))=>(ePr5 D.str (j5 D.str) D.int eD eD v38)) (E1:=fun (v38:(Str×(List Str)×Int×D×D))=>[.im a0,.im (D.str v38.1),.im (j5 D.str v38.2.1),.im (D.int v38.2.2.1),.im v38.2.2.2.1,.im v38.2.2.2.2,.no,.no,.no,.no,.no]) (arD (e:=(ePr5 D.str (j5 D.str) D.int eD eD)) (d:=a0) (j7 rfl)) (fun _=>rfl) (fun _=>rfl) fun v38=>(aas (T5 (df:=fun (v:(List Str))=>(t7 D.str v)) (abI (abI (afO (df:=fun (v:Str)=>[(D.str v)]) (N6 (xf:=fun (v46:Str)=>[]) (aqW (alA rfl fun v39=>(alB (f:=fun (v41:Str)=>v41) (aiH (j7 rfl) (uc rfl (aly v38.2.2.1))) fun v41 v40=>(alA rfl fun v42=>(alB (f:=fun (v45:Str)=>v45) (aof (G8 (pa_cons (j7 rfl) pa_nil) (w6 (ps:=[.im (j5 D.str v38.2.1)]) (E1:=fun u=>[.im a0,.im (D.str v38.1),.im (j5 D.str v38.2.1),.im (D.int v38.2.2.1),.im v38.2.2.2.1,.im v38.2.2.2.2,.no,.no,.no,.no,.no]) rfl (of_decide_eq_true rfl) (aiP (XF:=XFT) v38.2.1) (fun _=>rfl))) fun v43=>(uc rfl (aoo v43))) fun v45 v44=>aop))))) (fun v46=>pa_nil)) (fun _=>rfl) (fun _=>ad5)) (fun v47=>(G8 (pa_cons (j7 rfl) pa_nil) (w6 (ps:=[.im v38.2.2.2.1]) (E1:=fun u=>[.im a0,.im (D.str v38.1),.im (j5 D.str v38.2.1),.im (D.int v38.2.2.1),.im v38.2.2.2.1,.im v38.2.2.2.2,.no,.no,.no,.no,.no]) rfl (of_decide_eq_true rfl) (IH (XF:=XFT) v38.2.2.2.1) (fun _=>rfl)))) fun v47 v48=>(oc rfl rfl (alu D.str [v47] v48))) (fun v49=>(G8 (pa_cons (j7 rfl) pa_nil) (w6 (ps:=[.im v38.2.2.2.2]) (E1:=fun u=>[.im a0,.im (D.str v38.1),.im (j5 D.str v38.2.1),.im (D.int v38.2.2.1),.im v38.2.2.2.1,.im v38.2.2.2.2,.no,.no,.no,.no,.no]) rfl (of_decide_eq_true rfl) (IH (XF:=XFT) v38.2.2.2.2) (fun _=>rfl)))) fun v49 v50=>(oc rfl rfl (alu D.str v49 v50))) (fun _=>rfl)) (fun _=>rfl)))))))))))))))
def acb (a0:D):Option (Str):=PR.o ((PR.opt (V3 140 a0)).bind fun v1=>(PR.opt (joinP ("\n":Str) v1)))
theorem ajv {XF:XIf} (a0:D):RV (ac3 [.im a0]) (fun v:Str=>(X.im (D.str v))) (fun v:Str=>[.im a0]) XF (PR.opt (acb a0)):=by
  unfold acb
  refine T7 (N:=1) (n:=1) (ds:=aes) (ps:=[.im a0]) (ex:=(fun v:Str=>(X.im (D.str v)))) (pe:=(fun v:Str=>[.im a0])) ⟨rfl,Nat.le_of_ble_eq_true rfl,rfl⟩ rfl ?_
  exact (aas (aed rfl rfl (G8 (pa_cons (j7 rfl) pa_nil) (w6 (ps:=[.im a0]) (E1:=fun u=>[.im a0]) rfl (of_decide_eq_true rfl) (afx (XF:=XFT) 140 a0) (fun _=>rfl))) fun v1=>(oc rfl rfl (acT ("\n":Str) v1))) (fun _=>rfl))
def V4:Nat→D→D→Option (Bool)
  | 0,_,_=>none
  | n+1,a0,a1=>PR.o (if (D.isNon a1)=true then (PR.ok (D.isNon a0)) else
 ((PR.opt ((D.tyN a1).bind fun t=>L2.kitB t "bool")).bind fun v1=>if v1=true then ((PR.opt ((D.tyN a0).bind fun t=>L2.kitB t "bool")).bind fun v2=>(if v2=true then (PR.opt (pEqB a0 a1)) else (PR.ok false))) else
 ((PR.opt ((D.tyN a1).bind fun t=>L2.kitB t "int")).bind fun v5=>if v5=true then ((PR.opt ((D.tyN a0).bind fun t=>L2.kitB t "int")).bind fun v6=>(if v6=true then ((PR.opt ((D.tyN a0).bind fun t=>L2.kitB t "bool")).bind fun v7=>(if (!v7)=true then (PR.opt (pEqB a0 a1)) else (PR.ok false))) else (PR.ok false))) else
 ((PR.opt ((D.tyN a1).bind fun t=>L2.kitB t "str")).bind fun v11=>if v11=true then ((PR.opt ((D.tyN a0).bind fun t=>L2.kitB t "str")).bind fun v12=>(if v12=true then (PR.opt (pEqB a0 a1)) else (PR.ok false))) else
 (((PR.opt ((D.tyN a1).bind fun t=>L2.kitB t "tuple")).bind fun v15=>(if v15=true then ((PR.opt ((D.tyN a0).bind fun t=>L2.kitB t "tuple")).bind fun v16=>PR.ok (!v16)) else (PR.ok false))).bind fun v17=>if v17=true then (PR.ok false) else
 (((PR.opt ((D.tyN a1).bind fun t=>L2.kitB t "list")).bind fun v18=>(if v18=true then ((PR.opt ((D.tyN a0).bind fun t=>L2.kitB t "list")).bind fun v19=>PR.ok (!v19)) else (PR.ok false))).bind fun v20=>if v20=true then (PR.ok false) else
 (((PR.opt (lenD a0)).bind fun v21=>((PR.opt (lenD a1)).bind fun v22=>(PR.ok (!decide (v21=v22))))).bind fun v23=>if v23=true then (PR.ok false) else
 (thenO (ρ:=(Bool)) (((PR.opt (lenD a1)).bind fun v25=>(PR.opt (rg1 v25))).bind fun v26=>(forO (ρ:=(Bool)) (fun (x28:Int) (s27:Unit)=>((((PR.opt (ixD a0 x28)).bind fun v29=>((PR.opt (ixD a1 x28)).bind fun v31=>PR.ok (v29,v31))).bind fun v32=>(PR.opt (V4 n v32.1 v32.2))).bind fun v33=>if (!v33)=true then (PR.ok (.rt false)) else
 (PR.ok (.nx ())))) v26 ())) (fun s34:Unit=>
 (PR.ok true)) (fun r=>r)))))))))
theorem afy {XF:XIf}:∀ (n:Nat) (a0:D) (a1:D),RV (aba n [.im a0,.im a1]) (fun v:Bool=>(X.im (D.bl v))) (fun v:Bool=>[.im a0,.im a1]) XF (PR.opt (V4 n a0 a1))
  | 0,_,_=>trivial
  | n+1,a0,a1=>by
    have IH:=fun {XF:XIf}=>afy (XF:=XF) n
    refine T7 (N:=3) (n:=2) (ds:=ae4 (aba n)) (ps:=[.im a0,.im a1]) (ex:=(fun v:Bool=>(X.im (D.bl v)))) (pe:=(fun v:Bool=>[.im a0,.im a1])) ⟨rfl,Nat.le_of_ble_eq_true rfl,rfl⟩ rfl ?_
    exact (O8 (aaO (T9 (S8 (j7 rfl) rfl rfl rfl (aol a1)) rfl) (O2 (S7 (S8 (j7 rfl) rfl rfl rfl (aol a0)) rfl))
 (R3 (O8 (U8 (Q9 (g:=fun (v:Bool)=>v) (V7 (pa_cons (j7 rfl) (pa_cons rfl pa_nil)) (cc rfl (abA a1 "bool"))) (fun _=>rfl)) (fun v1=>(O2 (aas (aev (g:=fun (v:Bool)=>v) (V7 (pa_cons (j7 rfl) (pa_cons rfl pa_nil)) (cc rfl (abA a0 "bool"))) (fun _=>rfl) (fun v2=>(K7 (j7 rfl) (j7 rfl) (oc rfl rfl (afP a0 a1)))) (fun _=>rfl)) (fun _=>rfl))))
 (fun v1=>(R3 (O8 (U8 (Q9 (g:=fun (v:Bool)=>v) (V7 (pa_cons (j7 rfl) (pa_cons rfl pa_nil)) (cc rfl (abA a1 "int"))) (fun _=>rfl)) (fun v5=>(O2 (aas (aev (g:=fun (v:Bool)=>v) (V7 (pa_cons (j7 rfl) (pa_cons rfl pa_nil)) (cc rfl (abA a0 "int"))) (fun _=>rfl) (fun v6=>(aev (g:=fun (v:Bool)=>(!v)) (aqP (g:=fun (v:Bool)=>v) (V7 (pa_cons (j7 rfl) (pa_cons rfl pa_nil)) (cc rfl (abA a0 "bool"))) (fun _=>rfl)) (fun _=>rfl) (fun v7=>(K7 (j7 rfl) (j7 rfl) (oc rfl rfl (afP a0 a1)))) (fun _=>rfl))) (fun _=>rfl)) (fun _=>rfl))))
 (fun v5=>(R3 (O8 (U8 (Q9 (g:=fun (v:Bool)=>v) (V7 (pa_cons (j7 rfl) (pa_cons rfl pa_nil)) (cc rfl (abA a1 "str"))) (fun _=>rfl)) (fun v11=>(O2 (aas (aev (g:=fun (v:Bool)=>v) (V7 (pa_cons (j7 rfl) (pa_cons rfl pa_nil)) (cc rfl (abA a0 "str"))) (fun _=>rfl) (fun v12=>(K7 (j7 rfl) (j7 rfl) (oc rfl rfl (afP a0 a1)))) (fun _=>rfl)) (fun _=>rfl))))
 (fun v11=>(R3 (O8 (U8 (alo (Q9 (g:=fun (v:Bool)=>v) (V7 (pa_cons (j7 rfl) (pa_cons rfl pa_nil)) (cc rfl (abA a1 "tuple"))) (fun _=>rfl)) (fun v15=>(abh (f:=fun (v16:Bool)=>(!v16)) (ex:=fun v:Bool=>v) (ee:=fun _=>[.im a0,.im a1,.no]) (aa0 (Q9 (g:=fun (v:Bool)=>v) (V7 (pa_cons (j7 rfl) (pa_cons rfl pa_nil)) (cc rfl (abA a0 "tuple"))) (fun _=>rfl))) (fun _=>rfl) (fun _=>rfl))) (fun _=>rfl)) (fun v17=>(O2 (S7 rfl rfl)))
 (fun v17=>(R3 (O8 (U8 (alo (Q9 (g:=fun (v:Bool)=>v) (V7 (pa_cons (j7 rfl) (pa_cons rfl pa_nil)) (cc rfl (abA a1 "list"))) (fun _=>rfl)) (fun v18=>(abh (f:=fun (v19:Bool)=>(!v19)) (ex:=fun v:Bool=>v) (ee:=fun _=>[.im a0,.im a1,.no]) (aa0 (Q9 (g:=fun (v:Bool)=>v) (V7 (pa_cons (j7 rfl) (pa_cons rfl pa_nil)) (cc rfl (abA a0 "list"))) (fun _=>rfl))) (fun _=>rfl) (fun _=>rfl))) (fun _=>rfl)) (fun v20=>(O2 (S7 rfl rfl)))
 (fun v20=>(R3 (O8 (U8 (Q9 (g:=fun (v:Bool)=>v) (abI (V7 (pa_cons (j7 rfl) pa_nil) (cc rfl (alw a0))) (fun v21=>(V7 (pa_cons (j7 rfl) pa_nil) (cc rfl (alw a1)))) fun v21 v22=>(ocV (ex:=(fun z:Bool=>(X.im (D.bl z)))) (v:=(!decide (v21=v22))) rfl rfl (apr v21 v22))) (fun _=>rfl)) (fun v23=>(O2 (S7 rfl rfl)))
 (fun v23=>(R3 (ahf (J:=fun (s34:Unit)=>[.im a0,.im a1,.no]) (RT:=(fun v x e=>finR 2 [.im a0,.im a1] (.rt x e)=RE.ok ((fun v:Bool=>(X.im (D.bl v))) v) ((fun v:Bool=>[.im a0,.im a1]) v))) (abJ (ld:=fun (v26:List Int)=>v26.map D.int) (ap2 (j:=fun (v:Int)=>v) (N6 (xf:=fun (v24:Int)=>[]) (V7 (pa_cons (j7 rfl) pa_nil) (cc rfl (alw a1))) (fun v24=>pa_nil)) (fun _=>rfl)) fun v26=>(foreO (e:=D.int) (L:=fun (s27:Unit)=>[.im a0,.im a1,.no]) (G:=fun (x28:Int) (s27:Unit)=>[.im a0,.im a1,.im (D.int x28)]) (J:=fun (s34:Unit)=>[.im a0,.im a1,.no]) (RT:=(fun v x e=>finR 2 [.im a0,.im a1] (.rt x e)=RE.ok ((fun v:Bool=>(X.im (D.bl v))) v) ((fun v:Bool=>[.im a0,.im a1]) v))) (s0:=()) rfl (fun _ _=>rfl) (fun x28 s27=>(adk (U8 (aa0 (Q9 (g:=fun v=>v) (aaK (ahd (exs:=fun (p:(D)×(D))=>[(X.im p.1),(X.im p.2)]) (ees:=fun (p:(D)×(D))=>[.im a0,.im a1,.im (D.int x28)]) (pk:=fun v w=>(v,w)) (K7 (j7 rfl) (j7 rfl) (oc rfl rfl (aaP a0 x28))) (fun v29=>(N6 (xf:=fun (v30:D)=>[]) (K7 (j7 rfl) (j7 rfl) (oc rfl rfl (aaP a1 x28))) (fun v30=>pa_nil))) (fun _ _=>rfl) (fun _ _=>rfl)) fun v32=>(w6 (ps:=[.im v32.1,.im v32.2]) (E1:=fun u=>[.im a0,.im a1,.im (D.int x28)]) rfl (of_decide_eq_true rfl) (IH (XF:=XFT) v32.1 v32.2) (fun _=>rfl))) (fun _=>rfl))) (fun v33=>(S7 rfl (akA rfl rfl)))
 (fun v33=>(s_end (akz rfl)))))) (fun _=>rfl))) (fun s34=>(S7 rfl rfl)) (fun _ _ _ h=>h)))))))))))))))))))))))))))))
abbrev G6:Type:=(List Str)×Int
def aay (o:G6):List (Str×D):=[("lines",(t7 D.str o.1)),("place",(D.int o.2))]
def apa (o:G6):D:=.obj "Reader" (aay o)
def G5 (o:G6):OD:=.ob "Reader" (aay o)
instance:NoN apa:=⟨fun _=>rfl⟩
def abf (a1:(List Str)):Option (G6):=PR.o (PR.ok (a1,0))
theorem afX {XF:XIf} (a1:(List Str)):RV (aaq [.ow true (.ob "Reader" []),.im (t7 D.str a1)]) (fun _=>.im .non) (fun v:G6=>[.ow true (G5 v),.im (t7 D.str a1)]) XF (PR.opt (abf a1)):=by
  unfold abf
  refine T7 (N:=2) (n:=2) (ds:=acr) (ps:=[.ow true (.ob "Reader" []),.im (t7 D.str a1)]) (ex:=(fun _=>.im .non)) (pe:=(fun v:G6=>[.ow true (G5 v),.im (t7 D.str a1)])) ⟨rfl,Nat.le_of_ble_eq_true rfl,rfl⟩ rfl ?_
  exact (amU (d:=(t7 D.str a1)) (fs:=[]) (fs':=[("lines",(t7 D.str a1))]) (E1:=[.ow true (.ob "Reader" [("lines",(t7 D.str a1))]),.im (t7 D.str a1)]) (j7 rfl) rfl rfl (by simp) rfl (by kernel_rfl) rfl (X8 (amU (d:=(D.int 0)) (fs:=[("lines",(t7 D.str a1))]) (fs':=[("lines",(t7 D.str a1)),("place",(D.int 0))]) (E1:=[.ow true (.ob "Reader" [("lines",(t7 D.str a1)),("place",(D.int 0))]),.im (t7 D.str a1)]) rfl rfl rfl (by simp) rfl (by kernel_rfl) rfl (s_end rfl))))
def am3 (n:Nat):Ev→RE X:=(MTab.get (aaF n) "Reader").getD fun _=>.bad
theorem ahl (n:Nat):MTab.get (aaF n) "Reader"=some (am3 n):=by cases n <;> rfl
theorem abT (o:G6):(aay o).lookup ("place":Str)=some (D.int o.2):=by kernel_rfl
theorem ac8 (o:G6):(aay o).lookup ("lines":Str)=some (t7 D.str o.1):=by kernel_rfl
def ahU (n:Nat):Ev→RE X:=(MTab.get (X7 n) "Reader").getD fun _=>.bad
theorem amC (n:Nat):MTab.get (X7 n) "Reader"=some (ahU n):=by cases n <;> rfl
def abM (a0:Str):Option (Bool):=PR.o ((if (decide (a0=("":Str)))=true then (PR.ok true) else (((PR.opt (lcP (fun (x2:Str)=>(some true)) (fun x2=>(PR.opt (pInB (D.str x2) (D.str ("0123456789":Str)))).o) (sgns a0) 0)).bind fun v5=>(PR.ok (v5.all id))).bind fun v6=>PR.ok (!v6))).bind fun v7=>if v7=true then (PR.ok false) else
 (if (decide (a0=("0":Str)))=true then (PR.ok true) else ((PR.opt (ixS a0 0)).bind fun v8=>(PR.ok (!decide (v8=("0":Str)))))))
theorem akp {XF:XIf} (a0:Str):RV (adn [.im (D.str a0)]) (fun v:Bool=>(X.im (D.bl v))) (fun v:Bool=>[.im (D.str a0)]) XF (PR.opt (abM a0)):=by
  unfold abM
  refine T7 (N:=2) (n:=1) (ds:=aeU) (ps:=[.im (D.str a0)]) (ex:=(fun v:Bool=>(X.im (D.bl v)))) (pe:=(fun v:Bool=>[.im (D.str a0)])) ⟨rfl,Nat.le_of_ble_eq_true rfl,rfl⟩ rfl ?_
  exact (O8 (U8 (amR (T9 (S8 (j7 rfl) rfl rfl rfl (akB a0 ("":Str))) rfl) (abh (f:=fun (v6:Bool)=>(!v6)) (ex:=fun v:Bool=>v) (ee:=fun _=>[.im (D.str a0),.no]) (aa0 (Q9 (g:=fun (v:Bool)=>v) (aar (N6 (xf:=fun (v4:(List Bool))=>[]) (adM (adL (l:=(sgns a0).map D.str) (j7 rfl) (amZ a0)) (lce (e:=D.str) (e':=D.bl) (B:=[.im (D.str a0),.no]) (Bx:=fun (x2:Str)=>[.im (D.str a0),.im (D.str x2)]) (XF:=fun _ _=>True) rfl rfl (fun _=>rfl) (fun x2=>(X4 (ex:=fun b:Bool=>b) (v:=true) abR rfl)) (fun x2=>(aeu (XI':=fun _ _=>True) (K7 (j7 rfl) rfl (oc rfl rfl (aqT (D.str x2) (D.str ("0123456789":Str))))))) (fun _=>rfl) (fun _=>rfl) rfl)) (fun v4=>pa_nil)) fun v5=>(ccV (ex:=(fun z:Bool=>(X.im (D.bl z)))) (v:=(v5.all id)) rfl (akC v5))) (fun _=>rfl))) (fun _=>rfl) (fun _=>rfl)) rfl) (fun v7=>(O2 (S7 rfl rfl)))
 (fun v7=>(R3 (aas (amS (S8 (j7 rfl) rfl rfl rfl (akB a0 ("0":Str))) rfl (O9 (K7 (j7 rfl) rfl (oc rfl rfl (aiK a0 0))) (fun v8=>rfl) fun v8=>(ocV (ex:=(fun z:Bool=>(X.im (D.bl z)))) (v:=(!decide (v8=("0":Str)))) rfl rfl (aps v8 ("0":Str)))) rfl) (fun _=>rfl))))))
def W3 (a0:Str):Option (Bool):=PR.o ((PR.opt (abM a0)).bind fun v1=>(if v1=true then ((PR.opt (lenS a0)).bind fun v2=>(PR.ok (decide (v2≤13)))) else (PR.ok false)))
theorem abO {XF:XIf} (a0:Str):RV (Y5 [.im (D.str a0)]) (fun v:Bool=>(X.im (D.bl v))) (fun v:Bool=>[.im (D.str a0)]) XF (PR.opt (W3 a0)):=by
  unfold W3
  refine T7 (N:=1) (n:=1) (ds:=acq) (ps:=[.im (D.str a0)]) (ex:=(fun v:Bool=>(X.im (D.bl v)))) (pe:=(fun v:Bool=>[.im (D.str a0)])) ⟨rfl,Nat.le_of_ble_eq_true rfl,rfl⟩ rfl ?_
  exact (aas (aev (g:=fun (v:Bool)=>v) (G8 (pa_cons (j7 rfl) pa_nil) (w6 (ps:=[.im (D.str a0)]) (E1:=fun u=>[.im (D.str a0)]) rfl (of_decide_eq_true rfl) (akp (XF:=XFT) a0) (fun _=>rfl))) (fun _=>rfl) (fun v1=>(O9 (V7 (pa_cons (j7 rfl) pa_nil) (cc rfl (aom a0))) (fun v2=>rfl) fun v2=>(ocV (ex:=(fun z:Bool=>(X.im (D.bl z)))) (v:=(decide (v2≤13))) rfl rfl rfl))) (fun _=>rfl)) (fun _=>rfl))
def acd (a0:Str):Option (Bool):=PR.o (((PR.opt (lenS a0)).bind fun v1=>PR.ok (decide (1≤v1)&&decide (v1≤12))).bind fun v2=>if (!v2)=true then (PR.ok false) else
 ((PR.opt (lcP (fun (x4:Str)=>(some true)) (fun x4=>(PR.opt (pInB (D.str x4) (D.str ("abcdefghijklmnopqrstuvwxyz":Str)))).o) (sgns a0) 0)).bind fun v7=>(PR.ok (v7.all id))))
theorem ae8 {XF:XIf} (a0:Str):RV (acP [.im (D.str a0)]) (fun v:Bool=>(X.im (D.bl v))) (fun v:Bool=>[.im (D.str a0)]) XF (PR.opt (acd a0)):=by
  unfold acd
  refine T7 (N:=2) (n:=1) (ds:=agg) (ps:=[.im (D.str a0)]) (ex:=(fun v:Bool=>(X.im (D.bl v)))) (pe:=(fun v:Bool=>[.im (D.str a0)])) ⟨rfl,Nat.le_of_ble_eq_true rfl,rfl⟩ rfl ?_
  exact (O8 (U8 (aa0 (Q9 (g:=fun (v:Bool)=>v) (amr (p:=fun i j=>decide (i≤j)) (q:=fun i j=>decide (i≤j)) (g:=fun (v:Int)=>v) rfl (V7 (pa_cons (j7 rfl) pa_nil) (cc rfl (aom a0))) rfl rfl (fun _=>rfl) rfl) (fun _=>rfl))) (fun v2=>(O2 (S7 rfl rfl)))
 (fun v2=>(R3 (aas (aar (N6 (xf:=fun (v6:(List Bool))=>[]) (adM (adL (l:=(sgns a0).map D.str) (j7 rfl) (amZ a0)) (lce (e:=D.str) (e':=D.bl) (B:=[.im (D.str a0),.no]) (Bx:=fun (x4:Str)=>[.im (D.str a0),.im (D.str x4)]) (XF:=fun _ _=>True) rfl rfl (fun _=>rfl) (fun x4=>(X4 (ex:=fun b:Bool=>b) (v:=true) abR rfl)) (fun x4=>(aeu (XI':=fun _ _=>True) (K7 (j7 rfl) rfl (oc rfl rfl (aqT (D.str x4) (D.str ("abcdefghijklmnopqrstuvwxyz":Str))))))) (fun _=>rfl) (fun _=>rfl) rfl)) (fun v6=>pa_nil)) fun v7=>(ccV (ex:=(fun z:Bool=>(X.im (D.bl z)))) (v:=(v7.all id)) rfl (akC v7))) (fun _=>rfl))))))
def aaN (a0:Str):Option (Bool):=PR.o (if (decide (a0=("-":Str)))=true then (PR.ok true) else (((PR.opt (splitP a0 (">":Str))).bind fun v1=>(PR.opt (lcP (fun (x2:Str)=>(some true)) (fun x2=>(PR.opt (acd x2)).o) v1 0))).bind fun v5=>(PR.ok (v5.all id))))
theorem ag1 {XF:XIf} (a0:Str):RV (abt [.im (D.str a0)]) (fun v:Bool=>(X.im (D.bl v))) (fun v:Bool=>[.im (D.str a0)]) XF (PR.opt (aaN a0)):=by
  unfold aaN
  refine T7 (N:=2) (n:=1) (ds:=acK) (ps:=[.im (D.str a0)]) (ex:=(fun v:Bool=>(X.im (D.bl v)))) (pe:=(fun v:Bool=>[.im (D.str a0)])) ⟨rfl,Nat.le_of_ble_eq_true rfl,rfl⟩ rfl ?_
  exact (aas (amS (S8 (j7 rfl) rfl rfl rfl (akB a0 ("-":Str))) rfl (aar (N6 (xf:=fun (v4:(List Bool))=>[]) (ac5 (l:=fun (v1:(List Str))=>v1.map D.str) (acz (l:=fun (v:(List Str))=>v.map D.str) (aec (j7 rfl) rfl rfl (oc rfl rfl (ahi a0 (">":Str)))) (fun v=>rfl)) fun v1=>(lce (e:=D.str) (e':=D.bl) (B:=[.im (D.str a0),.no]) (Bx:=fun (x2:Str)=>[.im (D.str a0),.im (D.str x2)]) (XF:=fun _ _=>True) rfl rfl (fun _=>rfl) (fun x2=>(X4 (ex:=fun b:Bool=>b) (v:=true) abR rfl)) (fun x2=>(aeu (XI':=fun _ _=>True) (G8 (pa_cons (j7 rfl) pa_nil) (w6 (ps:=[.im (D.str x2)]) (E1:=fun u=>[.im (D.str a0),.im (D.str x2)]) rfl (of_decide_eq_true rfl) (ae8 (XF:=XFT) x2) (fun _=>rfl))))) (fun _=>rfl) (fun _=>rfl) rfl)) (fun v4=>pa_nil)) fun v5=>(ccV (ex:=(fun z:Bool=>(X.im (D.bl z)))) (v:=(v5.all id)) rfl (akC v5))) rfl) (fun _=>rfl))
theorem aco (o:G6):((aay o).lookup ("node":Str)).isNone=true:=by kernel_rfl
def acD (a0:Str):Option ((List Str)):=PR.o (if (decide (a0=("-":Str)))=true then (PR.ok []) else
 ((PR.opt (splitP a0 (">":Str))).bind fun v2=>(PR.ok v2)))
theorem akq {XF:XIf} (a0:Str):RV (ado [.im (D.str a0)]) (fun v:(List Str)=>(X.im (j5 D.str v))) (fun v:(List Str)=>[.im (D.str a0)]) XF (PR.opt (acD a0)):=by
  unfold acD
  refine T7 (N:=1) (n:=1) (ds:=aeV) (ps:=[.im (D.str a0)]) (ex:=(fun v:(List Str)=>(X.im (j5 D.str v)))) (pe:=(fun v:(List Str)=>[.im (D.str a0)])) ⟨rfl,Nat.le_of_ble_eq_true rfl,rfl⟩ rfl ?_
  exact (O8 (aaO (T9 (S8 (j7 rfl) rfl rfl rfl (akB a0 ("-":Str))) rfl) (O2 (S7 (aeL (ds:=[]) pa_nil rfl aeN) rfl))
 (R3 (aas (aar (N6 (xf:=fun (v1:(List Str))=>[]) (aec (j7 rfl) rfl rfl (oc rfl rfl (ahi a0 (">":Str)))) (fun v1=>pa_nil)) fun v2=>(ccV (ex:=(fun z:(List Str)=>(X.im (j5 D.str z)))) (v:=v2) rfl (adR D.str v2))) (fun _=>rfl)))))
theorem ag3 (o:G6):((aay o).lookup ("split_of":Str)).isNone=true:=by kernel_rfl
def afz (n:Nat):Ev→RE X:=(MTab.get (U6 n) "Reader").getD fun _=>.bad
theorem ajw (n:Nat):MTab.get (U6 n) "Reader"=some (afz n):=by cases n <;> rfl
theorem afA (o:G6):((aay o).lookup ("branches_of":Str)).isNone=true:=by kernel_rfl
def acV (a0:(List Str)):Option ((List (List Str))):=PR.o ((PR.opt (rg3 0 (a0.length:Int))).bind fun v1=>(PR.opt (lcP (fun (x2:Int)=>(some true)) (fun x2=>(some (Dn.cutD a0 (some x2) (some (x2+3))))) v1 0)))
theorem ahV {XF:XIf} (a0:(List Str)):RV (adC [.im (t7 D.str a0)]) (fun v:(List (List Str))=>(X.im (t7 (t7 D.str) v))) (fun v:(List (List Str))=>[.im (t7 D.str a0)]) XF (PR.opt (acV a0)):=by
  unfold acV
  refine T7 (N:=2) (n:=1) (ds:=agh) (ps:=[.im (t7 D.str a0)]) (ex:=(fun v:(List (List Str))=>(X.im (t7 (t7 D.str) v)))) (pe:=(fun v:(List (List Str))=>[.im (t7 D.str a0)])) ⟨rfl,Nat.le_of_ble_eq_true rfl,rfl⟩ rfl ?_
  exact (aas (T5 (df:=fun (v:(List (List Str)))=>(t7 (t7 D.str) v)) (ac5 (l:=fun (v1:List Int)=>v1.map D.int) (aqZ (pa_cons rfl (pa_cons (abb (pa_cons (j7 rfl) pa_nil) rfl (adQ D.str a0)) (pa_cons rfl pa_nil))) rfl) fun v1=>(lce (e:=D.int) (e':=(t7 D.str)) (B:=[.im (t7 D.str a0),.no]) (Bx:=fun (x2:Int)=>[.im (t7 D.str a0),.im (D.int x2)]) (XF:=fun _ _=>True) rfl rfl (fun _=>rfl) (fun x2=>(X4 (ex:=fun b:Bool=>b) (v:=true) abR rfl)) (fun x2=>(X4 (ex:=fun y:(List Str)=>(X.ow (oLst D.str y))) (v:=(Dn.cutD a0 (some x2) (some (x2+3)))) (aky (j7 rfl) (agO (j7 rfl) rfl) (agO (S8 (j7 rfl) rfl rfl rfl rfl) rfl) rfl (arF D.str a0 (some x2) (some (x2+3)))) rfl)) (fun _=>rfl) (fun _=>rfl) rfl)) (fun _=>rfl)) (fun _=>rfl))
def abD (a0:(List Str)):Option (Bool):=PR.o (((PR.opt (modP (a0.length:Int) 3)).bind fun v1=>(PR.ok (!decide (v1=0)))).bind fun v2=>if v2=true then (PR.ok false) else
 (thenO (ρ:=(Bool)) (((PR.opt (acV a0)).bind fun v3=>(PR.opt (decC (t7 (eL3 D.str)) (t7 (t7 D.str) v3)))).bind fun v4=>(forO (ρ:=(Bool)) (fun (x6:(Str×Str×Str)) (s5:Unit)=>(((PR.opt (W3 x6.1)).bind fun v7=>(if (!v7)=true then (PR.ok true) else ((PR.opt (acd x6.2.1)).bind fun v8=>(if (!v8)=true then (PR.ok true) else ((PR.opt (W3 x6.2.2)).bind fun v9=>PR.ok (!v9)))))).bind fun v11=>if v11=true then (PR.ok (.rt false)) else
 (PR.ok (.nx ())))) v4 ())) (fun s12:Unit=>
 (PR.ok true)) (fun r=>r)))
theorem aiQ {XF:XIf} (a0:(List Str)):RV (acE [.im (t7 D.str a0)]) (fun v:Bool=>(X.im (D.bl v))) (fun v:Bool=>[.im (t7 D.str a0)]) XF (PR.opt (abD a0)):=by
  unfold abD
  refine T7 (N:=4) (n:=1) (ds:=adU) (ps:=[.im (t7 D.str a0)]) (ex:=(fun v:Bool=>(X.im (D.bl v)))) (pe:=(fun v:Bool=>[.im (t7 D.str a0)])) ⟨rfl,Nat.le_of_ble_eq_true rfl,rfl⟩ rfl ?_
  exact (O8 (U8 (Q9 (g:=fun (v:Bool)=>v) (O9 (K7 (abb (pa_cons (j7 rfl) pa_nil) rfl (adQ D.str a0)) rfl (oc rfl rfl (ahh (a0.length:Int) 3))) (fun v1=>rfl) fun v1=>(ocV (ex:=(fun z:Bool=>(X.im (D.bl z)))) (v:=(!decide (v1=0))) rfl rfl (apr v1 0))) (fun _=>rfl)) (fun v2=>(O2 (S7 rfl rfl)))
 (fun v2=>(R3 (ahf (J:=fun (s12:Unit)=>[.im (t7 D.str a0),.no,.no,.no]) (RT:=(fun v x e=>finR 1 [.im (t7 D.str a0)] (.rt x e)=RE.ok ((fun v:Bool=>(X.im (D.bl v))) v) ((fun v:Bool=>[.im (t7 D.str a0)]) v))) (abJ (ld:=fun (v4:(List (Str×Str×Str)))=>v4.map (eL3 D.str)) (acz (l:=fun (v:(List (Str×Str×Str)))=>v.map (eL3 D.str)) (acA (e:=(t7 (eL3 D.str))) (g:=fun (v3:(List (List Str)))=>(t7 (t7 D.str) v3)) (G8 (pa_cons (j7 rfl) pa_nil) (w6 (ps:=[.im (t7 D.str a0)]) (E1:=fun u=>[.im (t7 D.str a0),.no,.no,.no]) rfl (of_decide_eq_true rfl) (ahV (XF:=XFT) a0) (fun _=>rfl)))) (fun v=>rfl)) fun v4=>(foreO (e:=(eL3 D.str)) (L:=fun (s5:Unit)=>[.im (t7 D.str a0),.no,.no,.no]) (G:=fun (x6:(Str×Str×Str)) (s5:Unit)=>[.im (t7 D.str a0),.im (D.str x6.1),.im (D.str x6.2.1),.im (D.str x6.2.2)]) (J:=fun (s12:Unit)=>[.im (t7 D.str a0),.no,.no,.no]) (RT:=(fun v x e=>finR 1 [.im (t7 D.str a0)] (.rt x e)=RE.ok ((fun v:Bool=>(X.im (D.bl v))) v) ((fun v:Bool=>[.im (t7 D.str a0)]) v))) (s0:=()) rfl (fun _ _=>rfl) (fun x6 s5=>(adk (U8 (afq (aa0 (Q9 (g:=fun (v:Bool)=>v) (G8 (pa_cons (j7 rfl) pa_nil) (w6 (ps:=[.im (D.str x6.1)]) (E1:=fun u=>[.im (t7 D.str a0),.im (D.str x6.1),.im (D.str x6.2.1),.im (D.str x6.2.2)]) rfl (of_decide_eq_true rfl) (abO (XF:=XFT) x6.1) (fun _=>rfl))) (fun _=>rfl))) (fun v7=>(afq (aa0 (Q9 (g:=fun (v:Bool)=>v) (G8 (pa_cons (j7 rfl) pa_nil) (w6 (ps:=[.im (D.str x6.2.1)]) (E1:=fun u=>[.im (t7 D.str a0),.im (D.str x6.1),.im (D.str x6.2.1),.im (D.str x6.2.2)]) rfl (of_decide_eq_true rfl) (ae8 (XF:=XFT) x6.2.1) (fun _=>rfl))) (fun _=>rfl))) (fun v8=>(abh (f:=fun (v9:Bool)=>(!v9)) (ex:=fun v:Bool=>v) (ee:=fun _=>[.im (t7 D.str a0),.im (D.str x6.1),.im (D.str x6.2.1),.im (D.str x6.2.2)]) (aa0 (Q9 (g:=fun (v:Bool)=>v) (G8 (pa_cons (j7 rfl) pa_nil) (w6 (ps:=[.im (D.str x6.2.2)]) (E1:=fun u=>[.im (t7 D.str a0),.im (D.str x6.1),.im (D.str x6.2.1),.im (D.str x6.2.2)]) rfl (of_decide_eq_true rfl) (abO (XF:=XFT) x6.2.2) (fun _=>rfl))) (fun _=>rfl))) (fun _=>rfl) (fun _=>rfl))) (fun _=>rfl))) (fun _=>rfl)) (fun v11=>(S7 rfl (akA rfl rfl)))
 (fun v11=>(s_end (akz rfl)))))) (fun _=>rfl))) (fun s12=>(S7 rfl rfl)) (fun _ _ _ h=>h))))))
def Z7 (a0:G6) (a1:(List Str)):Option ((List (Int×Str×Int))):=PR.o ((PR.opt (abD a1)).bind fun v1=>if (!v1)=true then PR.bad else
 ((((PR.opt (acV a1)).bind fun v2=>(PR.opt (decC (t7 (eL3 D.str)) (t7 (t7 D.str) v2)))).bind fun v3=>(PR.opt (lcP (fun (x4:(Str×Str×Str))=>(some true)) (fun x4=>(((PR.opt (intP x4.1)).bind fun v5=>((PR.opt (intP x4.2.2)).bind fun v7=>PR.ok (v5,v7))).bind fun v8=>PR.ok (v8.1,x4.2.1,v8.2)).o) v3 0))).bind fun v10=>(PR.ok v10)))
theorem afY (o:G6):((aay o).lookup ("weights_of":Str)).isNone=true:=by kernel_rfl
theorem ae9 {XF:XIf} (a0:G6) (a1:(List Str)):RV (Z0 [.ow true (G5 a0),.im (t7 D.str a1)]) (fun v:(List (Int×Str×Int))=>(X.im (j5 (Q7 D.int D.str D.int) v))) (fun v:(List (Int×Str×Int))=>[.ow true (G5 a0),.im (t7 D.str a1)]) XF (PR.opt (Z7 a0 a1)):=by
  unfold Z7
  refine T7 (N:=5) (n:=2) (ds:=abN) (ps:=[.ow true (G5 a0),.im (t7 D.str a1)]) (ex:=(fun v:(List (Int×Str×Int))=>(X.im (j5 (Q7 D.int D.str D.int) v)))) (pe:=(fun v:(List (Int×Str×Int))=>[.ow true (G5 a0),.im (t7 D.str a1)])) ⟨rfl,Nat.le_of_ble_eq_true rfl,rfl⟩ rfl ?_
  exact (O8 (U8 (aa0 (Q9 (g:=fun (v:Bool)=>v) (G8 (pa_cons (j7 rfl) pa_nil) (w6 (ps:=[.im (t7 D.str a1)]) (E1:=fun u=>[.ow true (G5 a0),.im (t7 D.str a1),.no,.no,.no]) rfl (of_decide_eq_true rfl) (aiQ (XF:=XFT) a1) (fun _=>rfl))) (fun _=>rfl))) (fun v1=>trivial)
 (fun v1=>(R3 (aas (aar (N6 (xf:=fun (v9:(List (Int×Str×Int)))=>[]) (ac5 (l:=fun (v3:(List (Str×Str×Str)))=>v3.map (eL3 D.str)) (acz (l:=fun (v:(List (Str×Str×Str)))=>v.map (eL3 D.str)) (acA (e:=(t7 (eL3 D.str))) (g:=fun (v2:(List (List Str)))=>(t7 (t7 D.str) v2)) (G8 (pa_cons (j7 rfl) pa_nil) (w6 (ps:=[.im (t7 D.str a1)]) (E1:=fun u=>[.ow true (G5 a0),.im (t7 D.str a1),.no,.no,.no]) rfl (of_decide_eq_true rfl) (ahV (XF:=XFT) a1) (fun _=>rfl)))) (fun v=>rfl)) fun v3=>(lce (e:=(eL3 D.str)) (e':=(Q7 D.int D.str D.int)) (B:=[.ow true (G5 a0),.im (t7 D.str a1),.no,.no,.no]) (Bx:=fun (x4:(Str×Str×Str))=>[.ow true (G5 a0),.im (t7 D.str a1),.im (D.str x4.1),.im (D.str x4.2.1),.im (D.str x4.2.2)]) (XF:=fun _ _=>True) rfl rfl (fun _=>rfl) (fun x4=>(X4 (ex:=fun b:Bool=>b) (v:=true) abR rfl)) (fun x4=>(aeu (XI':=fun _ _=>True) (abh (f:=fun (v8:(Int)×(Int))=>(v8.1,x4.2.1,v8.2)) (ex:=fun v:(Int×Str×Int)=>(X.im (Q7 D.int D.str D.int v))) (ee:=fun _=>[.ow true (G5 a0),.im (t7 D.str a1),.im (D.str x4.1),.im (D.str x4.2.1),.im (D.str x4.2.2)]) (ady (df:=fun (v:(Int)×(Int))=>[(D.int v.1),(D.str x4.2.1),(D.int v.2)]) (ahd (exs:=fun (p:(Int)×(Int))=>[(X.im (D.int p.1)),(X.im (D.str x4.2.1)),(X.im (D.int p.2))]) (ees:=fun (p:(Int)×(Int))=>[.ow true (G5 a0),.im (t7 D.str a1),.im (D.str x4.1),.im (D.str x4.2.1),.im (D.str x4.2.2)]) (pk:=fun v w=>(v,w)) (V7 (pa_cons (j7 rfl) pa_nil) (cc rfl (alC x4.1))) (fun v5=>(U4 (j7 rfl) (N6 (xf:=fun (v6:Int)=>[]) (V7 (pa_cons (j7 rfl) pa_nil) (cc rfl (alC x4.2.2))) (fun v6=>pa_nil)))) (fun _ _=>rfl) (fun _ _=>rfl)) (fun _=>rfl) (fun _=>aiI)) (fun _=>rfl) (fun _=>rfl)))) (fun _=>rfl) (fun _=>rfl) rfl)) (fun v9=>pa_nil)) fun v10=>(ccV (ex:=(fun z:(List (Int×Str×Int))=>(X.im (j5 (Q7 D.int D.str D.int) z)))) (v:=v10) rfl (adR (Q7 D.int D.str D.int) v10))) (fun _=>rfl))))))
mutual
def acu:Nat→G6→Str→Str→Option (D×G6)
  | 0,_,_,_=>none
  | n+1,a0,a1,a2=>PR.o (((PR.opt (W3 a1)).bind fun v1=>(if (!v1)=true then (PR.ok true) else ((PR.opt (aaN a2)).bind fun v2=>PR.ok (!v2)))).bind fun v3=>if v3=true then PR.bad else
 ((PR.opt (Y8 n a0)).bind fun v4=>
 ((PR.opt (Y8 n v4.2)).bind fun v5=>
 (((PR.opt (acD a2)).bind fun v6=>((PR.opt (intP a1)).bind fun v8=>PR.ok (v6,v8))).bind fun v9=>PR.ok ((D.tup [(D.str ("split":Str)),(j5 D.str v9.1),(D.int v9.2),v4.1,v5.1]),v5.2)))))
def aau:Nat→G6→(List Str)→Option ((List (Str×D))×G6)
  | 0,_,_=>none
  | n+1,a0,a1=>PR.o ((if (decide ((a1.length:Int)=0))=true then (PR.ok true) else (((PR.opt (lcP (fun (x2:Str)=>(some true)) (fun x2=>(PR.opt (acd x2)).o) a1 0)).bind fun v5=>(PR.ok (v5.all id))).bind fun v6=>PR.ok (!v6))).bind fun v7=>if v7=true then PR.bad else
 (((PR.opt (lcS (fun (x9:Str) (s11:G6)=>(some true)) (fun x9 s11=>((PR.opt (Y8 n s11)).bind fun v13=>PR.ok ((x9,v13.1),v13.2)).o) a1 a0 0)).bind fun v15=>(PR.ok (v15.1,v15.2))).bind fun v16=>PR.ok (v16.1,v16.2)))
def Y8:Nat→G6→Option (D×G6)
  | 0,_=>none
  | n+1,a0=>PR.o (if (decide (a0.2=(a0.1.length:Int)))=true then PR.bad else
 (((PR.opt (atI a0.1 a0.2)).bind fun v1=>(PR.opt (splitP v1 (" ":Str)))).bind fun v2=>
 (if v2.length≤10000 then (mcase [.lit ("dead":Str)] v2 (fun _=>(PR.ok ((D.tup [(D.str ("dead":Str))]),(a0.1,(a0.2+1)))))
 (mcaseS [.lit ("shut":Str)] v2 (fun _ v9=>((PR.opt (Z7 (a0.1,(a0.2+1)) v9)).bind fun v11=>PR.ok ((D.tup [(D.str ("shut":Str)),(j5 (Q7 D.int D.str D.int) v11)]),(a0.1,(a0.2+1)))))
 (mcaseS [.lit ("next":Str)] v2 (fun _ v6=>((PR.opt (aau n (a0.1,(a0.2+1)) v6)).bind fun v8=>PR.ok ((D.tup [(D.str ("next":Str)),(j5 (ePr D.str eD) v8.1)]),v8.2)))
 (mcase [.lit ("split":Str),.cap 4,.cap 5] v2 (fun cs=>matchL2 cs fun v3 v4=>((PR.opt (acu n (a0.1,(a0.2+1)) v3 v4)).bind fun v5=>PR.ok (v5.1,v5.2)))
 PR.bad)))) else PR.bad)))
end
mutual
theorem abn {XF:XIf}:∀ (n:Nat) (a0:G6) (a1:Str) (a2:Str),RV (ahU n [.ow true (G5 a0),.im (D.str a1),.im (D.str a2)]) (fun v:D×G6=>(X.im v.1)) (fun v:D×G6=>[.ow true (G5 v.2),.im (D.str a1),.im (D.str a2)]) XF (PR.opt (acu n a0 a1 a2))
  | 0,_,_,_=>trivial
  | n+1,a0,a1,a2=>by
    have IH:=fun {XF:XIf}=>abn (XF:=XF) n
    have IH_Reader_branches_of:=fun {XF:XIf}=>aaQ (XF:=XF) n
    have IH_Reader_node:=fun {XF:XIf}=>abU (XF:=XF) n
    show RV (fnM 5 3 (aap (j9 n)) [.ow true (G5 a0),.im (D.str a1),.im (D.str a2)]) _ _ _ _
    refine T7 (N:=5) (n:=3) (ds:=aap (j9 n)) (ps:=[.ow true (G5 a0),.im (D.str a1),.im (D.str a2)]) (ex:=(fun v:D×G6=>(X.im v.1))) (pe:=(fun v:D×G6=>[.ow true (G5 v.2),.im (D.str a1),.im (D.str a2)])) ⟨rfl,Nat.le_of_ble_eq_true rfl,rfl⟩ rfl ?_
    exact (O8 (U8 (afq (aa0 (Q9 (g:=fun (v:Bool)=>v) (G8 (pa_cons (j7 rfl) pa_nil) (w6 (ps:=[.im (D.str a1)]) (E1:=fun u=>[.ow true (G5 a0),.im (D.str a1),.im (D.str a2),.no,.no]) rfl (of_decide_eq_true rfl) (abO (XF:=XFT) a1) (fun _=>rfl))) (fun _=>rfl))) (fun v1=>(abh (f:=fun (v2:Bool)=>(!v2)) (ex:=fun v:Bool=>v) (ee:=fun _=>[.ow true (G5 a0),.im (D.str a1),.im (D.str a2),.no,.no]) (aa0 (Q9 (g:=fun (v:Bool)=>v) (G8 (pa_cons (j7 rfl) pa_nil) (w6 (ps:=[.im (D.str a2)]) (E1:=fun u=>[.ow true (G5 a0),.im (D.str a1),.im (D.str a2),.no,.no]) rfl (of_decide_eq_true rfl) (ag1 (XF:=XFT) a2) (fun _=>rfl))) (fun _=>rfl))) (fun _=>rfl) (fun _=>rfl))) (fun _=>rfl)) (fun v3=>trivial)
 (fun v3=>(R3 (s_asg (E1:=fun (v4:D×G6)=>[.ow true (G5 v4.2),.im (D.str a1),.im (D.str a2),.im v4.1,.no]) (ab6 (M6 rfl) rfl (ahl n) (aco a0) pa_nil (w6 (ps:=[.ow true (G5 a0)]) (E1:=fun u:D×G6=>[.ow true (G5 u.2),.im (D.str a1),.im (D.str a2),.no,.no]) rfl (of_decide_eq_true rfl) (IH_Reader_node (XF:=XFT) a0) (fun _=>rfl))) (fun _=>rfl) fun v4=>(s_asg (E1:=fun (v5:D×G6)=>[.ow true (G5 v5.2),.im (D.str a1),.im (D.str a2),.im v4.1,.im v5.1]) (ab6 (M6 rfl) rfl (ahl n) (aco v4.2) pa_nil (w6 (ps:=[.ow true (G5 v4.2)]) (E1:=fun u:D×G6=>[.ow true (G5 u.2),.im (D.str a1),.im (D.str a2),.im v4.1,.no]) rfl (of_decide_eq_true rfl) (IH_Reader_node (XF:=XFT) v4.2) (fun _=>rfl))) (fun _=>rfl) fun v5=>(s_ret (ady (df:=fun (v:((List Str))×(Int))=>[(D.str ("split":Str)),(j5 D.str v.1),(D.int v.2),v4.1,v5.1]) (U4 rfl (ahd (exs:=fun (p:((List Str))×(Int))=>[(X.im (j5 D.str p.1)),(X.im (D.int p.2)),(X.im v4.1),(X.im v5.1)]) (ees:=fun (p:((List Str))×(Int))=>[.ow true (G5 v5.2),.im (D.str a1),.im (D.str a2),.im v4.1,.im v5.1]) (pk:=fun v w=>(v,w)) (G8 (pa_cons (j7 rfl) pa_nil) (w6 (ps:=[.im (D.str a2)]) (E1:=fun u=>[.ow true (G5 v5.2),.im (D.str a1),.im (D.str a2),.im v4.1,.im v5.1]) rfl (of_decide_eq_true rfl) (akq (XF:=XFT) a2) (fun _=>rfl))) (fun v6=>(N6 (xf:=fun (v7:Int)=>[(X.im v4.1),(X.im v5.1)]) (V7 (pa_cons (j7 rfl) pa_nil) (cc rfl (alC a1))) (fun v7=>(pa_cons (j7 rfl) (pa_cons (j7 rfl) pa_nil))))) (fun _ _=>rfl) (fun _ _=>rfl))) (fun _=>rfl) (fun _=>aiJ)) (fun _=>by exact rfl))))))))
theorem aaQ {XF:XIf}:∀ (n:Nat) (a0:G6) (a1:(List Str)),RV (afz n [.ow true (G5 a0),.im (t7 D.str a1)]) (fun v:(List (Str×D))×G6=>(X.im (j5 (ePr D.str eD) v.1))) (fun v:(List (Str×D))×G6=>[.ow true (G5 v.2),.im (t7 D.str a1)]) XF (PR.opt (aau n a0 a1))
  | 0,_,_=>trivial
  | n+1,a0,a1=>by
    have IH:=fun {XF:XIf}=>aaQ (XF:=XF) n
    have IH_Reader_split_of:=fun {XF:XIf}=>abn (XF:=XF) n
    have IH_Reader_node:=fun {XF:XIf}=>abU (XF:=XF) n
    show RV (fnM 3 2 (X6 (j9 n)) [.ow true (G5 a0),.im (t7 D.str a1)]) _ _ _ _
    refine T7 (N:=3) (n:=2) (ds:=X6 (j9 n)) (ps:=[.ow true (G5 a0),.im (t7 D.str a1)]) (ex:=(fun v:(List (Str×D))×G6=>(X.im (j5 (ePr D.str eD) v.1)))) (pe:=(fun v:(List (Str×D))×G6=>[.ow true (G5 v.2),.im (t7 D.str a1)])) ⟨rfl,Nat.le_of_ble_eq_true rfl,rfl⟩ rfl ?_
    exact (O8 (U8 (amR (T9 (S8 (abb (pa_cons (j7 rfl) pa_nil) rfl (adQ D.str a1)) rfl rfl rfl (aab (a1.length:Int) 0)) rfl) (abh (f:=fun (v6:Bool)=>(!v6)) (ex:=fun v:Bool=>v) (ee:=fun _=>[.ow true (G5 a0),.im (t7 D.str a1),.no]) (aa0 (Q9 (g:=fun (v:Bool)=>v) (aar (N6 (xf:=fun (v4:(List Bool))=>[]) (adM (adL (l:=a1.map D.str) (j7 rfl) rfl) (lce (e:=D.str) (e':=D.bl) (B:=[.ow true (G5 a0),.im (t7 D.str a1),.no]) (Bx:=fun (x2:Str)=>[.ow true (G5 a0),.im (t7 D.str a1),.im (D.str x2)]) (XF:=fun _ _=>True) rfl rfl (fun _=>rfl) (fun x2=>(X4 (ex:=fun b:Bool=>b) (v:=true) abR rfl)) (fun x2=>(aeu (XI':=fun _ _=>True) (G8 (pa_cons (j7 rfl) pa_nil) (w6 (ps:=[.im (D.str x2)]) (E1:=fun u=>[.ow true (G5 a0),.im (t7 D.str a1),.im (D.str x2)]) rfl (of_decide_eq_true rfl) (ae8 (XF:=XFT) x2) (fun _=>rfl))))) (fun _=>rfl) (fun _=>rfl) rfl)) (fun v4=>pa_nil)) fun v5=>(ccV (ex:=(fun z:Bool=>(X.im (D.bl z)))) (v:=(v5.all id)) rfl (akC v5))) (fun _=>rfl))) (fun _=>rfl) (fun _=>rfl)) rfl) (fun v7=>trivial)
 (fun v7=>(R3 (s_ret (aar (N6 (xf:=fun (v14:(List (Str×D))×G6)=>[]) (adM (adL (l:=a1.map D.str) (j7 rfl) rfl) (lceS (e:=D.str) (e':=(ePr D.str eD)) (ex:=fun y:(Str×D)=>(X.im (ePr D.str eD y))) (B:=fun (s11:G6)=>[.ow true (G5 s11),.im (t7 D.str a1),.no]) (E1:=fun (s11:G6)=>[.ow true (G5 s11),.im (t7 D.str a1),.no]) (Bx:=fun (x9:Str) (s11:G6)=>[.ow true (G5 s11),.im (t7 D.str a1),.im (D.str x9)]) (s0:=a0) (XF:=fun _ _=>True) rfl rfl (fun _ _=>rfl) (fun x9 s11=>(X4 (ex:=fun b:Bool=>b) (v:=true) abR rfl)) (fun x9 s11=>(aeu (XI':=fun _ _=>True) (abh (f:=fun (v13:D×G6)=>((x9,v13.1),v13.2)) (ex:=fun v:(Str×D)×G6=>(X.im (ePr D.str eD v.1))) (ee:=fun v:(Str×D)×G6=>[.ow true (G5 v.2),.im (t7 D.str a1),.im (D.str x9)]) (ady (df:=fun (v:D×G6)=>[(D.str x9),v.1]) (U4 (j7 rfl) (N6 (xf:=fun (v12:D×G6)=>[]) (ab6 (M6 rfl) rfl (ahl n) (aco s11) pa_nil (w6 (ps:=[.ow true (G5 s11)]) (E1:=fun u:D×G6=>[.ow true (G5 u.2),.im (t7 D.str a1),.im (D.str x9)]) rfl (of_decide_eq_true rfl) (IH_Reader_node (XF:=XFT) s11) (fun _=>rfl))) (fun v12=>pa_nil))) (fun _=>rfl) (fun _=>ahg)) (fun _=>rfl) (fun _=>rfl)))) (fun _=>rfl) (fun _ _=>rfl) (fun _=>rfl))) (fun v14=>pa_nil)) fun v15=>(ccVE (ex:=fun z:(List (Str×D))×G6=>(X.im (j5 (ePr D.str eD) z.1))) (ee:=fun z:(List (Str×D))×G6=>[.ow true (G5 z.2),.im (t7 D.str a1),.no]) (v:=(v15.1,v15.2)) rfl (adR (ePr D.str eD) v15.1) rfl)) (fun _=>by exact rfl))))))
theorem abU {XF:XIf}:∀ (n:Nat) (a0:G6),RV (am3 n [.ow true (G5 a0)]) (fun v:D×G6=>(X.im v.1)) (fun v:D×G6=>[.ow true (G5 v.2)]) XF (PR.opt (Y8 n a0))
  | 0,_=>trivial
  | n+1,a0=>by
    have IH:=fun {XF:XIf}=>abU (XF:=XF) n
    have IH_Reader_split_of:=fun {XF:XIf}=>abn (XF:=XF) n
    have IH_Reader_branches_of:=fun {XF:XIf}=>aaQ (XF:=XF) n
    show RV (fnM 6 1 (abw (j9 n)) [.ow true (G5 a0)]) _ _ _ _
    refine T7 (N:=6) (n:=1) (ds:=abw (j9 n)) (ps:=[.ow true (G5 a0)]) (ex:=(fun v:D×G6=>(X.im v.1))) (pe:=(fun v:D×G6=>[.ow true (G5 v.2)])) ⟨rfl,Nat.le_of_ble_eq_true rfl,rfl⟩ rfl ?_
    exact (O8 (aaO (T9 (S8 (ahe (M6 rfl) rfl (by simp) (abT a0)) (abb (pa_cons (ahe (M6 rfl) rfl (by simp) (ac8 a0)) pa_nil) rfl (adQ D.str a0.1)) rfl rfl (aab a0.2 (a0.1.length:Int))) rfl) trivial
 (R3 (s_asg (E1:=fun (v2:(List Str))=>[.ow true (G5 a0),.im (t7 D.str v2),.no,.no,.no,.no]) (T5 (df:=fun (v:(List Str))=>(t7 D.str v)) (ap9 (K7 (ahe (M6 rfl) rfl (by simp) (ac8 a0)) (ahe (M6 rfl) rfl (by simp) (abT a0)) (oc rfl rfl (abS D.str a0.1 a0.2))) (fun _=>rfl) (fun v1=>rfl) fun v1=>(oc rfl rfl (ahi v1 (" ":Str)))) (fun _=>rfl)) (fun _=>rfl) fun v2=>(aqY (fs:=aay a0) (fs':=aay (a0.1,(a0.2+1))) (E1:=[.ow true (G5 (a0.1,(a0.2+1))),.im (t7 D.str v2),.no,.no,.no,.no]) rfl (abT a0) (by simp) rfl (by kernel_rfl) rfl (aqa (ws:=v2) (j7 rfl) (aq0 (fun _=>(O2 (S7 (aeL (ds:=[(D.str ("dead":Str))]) (pa_cons rfl pa_nil) rfl ad5) rfl)))
 (aq1 (fun _ v9=>(aqR (E1:=[.ow true (G5 (a0.1,(a0.2+1))),.im (t7 D.str v2),.im (t7 D.str v9),.no,.no,.no]) rfl (O2 (s_ret (ady (df:=fun (v:(List (Int×Str×Int)))=>[(D.str ("shut":Str)),(j5 (Q7 D.int D.str D.int) v)]) (U4 rfl (N6 (xf:=fun (v10:(List (Int×Str×Int)))=>[]) (ab6 (M6 rfl) rfl aei (afY (a0.1,(a0.2+1))) (pa_cons (j7 rfl) pa_nil) (w6 (ps:=[.ow true (G5 (a0.1,(a0.2+1))),.im (t7 D.str v9)]) (E1:=fun u=>[.ow true (G5 (a0.1,(a0.2+1))),.im (t7 D.str v2),.im (t7 D.str v9),.no,.no,.no]) rfl (of_decide_eq_true rfl) (ae9 (XF:=XFT) (a0.1,(a0.2+1)) v9) (fun _=>rfl))) (fun v10=>pa_nil))) (fun _=>rfl) (fun _=>ahg)) (fun _=>by exact rfl)))))
 (aq1 (fun _ v6=>(aqR (E1:=[.ow true (G5 (a0.1,(a0.2+1))),.im (t7 D.str v2),.no,.im (t7 D.str v6),.no,.no]) rfl (O2 (s_ret (ady (df:=fun (v:(List (Str×D))×G6)=>[(D.str ("next":Str)),(j5 (ePr D.str eD) v.1)]) (U4 rfl (N6 (xf:=fun (v7:(List (Str×D))×G6)=>[]) (ab6 (M6 rfl) rfl (ajw n) (afA (a0.1,(a0.2+1))) (pa_cons (j7 rfl) pa_nil) (w6 (ps:=[.ow true (G5 (a0.1,(a0.2+1))),.im (t7 D.str v6)]) (E1:=fun u:(List (Str×D))×G6=>[.ow true (G5 u.2),.im (t7 D.str v2),.no,.im (t7 D.str v6),.no,.no]) rfl (of_decide_eq_true rfl) (IH_Reader_branches_of (XF:=XFT) (a0.1,(a0.2+1)) v6) (fun _=>rfl))) (fun v7=>pa_nil))) (fun _=>rfl) (fun _=>ahg)) (fun _=>by exact rfl)))))
 (aq0 (ar0 fun v3 v4=>(O2 (s_ret (ab6 (M6 rfl) rfl (amC n) (ag3 (a0.1,(a0.2+1))) (pa_cons (j7 rfl) (pa_cons (j7 rfl) pa_nil)) (w6 (ps:=[.ow true (G5 (a0.1,(a0.2+1))),.im (D.str v3),.im (D.str v4)]) (E1:=fun u:D×G6=>[.ow true (G5 u.2),.im (t7 D.str v2),.no,.no,.im (D.str v3),.im (D.str v4)]) rfl (of_decide_eq_true rfl) (IH_Reader_split_of (XF:=XFT) (a0.1,(a0.2+1)) v3 v4) (fun _=>rfl))) (fun _=>by exact rfl))))
 (arZ trivial)))))))))))
end
def ace (a0:Str):Option (D):=PR.o (((PR.opt (splitP a0 ("\n":Str))).bind fun v2=>(PR.opt (abf v2))).bind fun v3=>
 ((PR.opt (Y8 270 v3)).bind fun v4=>
 (if (decide (v4.2.2 < (v4.2.1.length:Int)))=true then PR.bad else
 (PR.ok v4.1))))
theorem ajx {XF:XIf} (a0:Str):RV (ac4 [.im (D.str a0)]) (fun v:D=>(X.im v)) (fun v:D=>[.im (D.str a0)]) XF (PR.opt (ace a0)):=by
  unfold ace
  refine T7 (N:=3) (n:=1) (ds:=aet) (ps:=[.im (D.str a0)]) (ex:=(fun v:D=>(X.im v))) (pe:=(fun v:D=>[.im (D.str a0)])) ⟨rfl,Nat.le_of_ble_eq_true rfl,rfl⟩ rfl ?_
  exact (s_asg (E1:=fun (v3:G6)=>[.im (D.str a0),.ow false (G5 v3),.no]) (ao3 (N6 (xf:=fun (v1:(List Str))=>[]) (T5 (df:=fun (v:(List Str))=>(t7 D.str v)) (aec (j7 rfl) rfl rfl (oc rfl rfl (ahi a0 ("\n":Str)))) (fun _=>rfl)) (fun v1=>pa_nil)) fun v2=>(ao2 (ps:=[.im (t7 D.str v2)]) (E1:=fun _=>[.im (D.str a0),.no,.no]) rfl (of_decide_eq_true rfl) (afX (XF:=XFT) v2) (fun _=>rfl))) (fun _=>rfl) fun v3=>(s_asg (E1:=fun (v4:D×G6)=>[.im (D.str a0),.ow false (G5 v4.2),.im v4.1]) (ab6 (M6 rfl) rfl (ahl 270) (aco v3) pa_nil (w6 (ps:=[.ow true (G5 v3)]) (E1:=fun u:D×G6=>[.im (D.str a0),.ow false (G5 u.2),.no]) rfl (of_decide_eq_true rfl) (abU (XF:=XFT) 270 v3) (fun _=>rfl))) (fun _=>rfl) fun v4=>(O8 (aaO (T9 (S8 (ahe (M6 rfl) rfl (by simp) (abT v4.2)) (abb (pa_cons (ahe (M6 rfl) rfl (by simp) (ac8 v4.2)) pa_nil) rfl (adQ D.str v4.2.1)) rfl rfl rfl) rfl) trivial
 (R3 (S7 (j7 rfl) rfl))))))
def akE (a0:List Int):Option (Bool):=PR.o (((PR.opt (rg1 2)).bind fun v1=>(foldP (fun (x3:Int) (s2:(List D))=>((PR.opt (acB a0 x3)).bind fun v4=>
 ((PR.opt (ab8 v4 1 5)).bind fun v5=>
 (((PR.opt (J8 v5.2 30)).bind fun v8=>(PR.opt (aac 40 v8.2 v5.1 [] [v8.1]))).bind fun v9=>
 ((((PR.opt (J8 v9.2.1 8)).bind fun v11=>(PR.ok ((decide (v11.1=0)),v11.2))).bind fun v12=>if v12.1=true then (((PR.opt (J8 v12.2 101)).bind fun v14=>(PR.opt (ab9 v14.2 v5.1 v9.1 v14.1))).bind fun v15=>
 (PR.ok (v15.1,v15.2))) else
 (PR.ok (v9.1,v12.2))).bind fun s10:D×(List Int)=>
 ((PR.opt (appP s2 s10.1)).bind fun v16=>(PR.ok v16))))))) v1 [])).bind fun s17:(List D)=>
 (thenO (ρ:=(Bool)) (((PR.opt (atI s17 0)).bind fun v18=>(((PR.opt (atI s17 1)).bind fun v19=>((PR.opt (atI s17 0)).bind fun v21=>PR.ok (v19,v21))).bind fun v22=>PR.ok (v18,v22))).bind fun v23=>(forO (ρ:=(Bool)) (fun (x25:D) (s24:Unit)=>(((PR.opt (aca x25)).bind fun v26=>(PR.opt (joinP ("\n":Str) v26))).bind fun v27=>
 ((PR.opt (acb x25)).bind fun v28=>
 (((PR.opt ((D.tyN (D.str v28)).bind fun t=>L2.kitB t "str")).bind fun v29=>(if (!v29)=true then (PR.ok true) else (PR.ok (!decide (v28=v27))))).bind fun v30=>if v30=true then (PR.ok (.rt false)) else
 (((PR.opt (ace v27)).bind fun v32=>(PR.opt (V4 220 v32 x25))).bind fun v33=>if (!v33)=true then (PR.ok (.rt false)) else
 (PR.ok (.nx ()))))))) [v23.1,v23.2.1,v23.2.2] ())) (fun s34:Unit=>
 (PR.ok true)) (fun r=>r)))
theorem aqe {XF:XIf} (a0:List Int):RV (akx [.im (eScr a0)]) (fun v:Bool=>(X.im (D.bl v))) (fun v:Bool=>[.im (eScr a0)]) XF (PR.opt (akE a0)):=by
  unfold akE
  refine T7 (N:=8) (n:=1) (ds:=anx) (ps:=[.im (eScr a0)]) (ex:=(fun v:Bool=>(X.im (D.bl v)))) (pe:=(fun v:Bool=>[.im (eScr a0)])) ⟨rfl,Nat.le_of_ble_eq_true rfl,rfl⟩ rfl ?_
  exact (adN (E1:=[.im (eScr a0),.ow false (oLst eD []),.no,.no,.no,.no,.no,.no]) (aeM (ds:=[]) pa_nil rfl aeN) rfl (abi (J:=fun (s17:(List D))=>[.im (eScr a0),.ow false (oLst eD s17),.no,.no,.no,.no,.no,.no]) (abJ (ld:=fun (v1:List Int)=>v1.map D.int) (agP (pa_cons rfl pa_nil) rfl) fun v1=>(fore (e:=D.int) (L:=fun (s2:(List D))=>[.im (eScr a0),.ow false (oLst eD s2),.no,.no,.no,.no,.no,.no]) (G:=fun (x3:Int) (s2:(List D))=>[.im (eScr a0),.ow false (oLst eD s2),.im (D.int x3),.no,.no,.no,.no,.no]) (J:=fun (s17:(List D))=>[.im (eScr a0),.ow false (oLst eD s17),.no,.no,.no,.no,.no,.no]) (s0:=[]) rfl (fun _ _=>rfl) (fun x3 s2=>(adk (s_asg (E1:=fun (v4:(List Int))=>[.im (eScr a0),.ow false (oLst eD s2),.im (D.int x3),.no,.ow false (oLst D.int v4),.no,.no,.no]) (G8 (pa_cons (j7 rfl) (pa_cons (j7 rfl) pa_nil)) (w6 (ps:=[.im (eScr a0),.im (D.int x3)]) (E1:=fun u=>[.im (eScr a0),.ow false (oLst eD s2),.im (D.int x3),.no,.no,.no,.no,.no]) rfl (of_decide_eq_true rfl) (ajt (XF:=XFT) a0 x3) (fun _=>rfl))) (fun _=>rfl) fun v4=>(s_asg (E1:=fun (v5:(List Str)×(List Int))=>[.im (eScr a0),.ow false (oLst eD s2),.im (D.int x3),.no,.ow false (oLst D.int v5.2),.im (j5 D.str v5.1),.no,.no]) (T5 (df:=fun (v:(List Str)×(List Int))=>(j5 D.str v.1)) (G8 (pa_cons (M6 rfl) (pa_cons rfl (pa_cons rfl pa_nil))) (w6 (ps:=[.ow true (oLst D.int v4),.im (D.int 1),.im (D.int 5)]) (E1:=fun u:(List Str)×(List Int)=>[.im (eScr a0),.ow false (oLst eD s2),.im (D.int x3),.no,.ow false (oLst D.int u.2),.no,.no,.no]) rfl (of_decide_eq_true rfl) (aif (XF:=XFT) v4 1 5) (fun _=>rfl))) (fun _=>rfl)) (fun _=>rfl) fun v5=>(s_asg (E1:=fun (v9:D×(List Int)×(List Int))=>[.im (eScr a0),.ow false (oLst eD s2),.im (D.int x3),.im v9.1,.ow false (oLst D.int v9.2.1),.im (j5 D.str v5.1),.no,.no]) (T5 (df:=fun (v:D×(List Int)×(List Int))=>v.1) (aaK (U4 (M6 rfl) (U4 (j7 rfl) (U4 (aeL (ds:=[]) pa_nil rfl aeN) (N6 (xf:=fun (v7:Int×(List Int))=>[]) (afO (df:=fun (v:Int×(List Int))=>[(D.int v.1)]) (N6 (xf:=fun (v6:Int×(List Int))=>[]) (G8 (pa_cons (M6 rfl) (pa_cons rfl pa_nil)) (w6 (ps:=[.ow true (oLst D.int v5.2),.im (D.int 30)]) (E1:=fun u:Int×(List Int)=>[.im (eScr a0),.ow false (oLst eD s2),.im (D.int x3),.no,.ow false (oLst D.int u.2),.im (j5 D.str v5.1),.no,.no]) rfl (of_decide_eq_true rfl) (K6 (XF:=XFT) v5.2 30) (fun _=>rfl))) (fun v6=>pa_nil)) (fun _=>rfl) (fun _=>ad5)) (fun v7=>pa_nil))))) fun v8=>(w6 (ps:=[.ow true (oLst D.int v8.2),.im (j5 D.str v5.1),.im (j5 D.str []),.ow true (oLst D.int [v8.1])]) (E1:=fun u:D×(List Int)×(List Int)=>[.im (eScr a0),.ow false (oLst eD s2),.im (D.int x3),.no,.ow false (oLst D.int u.2.1),.im (j5 D.str v5.1),.no,.no]) rfl (of_decide_eq_true rfl) (aeB (XF:=XFT) 40 v8.2 v5.1 [] [v8.1]) (fun _=>rfl))) (fun _=>rfl)) (fun _=>rfl) fun v9=>(abi (J:=fun (s10:D×(List Int))=>[.im (eScr a0),.ow false (oLst eD s2),.im (D.int x3),.im s10.1,.ow false (oLst D.int s10.2),.im (j5 D.str v5.1),.no,.no]) (U8 (Q9 (g:=fun (v:Bool×(List Int))=>v.1) (O9 (G8 (pa_cons (M6 rfl) (pa_cons rfl pa_nil)) (w6 (ps:=[.ow true (oLst D.int v9.2.1),.im (D.int 8)]) (E1:=fun u:Int×(List Int)=>[.im (eScr a0),.ow false (oLst eD s2),.im (D.int x3),.im v9.1,.ow false (oLst D.int u.2),.im (j5 D.str v5.1),.no,.no]) rfl (of_decide_eq_true rfl) (K6 (XF:=XFT) v9.2.1 8) (fun _=>rfl))) (fun v11=>rfl) fun v11=>(ocVE (ex:=fun z:Bool×(List Int)=>(X.im (D.bl z.1))) (ee:=fun z:Bool×(List Int)=>[.im (eScr a0),.ow false (oLst eD s2),.im (D.int x3),.im v9.1,.ow false (oLst D.int z.2),.im (j5 D.str v5.1),.no,.no]) (v:=((decide (v11.1=0)),v11.2)) rfl rfl (aab v11.1 0) rfl)) (fun _=>rfl)) (fun v12=>(X8 (s_asg (E1:=fun (v15:D×(List Int))=>[.im (eScr a0),.ow false (oLst eD s2),.im (D.int x3),.im v15.1,.ow false (oLst D.int v15.2),.im (j5 D.str v5.1),.no,.no]) (T5 (df:=fun (v:D×(List Int))=>v.1) (aaK (U4 (M6 rfl) (U4 (j7 rfl) (U4 (j7 rfl) (N6 (xf:=fun (v13:Int×(List Int))=>[]) (T5 (df:=fun (v:Int×(List Int))=>(D.int v.1)) (G8 (pa_cons (M6 rfl) (pa_cons rfl pa_nil)) (w6 (ps:=[.ow true (oLst D.int v12.2),.im (D.int 101)]) (E1:=fun u:Int×(List Int)=>[.im (eScr a0),.ow false (oLst eD s2),.im (D.int x3),.im v9.1,.ow false (oLst D.int u.2),.im (j5 D.str v5.1),.no,.no]) rfl (of_decide_eq_true rfl) (K6 (XF:=XFT) v12.2 101) (fun _=>rfl))) (fun _=>rfl)) (fun v13=>pa_nil))))) fun v14=>(w6 (ps:=[.ow true (oLst D.int v14.2),.im (j5 D.str v5.1),.im v9.1,.im (D.int v14.1)]) (E1:=fun u:D×(List Int)=>[.im (eScr a0),.ow false (oLst eD s2),.im (D.int x3),.im v9.1,.ow false (oLst D.int u.2),.im (j5 D.str v5.1),.no,.no]) rfl (of_decide_eq_true rfl) (ahD (XF:=XFT) v14.2 v5.1 v9.1 v14.1) (fun _=>rfl))) (fun _=>rfl)) (fun _=>rfl) fun v15=>(s_end rfl))))
 (fun v12=>(s_end rfl))) fun s10=>(X8 (s_drop (afr (exd:=(fun z=>.non)) (oo:=(fun z=>(oLst eD z))) (E1:=fun z=>[.im (eScr a0),.ow false (oLst eD z),.im (D.int x3),.im s10.1,.ow false (oLst D.int s10.2),.im (j5 D.str v5.1),.no,.no]) rfl rfl (pa_cons (j7 rfl) pa_nil) rfl (adz eD s2 s10.1) (fun _=>rfl)) fun v16=>(s_end rfl))))))))) (fun _=>rfl))) fun s17=>(ahf (J:=fun (s34:Unit)=>[.im (eScr a0),.ow false (oLst eD s17),.no,.no,.no,.no,.no,.no]) (RT:=(fun v x e=>finR 1 [.im (eScr a0)] (.rt x e)=RE.ok ((fun v:Bool=>(X.im (D.bl v))) v) ((fun v:Bool=>[.im (eScr a0)]) v))) (abJ (ld:=fun (v23:(D)×((D)×(D)))=>[v23.1,v23.2.1,v23.2.2].map eD) (acz (l:=fun (v:(D)×((D)×(D)))=>[v.1,v.2.1,v.2.2].map eD) (afO (df:=fun (v:(D)×((D)×(D)))=>[v.1,v.2.1,v.2.2]) (ahd (exs:=fun (p:(D)×((D)×(D)))=>[(X.im p.1),(X.im p.2.1),(X.im p.2.2)]) (ees:=fun (p:(D)×((D)×(D)))=>[.im (eScr a0),.ow false (oLst eD s17),.no,.no,.no,.no,.no,.no]) (pk:=fun v w=>(v,w)) (K7 (M6 rfl) rfl (oc rfl rfl (abS eD s17 0))) (fun v18=>(ahd (exs:=fun (p:(D)×(D))=>[(X.im p.1),(X.im p.2)]) (ees:=fun (p:(D)×(D))=>[.im (eScr a0),.ow false (oLst eD s17),.no,.no,.no,.no,.no,.no]) (pk:=fun v w=>(v,w)) (K7 (M6 rfl) rfl (oc rfl rfl (abS eD s17 1))) (fun v19=>(N6 (xf:=fun (v20:D)=>[]) (K7 (M6 rfl) rfl (oc rfl rfl (abS eD s17 0))) (fun v20=>pa_nil))) (fun _ _=>rfl) (fun _ _=>rfl))) (fun _ _=>rfl) (fun _ _=>rfl)) (fun _=>rfl) (fun _=>aiI)) (fun v=>rfl)) fun v23=>(foreO (e:=eD) (L:=fun (s24:Unit)=>[.im (eScr a0),.ow false (oLst eD s17),.no,.no,.no,.no,.no,.no]) (G:=fun (x25:D) (s24:Unit)=>[.im (eScr a0),.ow false (oLst eD s17),.no,.im x25,.no,.no,.no,.no]) (J:=fun (s34:Unit)=>[.im (eScr a0),.ow false (oLst eD s17),.no,.no,.no,.no,.no,.no]) (RT:=(fun v x e=>finR 1 [.im (eScr a0)] (.rt x e)=RE.ok ((fun v:Bool=>(X.im (D.bl v))) v) ((fun v:Bool=>[.im (eScr a0)]) v))) (s0:=()) rfl (fun _ _=>rfl) (fun x25 s24=>(adk (s_asg (E1:=fun (v27:Str)=>[.im (eScr a0),.ow false (oLst eD s17),.no,.im x25,.no,.no,.im (D.str v27),.no]) (aed rfl rfl (G8 (pa_cons (j7 rfl) pa_nil) (w6 (ps:=[.im x25]) (E1:=fun u=>[.im (eScr a0),.ow false (oLst eD s17),.no,.im x25,.no,.no,.no,.no]) rfl (of_decide_eq_true rfl) (aju (XF:=XFT) x25) (fun _=>rfl))) fun v26=>(oc rfl rfl (acT ("\n":Str) v26))) (fun _=>rfl) fun v27=>(s_asg (E1:=fun (v28:Str)=>[.im (eScr a0),.ow false (oLst eD s17),.no,.im x25,.no,.no,.im (D.str v27),.im (D.str v28)]) (T5 (df:=fun (v:Str)=>(D.str v)) (G8 (pa_cons (j7 rfl) pa_nil) (w6 (ps:=[.im x25]) (E1:=fun u=>[.im (eScr a0),.ow false (oLst eD s17),.no,.im x25,.no,.no,.im (D.str v27),.no]) rfl (of_decide_eq_true rfl) (ajv (XF:=XFT) x25) (fun _=>rfl))) (fun _=>rfl)) (fun _=>rfl) fun v28=>(O8 (U8 (afq (aa0 (Q9 (g:=fun (v:Bool)=>v) (V7 (pa_cons (j7 rfl) (pa_cons rfl pa_nil)) (cc rfl (abA (D.str v28) "str"))) (fun _=>rfl))) (fun v29=>(rv_eq (T9 (S8 (j7 rfl) (j7 rfl) rfl rfl (aps v28 v27)) rfl) (anz (ex:=fun v:Bool=>v) (ee:=fun _=>[.im (eScr a0),.ow false (oLst eD s17),.no,.im x25,.no,.no,.im (D.str v27),.im (D.str v28)]) (v:=(!decide (v28=v27))) rfl rfl))) (fun _=>rfl)) (fun v30=>(O2 (S7 rfl (akA rfl rfl))))
 (fun v30=>(R3 (U8 (aa0 (Q9 (g:=fun (v:Bool)=>v) (aaK (N6 (xf:=fun (v31:D)=>[(X.im x25)]) (T5 (df:=fun (v:D)=>v) (G8 (pa_cons (j7 rfl) pa_nil) (w6 (ps:=[.im (D.str v27)]) (E1:=fun u=>[.im (eScr a0),.ow false (oLst eD s17),.no,.im x25,.no,.no,.im (D.str v27),.im (D.str v28)]) rfl (of_decide_eq_true rfl) (ajx (XF:=XFT) v27) (fun _=>rfl))) (fun _=>rfl)) (fun v31=>(pa_cons (j7 rfl) pa_nil))) fun v32=>(w6 (ps:=[.im v32,.im x25]) (E1:=fun u=>[.im (eScr a0),.ow false (oLst eD s17),.no,.im x25,.no,.no,.im (D.str v27),.im (D.str v28)]) rfl (of_decide_eq_true rfl) (afy (XF:=XFT) 220 v32 x25) (fun _=>rfl))) (fun _=>rfl))) (fun v33=>(S7 rfl (akA rfl rfl)))
 (fun v33=>(s_end (akz rfl)))))))))))) (fun _=>rfl))) (fun s34=>(S7 rfl rfl)) (fun _ _ _ h=>h))))
end Wk
namespace Wk
open PySem PySem.Spec PyProof.Rows L2 Dn Tn
def PO (n:Nat) (p:List Int):Prop:=∃ a b c:Int,p=[a,b,c]∧b.natAbs < 2 ^ 2000000∧0≤c∧c≤n
theorem PO.mono {n m:Nat} {o:List Int} (h:PO n o) (k:n≤m):PO m o:=by
  obtain ⟨a,b,c,h1,h2,h3,h4⟩:=h
  exact ⟨a,b,c,h1,h2,h3,by omega⟩
theorem aqf {c:Int} {n:Nat} (h:0≤c) (h':c≤n) (hn:n < 2 ^ 40):(c+1).natAbs < 2 ^ 2000000:=by
  have h1:(c+1).natAbs < 2 ^ 41:=by omega
  exact Nat.lt_of_lt_of_le h1 (Nat.pow_le_pow_right (by decide) (by decide))
theorem aq8 (a c:Int) (ha:a.natAbs < 2 ^ 2000000) (hc:c.natAbs < 2 ^ 2000000):∃ r,ac7 a c=some r:=by
  have h1:mulP a 48271=some (a * 48271):=adl (ab2 ha (by decide:(48271:Int).natAbs < 2 ^ 20) (by decide))
  have h2:mulP c 69621=some (c * 69621):=adl (ab2 hc (by decide:(69621:Int).natAbs < 2 ^ 20) (by decide))
  have h3:mulP c 16807=some (c * 16807):=adl (ab2 hc (by decide:(16807:Int).natAbs < 2 ^ 20) (by decide))
  have h4:∀ x y:Int,mulP (x % 2147483647) (y % 2147483647)=some (x % 2147483647 * (y % 2147483647)):=fun x y=>adl (ab2 (a:=31) (b:=31) (by omega) (by omega) (by decide))
  have h5:∀ x y:Int,mulP (x % 2147483629) (y % 2147483629)=some (x % 2147483629 * (y % 2147483629)):=fun x y=>adl (ab2 (a:=31) (b:=31) (by omega) (by omega) (by decide))
  have h6:∀ x:Int,mulP (x % 2147483629) 40692=some (x % 2147483629 * 40692):=fun x=>adl (ab2 (a:=31) (b:=20) (by omega) (by decide) (by decide))
  have m1:∀ x:Int,modP x 2147483647=some (x % 2147483647):=fun x=>afs (by decide)
  have m2:∀ x:Int,modP x 2147483629=some (x % 2147483629):=fun x=>afs (by decide)
  have m3:∀ x:Int,modP x 2147483587=some (x % 2147483587):=fun x=>afs (by decide)
  simp [ac7,h1,h2,h3,h4,h5,h6,m1,m2,m3]
theorem apb {n:Nat} {o:List Int} {m:Int} (h:PO n o) (hn:n < 2 ^ 40) (hm:0 < m) (hl:m.natAbs.log2 < 9000):Ho (J8 o m) fun r=>0≤r.1∧r.1 < m∧PO (n+1) r.2:=by
  obtain ⟨a,b,c,rfl,h2,h3,h4⟩:=h
  have d1:∀ x,divP x m=some (x / m):=fun x=>by simp [divP,hm,hl]
  have d2:∀ x,modP x m=some (x % m):=fun x=>afs hm
  by_cases ha:0 < a
  · exact ⟨(a % m,[a / m,b,c]),by simp [J8,ha,d1,d2],Int.emod_nonneg _ (by omega),Int.emod_lt_of_pos _ hm,_,_,_,rfl,h2,h3,by omega⟩
  · obtain ⟨r,hr⟩:=aq8 b (c+1) h2 (aqf h3 h4 hn)
    exact ⟨(r % m,[a,b,c+1]),by simp [J8,ha,d2,hr],Int.emod_nonneg _ (by omega),Int.emod_lt_of_pos _ hm,_,_,_,rfl,h2,by omega,by omega⟩
theorem U7 {n:Nat} {o:List Int} {m:Int} (h:PO n o) (hn:n < 2 ^ 40) (hm:0 < m) (hm2:m < 2 ^ 62):Ho (J8 o m) fun r=>0≤r.1∧r.1 < m∧PO (n+1) r.2:=
  apb h hn hm (by
    have:=log2_small (k:=62) (show m.natAbs < 2 ^ 62 by omega)
    omega)
theorem aou {ns:List Int} (hb:∀ z∈ns,Builtin.Int.intBits z≤1048576) (k:Nat):(ns.getD k 0).natAbs < 2 ^ 1048576:=by
  rw [List.getD_eq_getElem?_getD]
  cases h:ns[k]? with
  | none=>exact Nat.two_pow_pos _
  | some z=>exact intBits_le_iff.mp (hb z (List.mem_of_getElem? h))
theorem aqg (ns:List Int) (k:Nat):abL ns k=some (ns.getD k 0):=by
  by_cases h:k < ns.length
  · have e:atI ns (k:Int)=some ns[k]:=adA (by simp [h])
    simp [abL,h,e]
  · simp [abL,h]
theorem mul64 {z:Int} {k:Nat} (h:z.natAbs < 2 ^ 1048576) (hk:k < 1000):(z * 64+k).natAbs < 2 ^ 2000000:=by
  have e1:(z * 64+k).natAbs≤z.natAbs * 64+1000:=by omega
  have e2:z.natAbs * 64+1000 < 2 ^ 1048600:=by
    have:(2:Nat) ^ 1048600=2 ^ 1048576 * 2 ^ 24:=by rw [← Nat.pow_add]
    rw [this]
    have q:(2:Nat) ^ 24=16777216:=by decide
    rw [q]
    have:0 < (2:Nat) ^ 1048576:=Nat.two_pow_pos _
    generalize (2:Nat) ^ 1048576=y at *
    omega
  exact Nat.lt_of_le_of_lt e1 (Nat.lt_of_lt_of_le e2 (Nat.pow_le_pow_right (by decide) (by decide)))
theorem aqh {ns:List Int} (hb:∀ z∈ns,Builtin.Int.intBits z≤1048576) (k:Int) (hk0:0≤k) (hk:k < 1000):Ho (acB ns k) (PO 0):=by
  obtain ⟨j,rfl⟩:∃ j:Nat,k=j:=⟨k.toNat,by omega⟩
  have h1:=aou hb j
  have h3:=aqg ns j
  have h4:=mul64 h1 (by omega:j < 1000)
  have h2:mulP (ns.getD j 0) 64=some (ns.getD j 0 * 64):=adl (ab2 h1 (by decide:(64:Int).natAbs < 2 ^ 20) (by decide))
  unfold acB
  rw [h3]
  generalize ns.getD j 0=z at *
  simp only [PR.m7,PR.m9,h2]
  by_cases hz:1000000000000000000≤z
  · exact ⟨[z - 1000000000000000000,z * 64+(j:Int),0],by simp [hz],_,_,_,rfl,h4,Int.le_refl _,Int.le_refl _⟩
  · exact ⟨[0,z * 64+(j:Int),0],by simp [hz],_,_,_,rfl,h4,Int.le_refl _,Int.le_refl _⟩
theorem WordS.one {c:Nat} (h:97≤c) (h':c≤122):WordS ⟨#[c]⟩:=⟨Nat.le_refl 1,by show 1≤12; omega,ag9 h h'⟩
theorem aov {r:Int} (h:0≤r) (h':r < 26):∃ c,ixS "abcdefghijklmnopqrstuvwxyz" r=some ⟨#[c]⟩∧97≤c∧c≤122:=by
  obtain ⟨c,h1,h2⟩:=ars h h'
  refine ⟨c,?_,h2⟩
  have hf:fit ("abcdefghijklmnopqrstuvwxyz":Str).length=true:=aah (by decide+kernel)
  simp only [pIx,hf,if_true] at h1
  unfold ixS
  rw [if_pos hf]
  obtain ⟨d,h3,h4⟩:=Option.map_eq_some_iff.mp h1
  rw [h3]
  simp at h4
  simp [h4]
theorem aeS {n:Nat} {o:List Int} (h:PO n o) (hn:n < 2 ^ 40) {β:Type} {f:Str→Int×List Int→PR β} {Q:β→Prop} (k:∀ r c p,97≤c→c≤122→PO (n+1) p→Hp (f ⟨#[c]⟩ (r,p)) Q):Hp ((PR.opt (J8 o 26)).bind fun v=>(PR.opt (ixS ("abcdefghijklmnopqrstuvwxyz":Str) v.1)).bind fun z=>f z v) Q:=by
  obtain ⟨⟨r,p⟩,e,h1,h2,h3⟩:=U7 h hn (m:=26) (by decide) (by decide)
  obtain ⟨c,h4,h5,h6⟩:=aov h1 h2
  simp only [e,h4,PR.m7,PR.m9]
  exact k r c p h5 h6 h3
theorem aqi {n:Nat} {o:List Int} (h:PO n o) (hn:n+20 < 2 ^ 40):Ho (acC o) fun r=>WordS r.1∧PO (n+15) r.2:=by
  have l1:∀ c:Nat,(⟨#[c]⟩:Str).length=1:=fun _=>rfl
  have la:("a":Str).length=1:=rfl
  have lz:("z":Str).length=1:=rfl
  have wa:LowS "a":=fun c hc=>by
    have:("a":Str).cps.toList=[97]:=rfl
    rw [this] at hc
    simp at hc
    omega
  have wz:LowS "z":=fun c hc=>by
    have:("z":Str).cps.toList=[122]:=rfl
    rw [this] at hc
    simp at hc
    omega
  have hr:∀ (z:Str) (k:Nat),z.length=1→(repS z k).length=k:=fun z k hz=>by rw [akI,hz]; omega
  unfold acC
  simp only [PR.bind_assoc,PR.m9]
  refine Hp.o (Hp.bo (U7 h (by omega) (by decide) (by decide)) fun ⟨sh,o1⟩ ⟨a1,a2,a3⟩=>?_)
  dsimp only at a1 a2 a3 ⊢
  refine Hp.ite (fun s0=>?_) fun s0=>?_
  · exact aeS a3 (by omega) fun r c p c1 c2 hp=>Hp.ret ⟨WordS.one c1 c2,hp.mono (by omega)⟩
  refine Hp.bo (U7 a3 (by omega) (by decide) (by decide)) fun ⟨sz,o3⟩ ⟨d3,d4,d2⟩=>?_
  dsimp only at d3 d4 d2 ⊢
  have hsz:1+sz - 1=sz:=by omega
  rw [hsz]
  refine Hp.ite (fun s1=>?_) fun s1=>?_
  · refine Hp.bs (alE d3 (by omega) (by decide)) ?_
    refine aeS d2 (by omega) fun r c p c1 c2 hp=>?_
    have lw:(repS "a" sz.toNat++⟨#[c]⟩:Str).length=sz.toNat+1:=by rw [amI,hr _ _ la,l1]
    refine Hp.bs (ajp (by rw [hr _ _ la,l1]; omega)) ?_
    exact Hp.ret ⟨⟨by rw [lw]; omega,by rw [lw]; omega,(wa.rep _).app (ag9 c1 c2)⟩,hp.mono (by omega)⟩
  refine Hp.ite (fun s2=>?_) fun s2=>?_
  · refine aeS d2 (by omega) fun r c p c1 c2 hp=>?_
    have lw:(⟨#[c]⟩++repS "z" sz.toNat:Str).length=1+sz.toNat:=by rw [amI,hr _ _ lz,l1]
    refine Hp.bs (alE d3 (by omega) (by decide)) (Hp.bs (ajp (by rw [hr _ _ lz,l1]; omega)) ?_)
    exact Hp.ret ⟨⟨by rw [lw]; omega,by rw [lw]; omega,(ag9 c1 c2).app (wz.rep _)⟩,hp.mono (by omega)⟩
  refine Hp.bs (adS (by omega) (by omega)) ?_
  obtain ⟨⟨ws,p⟩,g1,g2,g3,g4⟩:=ajn (t:=fun (_:Int) (_:List Int)=>some true) (f:=fun (_:Int) (s:List Int)=>((PR.opt (J8 s 26)).bind fun v24=>(PR.opt (ixS ("abcdefghijklmnopqrstuvwxyz":Str) v24.1)).bind fun z25=>PR.ok (z25,v24.2)).o) (fun xs acc s=>PO (n+2+acc.length) s∧xs.length+acc.length=(1+sz).toNat∧∀ w∈acc,w.length=1∧LowS w) (fun x xs acc s ⟨h1,h2,h3⟩=>by
    have h4:acc.length≤12:=by simp at h2; omega
    refine .inl ⟨rfl,?_⟩
    obtain ⟨⟨w,s'⟩,e,q⟩:=(aeS (f:=fun z25 (v24:Int×List Int)=>PR.ok (z25,v24.2)) (Q:=fun r:Str×List Int=>(r.1.length=1∧LowS r.1)∧PO (n+2+acc.length+1) r.2) h1 (by omega) fun r c p c1 c2 hp=>Hp.ret ⟨⟨rfl,ag9 c1 c2⟩,hp⟩).o
    refine ⟨w,s',e,aah (by omega),q.2.mono (by simp; omega),by simp at h2 ⊢; omega,fun v hv=>?_⟩
    rcases List.mem_append.mp hv with hv | hv
    · exact h3 v hv
    · simp at hv; subst hv; exact q.1) (rng 0 (1+sz).toNat) [] o3 ⟨d2.mono (by simp),by simp,by simp⟩
  simp at g2 g3 g4
  refine Hp.bs g1 ?_
  have w1:∀ w∈ws,w.length=1:=fun w hw=>(g4 w hw).1
  have e8:joinP "" ws=some (Txt.join "" ws):=by
    have hj:fit ((ws.map (·.length)).sum+ws.length * ("":Str).length)=true:=aah (by
      have:("":Str).length=0:=rfl
      rw [this,aoL ws w1]; omega)
    simp [joinP,hj]
  refine Hp.bs e8 ?_
  exact Hp.ret ⟨⟨by rw [ajI ws w1]; omega,by rw [ajI ws w1]; omega,anV ws fun w hw=>(g4 w hw).2⟩,g2.mono (by omega)⟩
end Wk
namespace Wk
open PySem PySem.Spec PyProof.Rows L2 Dn Tn
abbrev SPA:List Str:=["a","b","c","d","e"]
theorem aqj:∀ w∈SPA,WordS w:=by
  have key:∀ (w:Str) (c:Nat),w.cps=#[c]→97≤c→c≤122→WordS w:=fun w c e h h'=>by
    have:w= ⟨#[c]⟩:=by cases w; simp at e; rw [e]
    rw [this]
    exact WordS.one h h'
  intro w hw
  simp at hw
  rcases hw with rfl | rfl | rfl | rfl | rfl
  · exact key _ 97 rfl (by decide) (by decide)
  · exact key _ 98 rfl (by decide) (by decide)
  · exact key _ 99 rfl (by decide) (by decide)
  · exact key _ 100 rfl (by decide) (by decide)
  · exact key _ 101 rfl (by decide) (by decide)
theorem apc:SPA.Nodup:=by decide+kernel
theorem anG (ns:List Str) (h:ns.length≤4):∃ w r,SPA.filter (fun s=>!decide (s∈ns))=w :: r∧w∉ns∧WordS w:=by
  cases e:SPA.filter (fun s=>!decide (s∈ns)) with
  | nil=>
    have hp:=pigeon SPA ns apc fun x hx=>by
      have:=List.filter_eq_nil_iff.mp e x hx
      simpa using this
    have:SPA.length=5:=rfl
    omega
  | cons w r=>
    have hw:w∈SPA.filter (fun s=>!decide (s∈ns)):=by rw [e]; simp
    have:=List.mem_filter.mp hw
    exact ⟨w,r,rfl,by simpa using this.2,aqj w this.1⟩
theorem apd {n:Nat} {o:List Int} (h:PO n o) (hn:n+200 < 2 ^ 40) {lo hi:Int} (h1:0≤lo) (h2:lo≤hi) (h3:hi≤5):Ho (ab8 o lo hi) fun r=>PO (n+80) r.2∧(∀ w∈r.1,WordS w)∧r.1.Nodup∧lo≤r.1.length∧r.1.length≤hi:=by
  unfold ab8
  simp only [PR.bind_assoc,PR.m9]
  refine Hp.o (Hp.bo (U7 h (by omega) (m:=hi - lo+1) (by omega) (by omega)) fun ⟨r,o1⟩ ⟨a1,a2,a3⟩=>?_)
  dsimp only at a1 a2 a3 ⊢
  refine Hp.bs (adS (by omega) (by omega)) ?_
  refine Hp.bind (Hp.fold (fun xs (s:List Int×List Str)=>PO (n+1+15 * s.2.length) s.1∧xs.length+s.2.length=(lo+r).toNat∧(∀ w∈s.2,WordS w)∧s.2.Nodup) (fun x xs s ⟨b1,b2,b3,b4⟩=>?step) _ _ ⟨a3.mono (by simp),by simp,by simp,by simp⟩) fun s ⟨b1,b2,b3,b4⟩=>?rest
  case step=>
    obtain ⟨p,ns⟩:=s
    dsimp only at b1 b2 b3 b4 ⊢
    simp only [List.length_cons] at b2
    refine Hp.bo (aqi b1 (by omega)) fun ⟨w,p1⟩ ⟨c1,c2⟩=>?_
    dsimp only at c1 c2 ⊢
    by_cases hin:w∈ns
    · obtain ⟨w2,r2,q1,q2,q3⟩:=anG ns (by omega)
      rw [if_pos (by simpa using hin)]
      simp only [PR.bind_assoc]
      refine Hp.bs (ajm (fun s=>!decide (s∈ns)) SPA (fun x _=>rfl) (by simp)) ?_
      rw [q1]
      simp only [arI,PR.m7,PR.m9]
      refine Hp.bs (abj (by omega)) (Hp.ret ⟨c2.mono (by simp; omega),by simp; omega,fun v hv=>?_,?_⟩)
      · rcases List.mem_append.mp hv with hv | hv
        · exact b3 v hv
        · simp at hv; subst hv; exact q3
      · rw [List.nodup_append]
        exact ⟨b4,by simp,fun a ha b hb=>by simp at hb; subst hb; intro z; subst z; exact q2 ha⟩
    · rw [if_neg (by simpa using hin)]
      simp only [PR.m9]
      refine Hp.bs (abj (by omega)) (Hp.ret ⟨c2.mono (by simp; omega),by simp; omega,fun v hv=>?_,?_⟩)
      · rcases List.mem_append.mp hv with hv | hv
        · exact b3 v hv
        · simp at hv; subst hv; exact c1
      · rw [List.nodup_append]
        exact ⟨b4,by simp,fun a ha b hb=>by simp at hb; subst hb; intro z; subst z; exact hin ha⟩
  case rest=>
    simp only [List.length_nil] at b2
    exact Hp.ret ⟨b1.mono (by omega),b3,b4,by dsimp only; omega,by dsimp only; omega⟩
theorem ajP {n:Nat} {o:List Int} {ns:List Str} {k:Int} (h:PO n o) (hn:n+3000 < 2 ^ 40) (hal:ns.length≤1000) (hk0:0≤k) (hk:k≤ns.length):Ho (aaR o ns k) fun r=>PO (n+k.toNat) r.2∧r.1.length=k.toNat∧∃ rest,(rest++r.1).Perm ns:=by
  unfold aaR
  simp only [PR.bind_assoc,PR.m9,PR.lt_eq]
  refine Hp.o (Hp.bs (adS (by omega) (by omega)) ?_)
  refine Hp.bind (Hp.fold (fun xs (s:List Int×List Str×List Str)=>PO (n+s.2.2.length) s.1∧xs.length+s.2.2.length=k.toNat∧(s.2.1++s.2.2).Perm ns) (fun x xs s ⟨b1,b2,b3⟩=>?step) _ _ ⟨h.mono (by simp),by simp,by simp⟩) fun s ⟨b1,b2,b3⟩=>?rest
  case step=>
    obtain ⟨p,ls,cs⟩:=s
    dsimp only at b1 b2 b3 ⊢
    simp only [List.length_cons] at b2
    have hl:=b3.length_eq
    simp only [List.length_append] at hl
    refine Hp.bo (U7 b1 (by omega) (m:=(ls.length:Int)) (by omega) (by omega)) fun ⟨r,p1⟩ ⟨c1,c2,c3⟩=>?_
    dsimp only at c1 c2 c3 ⊢
    obtain ⟨j,rfl⟩:∃ j:Nat,r=j:=⟨r.toNat,by omega⟩
    have hj:j < ls.length:=by omega
    refine Hp.bs (aoq hj (by omega)) (Hp.bs (abj (by omega)) (Hp.ret ⟨c3.mono (by simp; omega),by simp; omega,?_⟩))
    exact (anZ ls cs j hj).trans b3
  case rest=>
    simp only [List.length_nil] at b2
    exact Hp.ret ⟨b1.mono (by omega),by dsimp only; omega,_,b3⟩
theorem ajQ {n:Nat} {o:List Int} {ns:List Str} (h:PO n o) (hn:n+5000 < 2 ^ 40) (hal:ns.length≤1000):Ho (aaS o ns) fun r=>PO (n+1+ns.length) r.2∧Blt ns r.1:=by
  unfold aaS
  simp only [PR.bind_assoc,PR.m9]
  refine Hp.o (Hp.bo (U7 h (by omega) (m:=(ns.length:Int)+1) (by omega) (by omega)) fun ⟨r,o1⟩ ⟨a1,a2,a3⟩=>?_)
  dsimp only at a1 a2 a3 ⊢
  exact Hp.bo (ajP a3 (by omega) hal a1 (by omega)) fun ⟨cs,p⟩ ⟨b1,_,b2⟩=>Hp.ret ⟨b1.mono (by dsimp only at *; omega),b2⟩
end Wk
namespace Wk
open PySem PySem.Spec PyProof.Rows L2 Dn Tn
def SD:Nat→D→Prop
  | 0,_=>False
  | _+1,.non=>True
  | _+1,.bl _=>True
  | _+1,.int _=>True
  | _+1,.str _=>True
  | n+1,.tup xs=>xs.length≤100000∧∀ d∈xs,SD n d
  | n+1,.lst xs=>xs.length≤100000∧∀ d∈xs,SD n d
  | _+1,_=>False
theorem alU (n:Nat) (xs:List D) (t:D) (e:t=.tup xs∨t=.lst xs) (hl:xs.length≤100000) (h:∀ x∈xs,V4 n x x=some true):V4 (n+1) t t=some true:=by
  have q1:L2.kitB "tuple" "bool"=some false:=by decide+kernel
  have q2:L2.kitB "tuple" "int"=some false:=by decide+kernel
  have q3:L2.kitB "tuple" "str"=some false:=by decide+kernel
  have q4:L2.kitB "tuple" "tuple"=some true:=by decide+kernel
  have q5:L2.kitB "tuple" "list"=some false:=by decide+kernel
  have r1:L2.kitB "list" "bool"=some false:=by decide+kernel
  have r2:L2.kitB "list" "int"=some false:=by decide+kernel
  have r3:L2.kitB "list" "str"=some false:=by decide+kernel
  have r4:L2.kitB "list" "tuple"=some false:=by decide+kernel
  have r5:L2.kitB "list" "list"=some true:=by decide+kernel
  have hg:rg1 (xs.length:Int)=some (rng 0 xs.length):=by
    rw [adS (by omega) (by omega)]; simp
  have hi:∀ x∈rng 0 xs.length,∃ d∈xs,ixD t x=some d:=fun x hx=>by
    obtain ⟨i,hi,rfl⟩:=ajo.mp hx
    refine ⟨xs[i],List.getElem_mem hi,?_⟩
    have:atI xs ((i:Nat):Int)=some xs[i]:=adA (by simp [hi])
    rcases e with rfl | rfl <;> simp [ixD,pIx,this]
  have loop:forO (ρ:=Bool) (fun (x:Int) (_:Unit)=>((((PR.opt (ixD t x)).bind fun v29=>((PR.opt (ixD t x)).bind fun v31=>PR.ok (v29,v31))).bind fun v32=>(PR.opt (V4 n v32.1 v32.2))).bind fun v33=>if (!v33)=true then (PR.ok (.rt false)) else (PR.ok (.nx ())))) (rng 0 xs.length) ()=.ok (.nx ()):=aeP _ fun x hx=>by
    obtain ⟨d,h1,h2⟩:=hi x hx
    simp [h2,h d h1]
  have hlen:lenD t=some (xs.length:Int):=by rcases e with rfl | rfl <;> simp [lenD,pLen]
  have hnon:D.isNon t=false:=by rcases e with rfl | rfl <;> rfl
  unfold V4
  rcases e with rfl | rfl <;> simp only [hnon,D.tyN,Option.bind_some,q1,q2,q3,q4,q5,r1,r2,r3,r4,r5,PR.m7,PR.m9,hlen,hg,loop,ao4,Bool.false_eq_true,if_false,if_true,Bool.not_true,Bool.not_false,decide_true,PR.alm]
theorem ajy:∀ (n:Nat) (d:D),SD n d→V4 n d d=some true
  | 0,_,h=>h.elim
  | n+1,d,h=>by
    cases d with
    | tup xs=>exact alU n xs _ (.inl rfl) h.1 fun x hx=>ajy n x (h.2 x hx)
    | lst xs=>exact alU n xs _ (.inr rfl) h.1 fun x hx=>ajy n x (h.2 x hx)
    | non=>simp [V4,D.isNon]
    | bl b=>
      have t1:L2.kitB "bool" "bool"=some true:=by decide+kernel
      simp [V4,D.isNon,D.tyN,t1,aq3]
    | int b=>
      have r1:L2.kitB "int" "bool"=some false:=by decide+kernel
      have r2:L2.kitB "int" "int"=some true:=by decide+kernel
      simp [V4,D.isNon,D.tyN,r1,r2,aq2]
    | str b=>
      have q1:L2.kitB "str" "bool"=some false:=by decide+kernel
      have q2:L2.kitB "str" "int"=some false:=by decide+kernel
      have q3:L2.kitB "str" "str"=some true:=by decide+kernel
      simp [V4,D.isNon,D.tyN,q1,q2,q3,Y0]
    | _=>exact h.elim
end Wk
namespace Wk
open PySem PySem.Spec PyProof.Rows L2 Dn Tn
theorem aig {w:Str} {x:Str} (h:x∈sgns w):∃ c∈w.cps.toList,x= ⟨#[c]⟩:=by
  obtain ⟨c,h1,h2⟩:=List.mem_map.mp h
  exact ⟨c,h1,h2.symm⟩
theorem alV (w:Str):(sgns w).length=w.length:=by simp [sgns,art]
theorem arL (c:Nat):pInB (D.str ⟨#[c]⟩) (D.str ("abcdefghijklmnopqrstuvwxyz":Str))=some (decide (97≤c∧c≤122)):=by
  have h:pInB (D.str ⟨#[c]⟩) (D.str ("abcdefghijklmnopqrstuvwxyz":Str))=some (decide (c∈("abcdefghijklmnopqrstuvwxyz":Str).cps.toList)):=by simp [pInB]
  rw [h]
  have e:("abcdefghijklmnopqrstuvwxyz":Str).cps.toList=[97,98,99,100,101,102,103,104,105,106,107,108,109,110,111,112,113,114,115,116,117,118,119,120,121,122]:=anr
  rw [e]
  congr 1
  refine decide_eq_decide.mpr ?_
  simp only [List.mem_cons,List.not_mem_nil,or_false]
  omega
def lowB (w:Str):Bool:=w.cps.toList.all fun c=>decide (97≤c∧c≤122)
def isNm (w:Str):Bool:=decide (1≤w.length)&&decide (w.length≤12)&&lowB w
theorem ag4 {w:Str}:isNm w=true↔WordS w:=by
  unfold isNm lowB WordS LowS
  rw [Bool.and_eq_true,Bool.and_eq_true,List.all_eq_true]
  simp only [decide_eq_true_eq,and_assoc]
theorem afZ (w:Str) (h:w.length≤100000):acd w=some (isNm w):=by
  unfold acd
  simp only [am0 h,PR.m7,PR.m9]
  by_cases h1:1≤w.length∧w.length≤12
  · have e:=acn (f:=fun x4:Str=>(PR.opt (pInB (D.str x4) (D.str ("abcdefghijklmnopqrstuvwxyz":Str)))).o) (fun x=>x.cps.toList.all fun c=>decide (97≤c∧c≤122)) (sgns w) (fun x hx=>by
      obtain ⟨c,_,rfl⟩:=aig hx
      rw [arL]
      simp) (by rw [alV]; exact h)
    have e2:((sgns w).map fun x=>x.cps.toList.all fun c=>decide (97≤c∧c≤122)).all id=lowB w:=by simp [sgns,lowB,List.all_map,Function.comp_def]
    have h3:(1:Int)≤(w.length:Int)∧(w.length:Int)≤12:=by omega
    simp only [h3.1,h3.2,decide_true,Bool.and_self,Bool.not_true,Bool.false_eq_true,if_false,e,PR.m7,PR.m9,PR.alm,e2]
    simp [isNm,h1.1,h1.2]
  · have h3:(decide ((1:Int)≤(w.length:Int))&&decide ((w.length:Int)≤12))=false:=by
      simp only [Bool.and_eq_false_iff,decide_eq_false_iff_not]
      omega
    have h4:isNm w=false:=by
      simp only [isNm,Bool.and_eq_false_iff,decide_eq_false_iff_not]
      omega
    simp [h3,h4]
theorem alW {n:Nat} {o:List Int} {s:Int} (h:PO n o) (hn:n < 2 ^ 39):Ho (abl o s) fun r=>PO (n+1) r.2∧0≤r.1∧r.1≤1000000000000:=by
  have k:∀ m:Int,0 < m→m≤1000000000001→Hp ((PR.opt (J8 o m)).bind fun v=>PR.ok (v.1,v.2)) fun r=>PO (n+1) r.2∧0≤r.1∧r.1≤1000000000000:=fun m h1 h2=>
    Hp.bo (U7 h (by omega) h1 (by omega)) fun ⟨r,p⟩ ⟨a1,a2,a3⟩=>Hp.ret ⟨a3,a1,by dsimp only at *; omega⟩
  unfold abl
  exact (Hp.ite (fun _=>k 4 (by decide) (by decide)) fun _=>Hp.ite (fun _=>k 30 (by decide) (by decide)) fun _=>k _ (by decide) (by decide)).o
end Wk
namespace Wk
open PySem PySem.Spec PyProof.Rows L2 Dn Tn
theorem number0:abM (numT 0)=some true:=by
  have:numT 0=("0":Str):=by decide+kernel
  rw [this]
  kernel_rfl
theorem aow {c:Int} (h0:0≤c) (h:c≤1000000000000000):abM (numT c)=some true:=by
  by_cases hz:c=0
  · rw [hz]
    exact number0
  have htl:=ahj (c:=c) (by omega)
  have hlen:=Y4 (c:=c) (by omega) (k:=16) (by decide) (by omega)
  obtain ⟨d,r,e,hd⟩:=aos c.toNat (by omega)
  have hall:=TL.numL_digits c.toNat
  have hcps:(numT c).cps.toList=d :: r:=htl.trans e
  have hne:decide (numT c=("":Str))=false:=by
    rw [decide_eq_false_iff_not]
    intro z
    rw [z] at hcps
    rw [show ("":Str).cps.toList=[] by decide+kernel] at hcps
    cases hcps
  unfold abM
  rw [hne]
  simp only [Bool.false_eq_true,if_false]
  have e1:=acn (f:=fun x2:Str=>(PR.opt (pInB (D.str x2) (D.str ("0123456789":Str)))).o) (fun x=>x.cps.toList.all fun c=>decide (48≤c∧c≤57)) (sgns (numT c)) (fun x hx=>by
    obtain ⟨c,_,rfl⟩:=aig hx
    rw [aq5]
    simp) (by rw [alV]; omega)
  have e2:((sgns (numT c)).map fun x=>x.cps.toList.all fun c=>decide (48≤c∧c≤57)).all id=true:=by
    rw [List.all_map,List.all_eq_true]
    intro x hx
    obtain ⟨k,hk,rfl⟩:=aig hx
    have hk:k∈TL.numL c.toNat:=by rw [← htl]; exact hk
    have:=hall k hk
    simpa using this
  rw [e1]
  simp only [PR.m7,PR.m9,e2,Bool.not_true,Bool.false_eq_true,if_false]
  have e3:ixS (numT c) 0=some ⟨#[d]⟩:=by
    unfold ixS
    rw [if_pos (aah (by omega)),hcps,show atI (d :: r) 0=some d from adA (i:=0) rfl]
    rfl
  by_cases z:numT c=("0":Str)
  · rw [decide_eq_true z]
    rfl
  · rw [decide_eq_false z,e3]
    simp only [Bool.false_eq_true,if_false,PR.m7,PR.m9]
    have:decide ((⟨#[d]⟩:Str)=("0":Str))=false:=by
      rw [decide_eq_false_iff_not]
      intro z
      have:=congrArg (fun s:Str=>s.cps.toList) z
      rw [show ("0":Str).cps.toList=[48] by decide+kernel] at this
      simp at this
      omega
    rw [this]
    rfl
theorem aih {c:Int} (h0:0≤c) (h:c≤1000000000000):W3 (numT c)=some true:=by
  have hlen:=Y4 (c:=c) h0 (k:=13) (by decide) (by omega)
  unfold W3
  rw [aow h0 (by omega)]
  simp only [PR.m7,PR.m9,if_true]
  rw [am0 (by omega)]
  simp only [PR.m7,PR.m9]
  rw [decide_eq_true (by omega)]
  rfl
theorem ajR {b:List Str} {ns:List Str} (S:Sla ns) (hb:Blt ns b) (hne:b≠[]):splitP (txT b) (">":Str)=some b:=by
  have hl:=ahk S hb
  unfold splitP
  rw [if_pos ⟨by decide+kernel,aah (by omega)⟩]
  unfold txT
  rw [if_neg hne,alG hne (hb.low S.w)]
theorem ajz {ns b:List Str} (S:Sla ns) (hb:Blt ns b):aaN (txT b)=some true:=by
  unfold aaN
  have h5:=S.l5
  have hl:=hb.len
  by_cases e:b=[]
  · rw [decide_eq_true ((aiM (hb.low S.w)).mpr e)]
    rfl
  · rw [decide_eq_false (fun z=>e ((aiM (hb.low S.w)).mp z)),ajR S hb e]
    simp only [Bool.false_eq_true,if_false,PR.m7,PR.m9]
    rw [acn isNm b (fun w hw=>by
      have:=(S.w w (hb.mem hw)).2.1
      rw [afZ w (by omega)]
      rfl) (by omega)]
    simp only [PR.m7,PR.m9]
    have:(b.map isNm).all id=true:=by
      rw [List.all_map,List.all_eq_true]
      exact fun w hw=>ag4.mpr (S.w w (hb.mem hw))
    rw [this]
    rfl
theorem alX {ns b:List Str} (S:Sla ns) (hb:Blt ns b):acD (txT b)=some b:=by
  unfold acD
  by_cases e:b=[]
  · rw [decide_eq_true ((aiM (hb.low S.w)).mpr e),e]
    rfl
  · rw [decide_eq_false (fun z=>e ((aiM (hb.low S.w)).mp z)),ajR S hb e]
    rfl
theorem ajS {ns:List Str} (S:Sla ns):∀ xs:List Str,(∀ w∈xs,w∈ns)→(xs.map (·.length)).sum≤12 * xs.length:=fun xs=>by
  induction xs with
  | nil=>intro _; simp
  | cons x xs ih=>
    intro h
    have h1:=ih fun w hw=>h w (by simp [hw])
    have h2:=(S.w x (h x (by simp))).2.1
    rw [List.map_cons,List.sum_cons,List.length_cons]
    omega
theorem ajA {ns b:List Str} (S:Sla ns) (hb:Blt ns b):abC b=some (txT b):=by
  have h5:=S.l5
  have hl:=hb.len
  have h4:=ajS S b fun w hw=>hb.mem hw
  unfold abC txT
  by_cases e:b=[]
  · subst e
    rfl
  · have hp:=List.length_pos_iff.mpr e
    rw [if_neg (fun z=>by have:=of_decide_eq_true z; omega),if_neg e]
    unfold joinP
    rw [if_pos (aah (by rw [show ((">":Str).length)=1 by decide+kernel]; omega))]
    rfl
theorem aiR {ns b:List Str} (S:Sla ns) (hb:Blt ns b):X3 b=some (txT b):=by
  have h5:=S.l5
  have hl:=hb.len
  have h4:=ajS S b fun w hw=>hb.mem hw
  unfold X3 txT
  by_cases e:b=[]
  · subst e
    rfl
  · have hp:=List.length_pos_iff.mpr e
    rw [if_neg (fun z=>by have:=of_decide_eq_true z; omega),if_neg e]
    unfold joinP
    rw [if_pos (aah (by rw [show ((">":Str).length)=1 by decide+kernel]; omega))]
    rfl
abbrev Wt:Type:=Int×Str×Int
def WtOk (t:Wt):Prop:=0≤t.1∧t.1≤1000∧WordS t.2.1∧0≤t.2.2∧t.2.2≤1000000000000
def w3 (t:Wt):List Str:=[numT t.1,t.2.1,numT t.2.2]
def flat (ws:List Wt):List Str:=(ws.map w3).flatten
theorem ag5 (t:Wt) (ws:List Wt):flat (t :: ws)=numT t.1 :: t.2.1 :: numT t.2.2 :: flat ws:=rfl
theorem aew (ws:List Wt):(flat ws).length=3 * ws.length:=by
  induction ws with
  | nil=>rfl
  | cons t ws ih=>rw [ag5]; simp only [List.length_cons]; omega
theorem ajT:∀ (ws:List Wt) (i:Nat) (t:Wt),ws[i]?=some t→((flat ws).take (3 * i+3)).drop (3 * i)=w3 t
  | [],i,t,h=>by simp at h
  | x :: ws,0,t,h=>by
    simp at h
    subst h
    rfl
  | x :: ws,i+1,t,h=>by
    have ih:=ajT ws i t (by simpa using h)
    rw [ag5,show 3 * (i+1)+3=(3 * i+3)+1+1+1 by omega,show 3 * (i+1)=3 * i+1+1+1 by omega]
    simpa using ih
theorem ajB {α β:Type} {f:α→Option β}:∀ (xs:List α) (ys:List β) (n:Nat),xs.length=ys.length→(∀ (i:Nat) (x:α) (y:β),xs[i]?=some x→ys[i]?=some y→f x=some y)→n+xs.length≤100000→lcP (fun _=>some true) f xs n=some ys
  | [],[],_,_,_,_=>rfl
  | x :: xs,y :: ys,n,hl,h,hn=>by
    rw [List.length_cons] at hn
    have ih:=ajB (f:=f) xs ys (n+1) (by simpa using hl) (fun i a b h1 h2=>h (i+1) a b (by simpa using h1) (by simpa using h2)) (by omega)
    unfold lcP
    dsimp only
    rw [h 0 x y rfl rfl]
    dsimp only
    rw [if_pos (aah (by omega)),ih]
    rfl
  | [],_ :: _,_,h,_,_=>by simp at h
  | _ :: _,[],_,h,_,_=>by simp at h
theorem aiS {ws:List Wt} (hl:ws.length≤1000):acV (flat ws)=some (ws.map w3):=by
  have hf:=aew ws
  unfold acV
  have e:rg3 0 ((flat ws).length:Int)=some (rng3 0 ws.length):=by
    unfold rg3
    rw [if_pos ⟨by decide,akT (by omega) (by omega)⟩]
    congr 2
    unfold rgN3
    omega
  rw [e]
  simp only [PR.m7,PR.m9]
  rw [ajB (rng3 0 ws.length) (ws.map w3) 0 (by simp [rng3]) (fun i x y h1 h2=>by
    unfold rng3 at h1
    rw [List.getElem?_map] at h1 h2
    obtain ⟨k,k1,rfl⟩:=Option.map_eq_some_iff.mp h1
    obtain ⟨t,k2,rfl⟩:=Option.map_eq_some_iff.mp h2
    have hi:i < ws.length:=(List.getElem?_eq_some_iff.mp k2).1
    rw [List.getElem?_range hi] at k1
    cases k1
    rw [ao8 (by omega) (by omega) (by omega)]
    rw [show ((0:Int)+(i:Int) * 3+3).toNat=3 * i+3 by omega,show ((0:Int)+(i:Int) * 3).toNat=3 * i by omega,ajT ws i t k2]) (by simp [rng3]; omega)]
  rfl
def t3 (t:Wt):Str×Str×Str:=(numT t.1,t.2.1,numT t.2.2)
theorem dec3 (ws:List Wt):decC (t7 (eL3 D.str)) (t7 (t7 D.str) (ws.map w3))=some (ws.map t3):=by
  have e:t7 (t7 D.str) (ws.map w3)=t7 (eL3 D.str) (ws.map t3):=by
    unfold t7
    rw [List.map_map,List.map_map]
    rfl
  rw [e,acM]
theorem alY {ws:List Wt} (hl:ws.length≤1000) (h:∀ t∈ws,WtOk t):abD (flat ws)=some true:=by
  have hf:=aew ws
  unfold abD
  rw [afs (by omega)]
  simp only [PR.m7,PR.m9]
  rw [show decide (((flat ws).length:Int) % 3=0)=true from decide_eq_true (by omega)]
  simp only [Bool.not_true,Bool.false_eq_true,if_false]
  rw [aiS hl]
  simp only [PR.m7,PR.m9]
  rw [dec3]
  simp only [PR.m7,PR.m9]
  rw [aeP (s:=()) _ fun x hx=>by
    obtain ⟨t,ht,rfl⟩:=List.mem_map.mp hx
    obtain ⟨a1,a2,a3,a4,a5⟩:=h t ht
    have hw:=a3.2.1
    rw [show (t3 t).1=numT t.1 from rfl,show (t3 t).2.1=t.2.1 from rfl,show (t3 t).2.2=numT t.2.2 from rfl,aih a1 (by omega),aih a4 a5,afZ t.2.1 (by omega),ag4.mpr a3]
    rfl]
  rfl
theorem akr {ws:List Wt} {o:G6} (hl:ws.length≤1000) (h:∀ t∈ws,WtOk t):Z7 o (flat ws)=some ws:=by
  unfold Z7
  rw [alY hl h]
  simp only [PR.m7,PR.m9,Bool.not_true,Bool.false_eq_true,if_false]
  rw [aiS hl]
  simp only [PR.m7,PR.m9]
  rw [dec3]
  simp only [PR.m7,PR.m9]
  rw [ajB (ws.map t3) ws 0 (by simp) (fun i x y h1 h2=>by
    rw [List.getElem?_map,h2] at h1
    cases h1
    obtain ⟨a1,a2,a3,a4,a5⟩:=h y (List.mem_of_getElem? h2)
    rw [show (t3 y).1=numT y.1 from rfl,show (t3 y).2.1=y.2.1 from rfl,show (t3 y).2.2=numT y.2.2 from rfl,aie a1 (by omega),aie a4 (by omega)]
    rfl) (by simp; omega)]
  rfl
end Wk
namespace Wk
open PySem PySem.Spec PyProof.Rows L2 Dn Tn
mutual
inductive Pap where
  | dead | shut (ws:List Wt) | next (bs:Brs) | split (b:List Str) (m:Int) (f g:Pap)
inductive Brs where
  | nil | cons (w:Str) (p:Pap) (r:Brs)
end
mutual
def Pap.enc:Pap→D
  | .dead=>.tup [.str "dead"]
  | .shut ws=>.tup [.str "shut",j5 (Q7 D.int D.str D.int) ws]
  | .next bs=>.tup [.str "next",j5 (ePr D.str eD) bs.enc]
  | .split b m f g=>.tup [.str "split",j5 D.str b,.int m,f.enc,g.enc]
def Brs.enc:Brs→List (Str×D)
  | .nil=>[]
  | .cons w p r=>(w,p.enc) :: r.enc
end
def Brs.ns:Brs→List Str
  | .nil=>[]
  | .cons w _ r=>w :: r.ns
def ln (ws:List Str):Str:=Txt.join " " ws
mutual
def Pap.lines:Pap→List Str
  | .dead=>[ln ["dead"]]
  | .shut ws=>[ln ("shut" :: flat ws)]
  | .next bs=>ln ("next" :: bs.ns) :: bs.lines
  | .split b m f g=>ln ["split",numT m,txT b] :: (f.lines++g.lines)
def Brs.lines:Brs→List Str
  | .nil=>[]
  | .cons _ p r=>p.lines++r.lines
end
mutual
def Pap.Ok (ns:List Str):Pap→Prop
  | .dead=>True
  | .shut ws=>ws.length≤4∧∀ t∈ws,WtOk t
  | .next bs=>0 < bs.ns.length∧bs.ns.length≤6∧(∀ w∈bs.ns,w∈ns)∧bs.Ok ns
  | .split b m f g=>Blt ns b∧0≤m∧m≤1000000000000∧f.Ok ns∧g.Ok ns
def Brs.Ok (ns:List Str):Brs→Prop
  | .nil=>True
  | .cons _ p r=>p.Ok ns∧r.Ok ns
end
mutual
def Pap.h:Pap→Nat
  | .dead=>1
  | .shut _=>1
  | .next bs=>bs.h+1
  | .split _ _ f g=>max f.h g.h+1
def Brs.h:Brs→Nat
  | .nil=>0
  | .cons _ p r=>max p.h r.h
end
mutual
def Pap.cnt:Pap→Nat
  | .dead=>1
  | .shut _=>1
  | .next bs=>bs.cnt+1
  | .split _ _ f g=>f.cnt+g.cnt+1
def Brs.cnt:Brs→Nat
  | .nil=>0
  | .cons _ p r=>p.cnt+r.cnt
end
mutual
def Pap.d:Pap→Nat
  | .dead=>2
  | .shut _=>4
  | .next bs=>bs.d+3
  | .split _ _ f g=>max (max f.d g.d) 2+1
def Brs.d:Brs→Nat
  | .nil=>1
  | .cons _ p r=>max p.d r.d
end
theorem aqk:("":Str).length=0:=by decide+kernel
theorem T6:(" ":Str).length=1:=by decide+kernel
theorem aox:("\n":Str).length=1:=by decide+kernel
theorem acO (a:Str) {ys:List Str} {k:Nat} (h:∀ y∈ys,y.length≤k):(Txt.join a ys).length≤k * ys.length+ys.length * a.length:=by
  have h1:=StrLaws.join_length_le a ys
  have h2:=am2 h
  rw [TL.join_eq]
  omega
theorem aiT {ws:List Wt} (h:∀ t∈ws,WtOk t):∀ y∈flat ws,y.length≤13:=fun y hy=>by
  unfold flat at hy
  obtain ⟨l,h1,h2⟩:=List.mem_flatten.mp hy
  obtain ⟨t,h3,rfl⟩:=List.mem_map.mp h1
  obtain ⟨a1,a2,a3,a4,a5⟩:=h t h3
  simp only [w3,List.mem_cons,List.not_mem_nil,or_false] at h2
  rcases h2 with rfl | rfl | rfl
  · have:=Y4 (c:=t.1) a1 (k:=4) (by decide) (by omega); omega
  · have:=a3.2.1; omega
  · exact Y4 (c:=t.2.2) a4 (k:=13) (by decide) (by omega)
theorem aoy {ws:List Wt} (h:∀ t∈ws,WtOk t) {s:Nat} (hs:s < 45):∀ y∈flat ws,s∉TL.tl y:=fun y hy=>by
  unfold flat at hy
  obtain ⟨l,h1,h2⟩:=List.mem_flatten.mp hy
  obtain ⟨t,h3,rfl⟩:=List.mem_map.mp h1
  obtain ⟨a1,a2,a3,a4,a5⟩:=h t h3
  simp only [w3,List.mem_cons,List.not_mem_nil,or_false] at h2
  rcases h2 with rfl | rfl | rfl
  · exact agQ a1 (by omega)
  · intro hc
    have:=a3.2.2 s hc
    omega
  · exact agQ a4 (by omega)
theorem aoz {w:Str} (h:WordS w) {s:Nat} (hs:s < 45):s∉TL.tl w:=fun hc=>by
  have:=h.2.2 s hc
  omega
theorem aql:TL.tl "dead"=[100,101,97,100]:=by decide+kernel
theorem aqm:TL.tl "shut"=[115,104,117,116]:=by decide+kernel
theorem aqn:TL.tl "next"=[110,101,120,116]:=by decide+kernel
theorem ape:TL.tl "split"=[115,112,108,105,116]:=by decide+kernel
def Pap.words:Pap→List Str
  | .dead=>["dead"]
  | .shut ws=>"shut" :: flat ws
  | .next bs=>"next" :: bs.ns
  | .split b m _ _=>["split",numT m,txT b]
theorem aiU {ns:List Str} (S:Sla ns) {p:Pap} (h:p.Ok ns) {s:Nat} (hs:s < 45):∀ y∈p.words,s∉TL.tl y:=fun y hy=>by
  cases p with
  | dead=>
    simp only [Pap.words,List.mem_singleton] at hy
    rw [hy,aql]
    simp
    omega
  | shut ws=>
    rcases List.mem_cons.mp hy with rfl | hy
    · rw [aqm]
      simp
      omega
    · exact aoy h.2 hs y hy
  | next bs=>
    rcases List.mem_cons.mp hy with rfl | hy
    · rw [aqn]
      simp
      omega
    · exact aoz (S.w y (h.2.2.1 y hy)) hs
  | split b m f g=>
    simp only [Pap.words,List.mem_cons,List.not_mem_nil,or_false] at hy
    rcases hy with rfl | rfl | rfl
    · rw [ape]
      simp
      omega
    · exact agQ h.2.1 (by omega)
    · exact ao9 (h.1.low S.w) hs
theorem adT {ns:List Str} (S:Sla ns) {p:Pap} (h:p.Ok ns):p.words.length≤13∧(∀ y∈p.words,y.length≤65)∧p.words≠[]:=by
  cases p with
  | dead=>
    refine ⟨by decide,fun y hy=>?_,by simp [Pap.words]⟩
    simp only [Pap.words,List.mem_singleton] at hy
    rw [hy]
    decide+kernel
  | shut ws=>
    refine ⟨by have:=aew ws; have:=h.1; simp only [Pap.words,List.length_cons]; omega,fun y hy=>?_,by simp [Pap.words]⟩
    rcases List.mem_cons.mp hy with rfl | hy
    · decide+kernel
    · have:=aiT h.2 y hy
      omega
  | next bs=>
    refine ⟨by have:=h.2.1; simp only [Pap.words,List.length_cons]; omega,fun y hy=>?_,by simp [Pap.words]⟩
    rcases List.mem_cons.mp hy with rfl | hy
    · decide+kernel
    · have:=(S.w y (h.2.2.1 y hy)).2.1
      omega
  | split b m f g=>
    refine ⟨by show 3≤13; omega,fun y hy=>?_,by simp [Pap.words]⟩
    simp only [Pap.words,List.mem_cons,List.not_mem_nil,or_false] at hy
    rcases hy with rfl | rfl | rfl
    · decide+kernel
    · have:=Y4 (c:=m) h.2.1 (k:=13) (by decide) (by have:=h.2.2.1; omega)
      omega
    · exact ahk S h.1
theorem ag6 {ns:List Str} (S:Sla ns) {p:Pap} (h:p.Ok ns):(ln p.words).length≤200:=by
  cases p with
  | shut ws=>
    have e:∀ y∈(Pap.shut ws).words,y.length≤13:=fun y hy=>by
      rcases List.mem_cons.mp hy with rfl | hy
      · decide+kernel
      · exact aiT h.2 y hy
    have:=acO " " e
    have h2:=(adT S h).1
    rw [T6] at this
    show (Txt.join " " _).length≤200
    omega
  | next bs=>
    have e:∀ y∈(Pap.next bs).words,y.length≤12:=fun y hy=>by
      rcases List.mem_cons.mp hy with rfl | hy
      · decide+kernel
      · exact (S.w y (h.2.2.1 y hy)).2.1
    have:=acO " " e
    have h2:(Pap.next bs).words.length≤7:=by have:=h.2.1; simp only [Pap.words,List.length_cons]; omega
    rw [T6] at this
    show (Txt.join " " _).length≤200
    omega
  | dead=>
    have:=acO " " (adT S h).2.1
    have h2:(Pap.dead).words.length=1:=rfl
    rw [T6] at this
    show (Txt.join " " _).length≤200
    omega
  | split b m f g=>
    have:=acO " " (adT S h).2.1
    have h2:(Pap.split b m f g).words.length=3:=rfl
    rw [T6] at this
    show (Txt.join " " _).length≤200
    omega
theorem apf {ns:List Str} (S:Sla ns) {p:Pap} (h:p.Ok ns):splitP (ln p.words) (" ":Str)=some p.words:=by
  have h1:=ag6 S h
  unfold splitP
  rw [if_pos ⟨by decide+kernel,aah (by omega)⟩]
  unfold ln
  rw [TL.split_join apu (by decide+kernel) (adT S h).2.2 fun y hy=>aiU S h (by omega) y hy]
theorem ahm {ns:List Str} (S:Sla ns) {p:Pap} (h:p.Ok ns):10∉TL.tl (ln p.words):=fun hc=>by
  unfold ln at hc
  rw [TL.join_eq,TL.tl_join,apu] at hc
  have key:∀ ps:List Str,(∀ y∈ps,10∉TL.tl y)→10∉TL.joinL [32] (ps.map TL.tl):=fun ps=>by
    induction ps with
    | nil=>intro _ hc; simp [TL.joinL] at hc
    | cons p ps ih=>
      intro h hc
      cases ps with
      | nil=>exact h p (by simp) hc
      | cons q ps=>
        have hc:10∈TL.tl p++([32]++TL.joinL [32] ((q :: ps).map TL.tl)):=hc
        rw [List.mem_append,List.mem_append] at hc
        rcases hc with hc | hc | hc
        · exact h p (by simp) hc
        · simp at hc
        · exact ih (fun w hw=>h w (by simp [hw])) hc
  exact key _ (fun y hy=>aiU S h (by omega) y hy) hc
mutual
theorem aag {ns:List Str} (S:Sla ns):∀ (p:Pap),p.Ok ns→(∀ l∈p.lines,l.length≤200∧10∉TL.tl l)∧p.lines.length=p.cnt
  | .dead,h=>by
    refine ⟨fun l hl=>?_,rfl⟩
    rw [List.mem_singleton.mp (show l∈[ln ["dead"]] from hl)]
    exact ⟨ag6 S (p:=.dead) h,ahm S (p:=.dead) h⟩
  | .shut ws,h=>by
    refine ⟨fun l hl=>?_,rfl⟩
    rw [List.mem_singleton.mp (show l∈[ln ("shut" :: flat ws)] from hl)]
    exact ⟨ag6 S (p:=.shut ws) h,ahm S (p:=.shut ws) h⟩
  | .next bs,h=>by
    have ih:=aiV S bs h.2.2.2
    refine ⟨fun l hl=>?_,by show bs.lines.length+1=bs.cnt+1; rw [ih.2]⟩
    rcases List.mem_cons.mp (show l∈ln ("next" :: bs.ns) :: bs.lines from hl) with rfl | hl
    · exact ⟨ag6 S (p:=.next bs) h,ahm S (p:=.next bs) h⟩
    · exact ih.1 l hl
  | .split b m f g,h=>by
    have ih:=aag S f h.2.2.2.1
    have ih2:=aag S g h.2.2.2.2
    refine ⟨fun l hl=>?_,by show (f.lines++g.lines).length+1=f.cnt+g.cnt+1; rw [List.length_append,ih.2,ih2.2]⟩
    rcases List.mem_cons.mp (show l∈ln ["split",numT m,txT b] :: (f.lines++g.lines) from hl) with rfl | hl
    · exact ⟨ag6 S (p:=.split b m f g) h,ahm S (p:=.split b m f g) h⟩
    · rcases List.mem_append.mp hl with hl | hl
      · exact ih.1 l hl
      · exact ih2.1 l hl
theorem aiV {ns:List Str} (S:Sla ns):∀ (r:Brs),r.Ok ns→(∀ l∈r.lines,l.length≤200∧10∉TL.tl l)∧r.lines.length=r.cnt
  | .nil,_=>⟨(fun l hl=>by cases hl),rfl⟩
  | .cons w p r,h=>by
    have ih:=aag S p h.1
    have ih2:=aiV S r h.2
    refine ⟨fun l hl=>?_,by show (p.lines++r.lines).length=p.cnt+r.cnt; rw [List.length_append,ih.2,ih2.2]⟩
    rcases List.mem_append.mp (show l∈p.lines++r.lines from hl) with hl | hl
    · exact ih.1 l hl
    · exact ih2.1 l hl
end
theorem aiW (p:Pap):∃ r,p.lines=ln p.words :: r:=by
  cases p <;> exact ⟨_,rfl⟩
end Wk
namespace Wk
open PySem PySem.Spec PyProof.Rows L2 Dn Tn
theorem aaT (ds:List D) (i:Int):ixD (.tup ds) i=atI ds i:=by
  unfold ixD
  simp only [pIx]
  cases atI ds i <;> rfl
theorem ajC {α:Type} (x y:α) (r:List α):atI (x :: y :: r) 1=some y:=adA (i:=1) rfl
theorem afa {α:Type} (x:α) (r:List α):atI (x :: r) 0=some x:=adA (i:=0) rfl
theorem ad6 (a x y:Str) (r:List Str):Txt.join a (x :: y :: r)=x++a++Txt.join a (y :: r):=by
  rw [TL.join_eq,TL.join_eq]
  rfl
theorem aeT (a x:Str):Txt.join a [x]=x:=by
  rw [TL.join_eq]
  rfl
theorem am4:∀ (x:Str) (ys:List Str),Txt.join " " (x :: ys)=x++Txt.join "" (ys.map fun y=>" "++y)
  | x,[]=>by
    rw [aeT,List.map_nil,Tn.join_nil,aqd]
  | x,y :: ys=>by
    rw [ad6,am4 y ys,List.map_cons,afR,acU,acU]
def tri (t:Wt):Str:=" "++numT t.1++" "++t.2.1++" "++numT t.2.2
theorem am5 (ws:List Wt):ln ("shut" :: flat ws)=("shut":Str)++Txt.join "" (ws.map tri):=by
  unfold ln
  rw [am4]
  congr 1
  induction ws with
  | nil=>rfl
  | cons t ws ih=>
    rw [ag5]
    simp only [List.map_cons,afR]
    rw [ih]
    unfold tri
    simp only [acU]
theorem am6 {ns:List Str} (h:0 < ns.length):ln ("next" :: ns)=("next ":Str)++Txt.join " " ns:=by
  unfold ln
  cases ns with
  | nil=>simp at h
  | cons w r=>rw [ad6,show ("next":Str)++" "="next " by decide+kernel]
theorem ajU (a b:Str):ln ["split",a,b]=("split ":Str)++a++" "++b:=by
  unfold ln
  rw [ad6,ad6,aeT,show ("split":Str)++" "="split " by decide+kernel,acU,acU,acU]
theorem am7 (a:Str):Str.empty++a=a:=TL.ext_tl (by rw [TL.tl_append,show TL.tl Str.empty=[] by decide+kernel,List.nil_append])
theorem aqo {t:Wt} (h:WtOk t):(tri t).length≤40:=by
  obtain ⟨a1,a2,a3,a4,a5⟩:=h
  have h1:=Y4 (c:=t.1) a1 (k:=4) (by decide) (by omega)
  have h2:=Y4 (c:=t.2.2) a4 (k:=13) (by decide) (by omega)
  have h3:=a3.2.1
  unfold tri
  simp only [Str.length_append,T6]
  omega
theorem aoA {ns ys:List Str} (S:Sla ns) (h:∀ w∈ys,w∈ns):∀ w∈ys,w.length≤12:=fun w hw=>(S.w w (h w hw)).2.1
instance {A1 A2 A3 A4 A5:Type} (a:A1→D) (b:A2→D) (c:A3→D) (d:A4→D) (e:A5→D) [Inj a] [Inj b] [Inj c] [Inj d] [Inj e]:Inj (ePr5 a b c d e):=⟨fun x y h=>by
  obtain ⟨x1,x2,x3,x4,x5⟩:=x
  obtain ⟨y1,y2,y3,y4,y5⟩:=y
  simp only [ePr5,D.tup.injEq,List.cons.injEq,and_true] at h
  obtain ⟨h1,h2,h3,h4,h5⟩:=h
  rw [Inj.inj _ _ h1,Inj.inj _ _ h2,Inj.inj _ _ h3,Inj.inj _ _ h4,Inj.inj _ _ h5]⟩
theorem alZ (bs:Brs):(Pap.next bs).enc=.tup [.str "next",j5 (ePr D.str eD) bs.enc]:=rfl
theorem ajV (b:List Str) (m:Int) (f g:Pap):(Pap.split b m f g).enc=.tup [.str "split",j5 D.str b,.int m,f.enc,g.enc]:=rfl
theorem apg (w:Str) (p:Pap) (r:Brs):(Brs.cons w p r).enc=(w,p.enc) :: r.enc:=rfl
theorem aef:∀ bs:Brs,bs.enc.map (·.1)=bs.ns
  | .nil=>rfl
  | .cons w p r=>by
    show w :: r.enc.map (·.1)=w :: r.ns
    rw [aef r]
theorem aq9:decide (("shut":Str)="dead")=false:=by decide+kernel
theorem ara:decide (("next":Str)="dead")=false:=by decide+kernel
theorem arb:decide (("next":Str)="shut")=false:=by decide+kernel
theorem arc:decide (("split":Str)="dead")=false:=by decide+kernel
theorem ard:decide (("split":Str)="shut")=false:=by decide+kernel
theorem aph:decide (("split":Str)="next")=false:=by decide+kernel
theorem ar3:decide (("dead":Str)="dead")=true:=by decide+kernel
theorem arf:decide (("shut":Str)="shut")=true:=by decide+kernel
theorem arh:decide (("next":Str)="next")=true:=by decide+kernel
theorem ar4:decide (("split":Str)="split")=true:=by decide+kernel
theorem ar5:decide (("dead":Str)="next")=false:=by decide+kernel
theorem ar6:decide (("dead":Str)="split")=false:=by decide+kernel
theorem ar7:decide (("dead":Str)="shut")=false:=by decide+kernel
theorem ar8:decide (("shut":Str)="next")=false:=by decide+kernel
theorem ar9:decide (("shut":Str)="split")=false:=by decide+kernel
theorem V8 {a b:Str} (h1:a.length≤400) (h2:b.length≤400):catS a b=some (a++b):=ajp (by omega)
theorem am8 {a:Str} (h:a.length≤400):fmtS a=some a:=if_pos (aah (by omega))
theorem ari {t:Wt} (h:WtOk t):((PR.opt (catS Str.empty (" ":Str))).bind fun v8=>((PR.opt (fmtP t.1)).bind fun v10=>(PR.opt (catS v8 v10)).bind fun v9=>((PR.opt (catS v9 (" ":Str))).bind fun v11=>((PR.opt (fmtS t.2.1)).bind fun v13=>(PR.opt (catS v11 v13)).bind fun v12=>((PR.opt (catS v12 (" ":Str))).bind fun v14=>((PR.opt (fmtP t.2.2)).bind fun v16=>(PR.opt (catS v14 v16)).bind fun v15=>(PR.ok v15)))))))=.ok (tri t):=by
  obtain ⟨a1,a2,a3,a4,a5⟩:=h
  have h1:=Y4 (c:=t.1) a1 (k:=4) (by decide) (by omega)
  have h2:=Y4 (c:=t.2.2) a4 (k:=13) (by decide) (by omega)
  have h3:=a3.2.1
  have e0:(Str.empty).length=0:=by decide+kernel
  rw [V8 (by omega) (by rw [T6]; omega),am7,aee a1 (by omega)]
  simp only [PR.m7,PR.m9]
  rw [V8 (by rw [T6]; omega) (by omega),am8 (by omega),aee a4 (by omega)]
  simp only [PR.m7,PR.m9]
  rw [V8 (by simp only [Str.length_append,T6]; omega) (by rw [T6]; omega)]
  simp only [PR.m7,PR.m9]
  rw [V8 (by simp only [Str.length_append,T6]; omega) (by omega)]
  simp only [PR.m7,PR.m9]
  rw [V8 (by simp only [Str.length_append,T6]; omega) (by rw [T6]; omega)]
  simp only [PR.m7,PR.m9]
  rw [V8 (by simp only [Str.length_append,T6]; omega) (by omega)]
  rfl
theorem ajW {ws:List Wt} (h:ws.length≤4) (hw:∀ t∈ws,WtOk t):joinP ("":Str) (ws.map tri)=some (Txt.join "" (ws.map tri))∧(Txt.join "" (ws.map tri)).length≤160:=by
  have h1:∀ y∈ws.map tri,y.length≤40:=fun y hy=>by
    obtain ⟨t,ht,rfl⟩:=List.mem_map.mp hy
    exact aqo (hw t ht)
  refine ⟨afS h1 (by rw [aqk]; omega) (by simp; omega),?_⟩
  have:=aot h1
  rw [List.length_map] at this
  omega
mutual
theorem acI {ns:List Str} (S:Sla ns):∀ (p:Pap),p.Ok ns→∀ n:Nat,p.h≤n→p.cnt≤1000→V3 n p.enc=some p.lines
  | .dead,h,n,hn,hc=>by
    obtain ⟨m,rfl⟩:∃ m,n=m+1:=⟨n - 1,by have:1≤n:=hn; omega⟩
    unfold V3 Pap.enc
    rw [aaT,afa]
    simp only [PR.m7,PR.m9]
    rw [Y0,ar3]
    simp only [PR.m7,PR.m9,if_true]
    show some [("dead":Str)]=some [ln ["dead"]]
    rw [show ln ["dead"]="dead" from aeT _ _]
  | .shut ws,h,n,hn,hc=>by
    obtain ⟨m,rfl⟩:∃ m,n=m+1:=⟨n - 1,by have:1≤n:=hn; omega⟩
    unfold V3 Pap.enc
    rw [aaT,aaT,afa,ajC]
    simp only [PR.m7,PR.m9]
    rw [Y0,Y0,aq9,arf]
    simp only [PR.m7,PR.m9,if_true,Bool.false_eq_true,if_false,acM]
    obtain ⟨j1,j2⟩:=ajW h.1 h.2
    rw [acn tri ws (fun t ht=>by rw [ari (h.2 t ht)]; rfl) (by have:=h.1; omega)]
    simp only [PR.m7,PR.m9]
    rw [j1]
    simp only [PR.m7,PR.m9]
    rw [V8 (by decide+kernel) (by omega)]
    show some [("shut":Str)++_]=some [ln ("shut" :: flat ws)]
    rw [am5]
  | .next bs,h,n,hn,hc=>by
    obtain ⟨m,rfl⟩:∃ m,n=m+1:=⟨n - 1,by have:bs.h+1≤n:=hn; omega⟩
    have hn:bs.h≤m:=by have:bs.h+1≤m+1:=hn; omega
    have hc:bs.cnt+1≤1000:=hc
    unfold V3
    rw [alZ,aaT,aaT,afa,ajC]
    simp only [PR.m7,PR.m9]
    rw [Y0,Y0,Y0,ara,arb,arh]
    simp only [PR.m7,PR.m9,if_true,Bool.false_eq_true,if_false,acM]
    have hb:=h.2.1
    have hl:bs.enc.length=bs.ns.length:=by rw [← aef,List.length_map]
    rw [acn (fun x:Str×D=>x.1) bs.enc (fun x _=>rfl) (by omega),aef]
    simp only [PR.m7,PR.m9]
    have jl:=aoA S h.2.2.1
    have jl2:=acO " " jl
    rw [T6] at jl2
    rw [afS jl (by rw [T6]; omega) (by omega)]
    simp only [PR.m7,PR.m9]
    rw [V8 (by decide+kernel) (by omega)]
    simp only [PR.m7,PR.m9]
    rw [ajX S bs h.2.2.2 m hn [_] (by simp; omega)]
    show some ([("next ":Str)++_]++bs.lines)=some (ln ("next" :: bs.ns) :: bs.lines)
    rw [am6 h.1]
    rfl
  | .split b k f g,h,n,hn,hc=>by
    obtain ⟨m,rfl⟩:∃ m,n=m+1:=⟨n - 1,by have:max f.h g.h+1≤n:=hn; omega⟩
    have hn:max f.h g.h+1≤m+1:=hn
    have hc:f.cnt+g.cnt+1≤1000:=hc
    have i1:=acI S f h.2.2.2.1 m (by omega) (by omega)
    have i2:=acI S g h.2.2.2.2 m (by omega) (by omega)
    have l1:=(aag S f h.2.2.2.1).2
    have l2:=(aag S g h.2.2.2.2).2
    have t1:=ahk S h.1
    have t2:=Y4 (c:=k) h.2.1 (k:=13) (by decide) (by have:=h.2.2.1; omega)
    unfold V3
    have ed:decC (ePr5 D.str (j5 D.str) D.int eD eD) (Pap.split b k f g).enc=some (("split":Str),b,k,f.enc,g.enc):=by
      rw [show (Pap.split b k f g).enc=ePr5 D.str (j5 D.str) D.int eD eD (("split":Str),b,k,f.enc,g.enc) from rfl,acM]
    rw [ed]
    rw [ajV,aaT,afa]
    simp only [PR.m7,PR.m9]
    rw [Y0,Y0,Y0,arc,ard,aph]
    simp only [PR.m7,PR.m9,Bool.false_eq_true,if_false]
    have e0:(Str.empty).length=0:=by decide+kernel
    have e1:("split ":Str).length=6:=by decide+kernel
    rw [V8 (by omega) (by omega),am7,aee h.2.1 (by have:=h.2.2.1; omega)]
    simp only [PR.m7,PR.m9]
    rw [V8 (by omega) (by omega),ajA S h.1]
    simp only [PR.m7,PR.m9]
    rw [V8 (by simp only [Str.length_append]; omega) (by rw [T6]; omega),am8 (by omega)]
    simp only [PR.m7,PR.m9]
    rw [V8 (by simp only [Str.length_append,T6]; omega) (by omega)]
    simp only [PR.m7,PR.m9]
    rw [i1,i2]
    simp only [PR.m7,PR.m9]
    rw [aft (by simp only [List.length_singleton]; omega)]
    simp only [PR.m7,PR.m9]
    rw [aft (by simp only [List.length_append,List.length_singleton]; omega)]
    show some ([("split ":Str)++numT k++" "++txT b]++f.lines++g.lines)=some (ln ["split",numT k,txT b] :: (f.lines++g.lines))
    rw [ajU]
    rfl
theorem ajX {ns:List Str} (S:Sla ns):∀ (r:Brs),r.Ok ns→∀ n:Nat,r.h≤n→∀ acc:List Str,acc.length+r.cnt≤1000→foldP (fun (x34:(Str×D)) (s33:(List Str))=>(((PR.opt (V3 n x34.2)).bind fun v35=>(PR.opt (catP s33 v35))).bind fun v36=>(PR.ok v36))) r.enc acc=.ok (acc++r.lines)
  | .nil,_,n,_,acc,_=>by
    show PR.ok acc=PR.ok (acc++[])
    rw [List.append_nil]
  | .cons w p r,h,n,hn,acc,hc=>by
    have hn:max p.h r.h≤n:=hn
    have hc:acc.length+(p.cnt+r.cnt)≤1000:=hc
    have i1:=acI S p h.1 n (by omega) (by omega)
    have l1:=(aag S p h.1).2
    rw [apg]
    unfold foldP
    dsimp only
    rw [i1]
    simp only [PR.m7,PR.m9]
    rw [aft (by omega)]
    simp only [PR.m7,PR.m9]
    rw [ajX S r h.2 n (by omega) (acc++p.lines) (by rw [List.length_append]; omega),List.append_assoc]
    rfl
end
end Wk
namespace Wk
open PySem PySem.Spec PyProof.Rows L2 Dn Tn
def Brs.toL:Brs→List Pap
  | .nil=>[]
  | .cons _ p r=>p :: r.toL
def Pap.kids:Pap→List Pap
  | .next bs=>bs.toL
  | .split _ _ f g=>[f,g]
  | _=>[]
theorem ajY:∀ r:Brs,(r.toL.map Pap.lines).flatten=r.lines
  | .nil=>rfl
  | .cons w p r=>by
    show p.lines++(r.toL.map Pap.lines).flatten=p.lines++r.lines
    rw [ajY r]
theorem am9:∀ r:Brs,(r.toL.map Pap.cnt).sum=r.cnt
  | .nil=>rfl
  | .cons w p r=>by
    show p.cnt+(r.toL.map Pap.cnt).sum=p.cnt+r.cnt
    rw [am9 r]
theorem aoB {ns:List Str}:∀ r:Brs,r.Ok ns→∀ p∈r.toL,p.Ok ns
  | .nil,_,p,hp=>by cases hp
  | .cons w q r,h,p,hp=>by
    rcases List.mem_cons.mp (show p∈q :: r.toL from hp) with rfl | hp
    · exact h.1
    · exact aoB r h.2 p hp
theorem ana:∀ r:Brs,r.enc.map (·.2)=r.toL.map Pap.enc
  | .nil=>rfl
  | .cons w p r=>by
    show p.enc :: r.enc.map (·.2)=p.enc :: r.toL.map Pap.enc
    rw [ana r]
theorem anb:∀ r:Brs,r.toL.length=r.ns.length
  | .nil=>rfl
  | .cons w p r=>by
    show r.toL.length+1=r.ns.length+1
    rw [anb r]
theorem anH (p:Pap):p.lines=ln p.words :: (p.kids.map Pap.lines).flatten:=by
  cases p with
  | dead=>rfl
  | shut ws=>rfl
  | next bs=>
    show ln ("next" :: bs.ns) :: bs.lines=_
    rw [← ajY bs]
    rfl
  | split b m f g=>
    show _ :: (f.lines++g.lines)=_ :: (f.lines++(g.lines++[]))
    rw [List.append_nil]
    rfl
theorem al0 (p:Pap):p.cnt=1+(p.kids.map Pap.cnt).sum:=by
  cases p with
  | dead=>rfl
  | shut ws=>rfl
  | next bs=>
    show bs.cnt+1=1+(bs.toL.map Pap.cnt).sum
    rw [am9 bs]
    omega
  | split b m f g=>
    show f.cnt+g.cnt+1=1+(f.cnt+(g.cnt+0))
    omega
theorem aqp {ns:List Str} {p:Pap} (h:p.Ok ns):∀ q∈p.kids,q.Ok ns:=by
  cases p with
  | dead=>intro q hq; cases hq
  | shut ws=>intro q hq; cases hq
  | next bs=>exact aoB bs h.2.2.2
  | split b m f g=>
    intro q hq
    simp only [Pap.kids,List.mem_cons,List.not_mem_nil,or_false] at hq
    rcases hq with rfl | rfl
    · exact h.2.2.2.1
    · exact h.2.2.2.2
theorem anc (p:Pap):1≤p.cnt:=by rw [al0]; omega
theorem aqq (l:List Nat):l.reverse.sum=l.sum:=by
  induction l with
  | nil=>rfl
  | cons x l ih=>simp [ih]; omega
theorem al1 {ns:List Str} {F:Int→List Str×List D→PR (Out (List Str) (List Str×List D))} (h0:∀ x acc,F x (acc,[])=.ok (.bk (acc,[])))
    (hs:∀ x acc st (p:Pap),p.Ok ns→acc.length≤1000→st.length≤10000→F x (acc,st++[p.enc])=.ok (.nx (acc++[ln p.words],st++p.kids.reverse.map Pap.enc))):
    ∀ (xs:List Int) (acc:List Str) (st:List Pap),(∀ p∈st,p.Ok ns)→(st.map Pap.cnt).sum≤xs.length→acc.length+(st.map Pap.cnt).sum≤1000→forO F xs (acc,st.map Pap.enc)=.ok (.nx (acc++(st.reverse.map Pap.lines).flatten,[]))
  | [],acc,st,hk,hx,_=>by
    cases st with
    | nil=>
      show PR.ok (Out.nx (acc,[]))=_
      simp
    | cons p st=>
      have:=anc p
      simp only [List.map_cons,List.sum_cons,List.length_nil] at hx
      omega
  | x :: xs,acc,st,hk,hx,ha=>by
    by_cases e:st=[]
    · subst e
      unfold forO
      rw [show (([]:List Pap).map Pap.enc)=[] from rfl,h0]
      simp
    · obtain ⟨st',p,rfl⟩:∃ ys y,st=ys++[y]:=⟨st.dropLast,st.getLast e,(List.dropLast_concat_getLast e).symm⟩
      have hp:=hk p (by simp)
      have hc:=al0 p
      have hsum:((st'++[p]).map Pap.cnt).sum=(st'.map Pap.cnt).sum+p.cnt:=by simp
      rw [hsum] at hx ha
      have hlen:∀ l:List Pap,l.length≤(l.map Pap.cnt).sum:=fun l=>by
        induction l with
        | nil=>simp
        | cons q l ih=>have:=anc q; simp only [List.map_cons,List.sum_cons,List.length_cons]; omega
      have hl:=hlen st'
      unfold forO
      rw [List.map_append,List.map_singleton,hs x acc (st'.map Pap.enc) p hp (by omega) (by rw [List.length_map]; omega)]
      simp only [PR.m9]
      rw [← List.map_append]
      have hsum2:((st'++p.kids.reverse).map Pap.cnt).sum=(st'.map Pap.cnt).sum+(p.kids.map Pap.cnt).sum:=by
        rw [List.map_append,List.sum_append,List.map_reverse,aqq]
      rw [al1 h0 hs xs (acc++[ln p.words]) (st'++p.kids.reverse) (fun q hq=>(List.mem_append.mp hq).elim (fun z=>hk q (by simp [z])) fun z=>aqp hp q (List.mem_reverse.mp z)) (by rw [hsum2]; simp only [List.length_cons] at hx; omega) (by rw [hsum2,List.length_append,List.length_singleton]; omega)]
      rw [List.reverse_append,List.reverse_append,List.reverse_reverse,List.map_append,List.flatten_append]
      show _=PR.ok (Out.nx (acc++((p :: st'.reverse).map Pap.lines).flatten,[]))
      rw [List.map_cons,List.flatten_cons,anH p]
      simp
noncomputable def lawF:Int→List Str×List D→PR (Out (List Str) (List Str×List D)):=(fun (x4:Int) (s3:(List Str)×(List D))=>(if (decide ((s3.2.length:Int)=0))=true then (PR.ok (.bk (s3.1,s3.2))) else
 ((PR.opt (popP s3.2)).bind fun v5=>
 ((((PR.opt (ixD v5.1 0)).bind fun v7=>(PR.opt (pEqB v7 (D.str ("next":Str))))).bind fun v8=>if v8=true then (((((((PR.opt (ixD v5.1 1)).bind fun v9=>(PR.opt (decC (j5 (ePr D.str eD)) v9))).bind fun v10=>(PR.opt (lcP (fun (x11:(Str×D))=>(some true)) (fun x11=>(some x11.1)) v10 0))).bind fun v12=>(PR.opt (joinP (" ":Str) v12))).bind fun v13=>(PR.opt (catS ("next ":Str) v13))).bind fun v15=>(PR.opt (appP s3.1 v15))).bind fun v16=>((((((PR.opt (ixD v5.1 1)).bind fun v17=>(PR.opt (decC (j5 (ePr D.str eD)) v17))).bind fun v18=>(PR.opt (lcP (fun (x19:(Str×D))=>(some true)) (fun x19=>(some x19.2)) v18 0))).bind fun v20=>(PR.ok v20.reverse)).bind fun v22=>(PR.opt (extP v5.2 v22))).bind fun v23=>(PR.ok (v16,v23)))) else
 ((((PR.opt (ixD v5.1 0)).bind fun v25=>(PR.opt (pEqB v25 (D.str ("split":Str))))).bind fun v26=>if v26=true then ((((((((PR.opt (ixD v5.1 2)).bind fun v27=>(PR.opt (decC D.int v27))).bind fun v29=>(PR.opt (fmtP v29))).bind fun v30=>(PR.opt (catS ("split ":Str) v30))).bind fun v31=>(PR.opt (catS v31 (" ":Str)))).bind fun v32=>((((PR.opt (ixD v5.1 1)).bind fun v33=>(PR.opt (decC (j5 D.str) v33))).bind fun v35=>(PR.opt (X3 v35))).bind fun v36=>(PR.opt (catS v32 v36)))).bind fun v38=>(PR.opt (appP s3.1 v38))).bind fun v39=>(((PR.opt (ixD v5.1 4)).bind fun v41=>(PR.opt (appP v5.2 v41))).bind fun v42=>(((PR.opt (ixD v5.1 3)).bind fun v44=>(PR.opt (appP v42 v44))).bind fun v45=>(PR.ok (v39,v45))))) else
 ((((PR.opt (ixD v5.1 0)).bind fun v47=>(PR.opt (pEqB v47 (D.str ("shut":Str))))).bind fun v48=>if v48=true then ((((PR.opt (ixD v5.1 1)).bind fun v49=>(PR.opt (decC (j5 (Q7 D.int D.str D.int)) v49))).bind fun v50=>(PR.opt (lcP (fun (x51:(Int×Str×Int))=>(some true)) (fun x51=>((((((PR.opt (fmtP x51.1)).bind fun v52=>(PR.opt (catS (" ":Str) v52))).bind fun v53=>(PR.opt (catS v53 (" ":Str)))).bind fun v54=>(PR.opt (catS v54 x51.2.1))).bind fun v55=>(PR.opt (catS v55 (" ":Str)))).bind fun v56=>((PR.opt (fmtP x51.2.2)).bind fun v57=>(PR.opt (catS v56 v57)))).o) v50 0))).bind fun v59=>
 ((((PR.opt (joinP ("":Str) v59)).bind fun v60=>(PR.opt (catS ("shut":Str) v60))).bind fun v62=>(PR.opt (appP s3.1 v62))).bind fun v63=>(PR.ok v63))) else
 ((PR.opt (appP s3.1 ("dead":Str))).bind fun v64=>(PR.ok v64))).bind fun s46:(List Str)=>
 (PR.ok (s46,v5.2)))).bind fun s24:(List Str)×(List D)=>
 (PR.ok (s24.1,s24.2)))).bind fun s6:(List Str)×(List D)=>
 (PR.ok (.nx (s6.1,s6.2)))))))
theorem api {α:Type} {st:List α} {x:α} (h:st.length≤10000):popP (st++[x])=some (x,st):=by
  unfold popP
  simp
theorem aqr {t:Wt} (h:WtOk t):((((((PR.opt (fmtP t.1)).bind fun v52=>(PR.opt (catS (" ":Str) v52))).bind fun v53=>(PR.opt (catS v53 (" ":Str)))).bind fun v54=>(PR.opt (catS v54 t.2.1))).bind fun v55=>(PR.opt (catS v55 (" ":Str)))).bind fun v56=>((PR.opt (fmtP t.2.2)).bind fun v57=>(PR.opt (catS v56 v57))))=.ok (tri t):=by
  obtain ⟨a1,a2,a3,a4,a5⟩:=h
  have h1:=Y4 (c:=t.1) a1 (k:=4) (by decide) (by omega)
  have h2:=Y4 (c:=t.2.2) a4 (k:=13) (by decide) (by omega)
  have h3:=a3.2.1
  rw [aee a1 (by omega),aee a4 (by omega)]
  simp only [PR.m7,PR.m9]
  rw [V8 (by rw [T6]; omega) (by omega)]
  simp only [PR.m7,PR.m9]
  rw [V8 (by simp only [Str.length_append,T6]; omega) (by rw [T6]; omega)]
  simp only [PR.m7,PR.m9]
  rw [V8 (by simp only [Str.length_append,T6]; omega) (by omega)]
  simp only [PR.m7,PR.m9]
  rw [V8 (by simp only [Str.length_append,T6]; omega) (by rw [T6]; omega)]
  simp only [PR.m7,PR.m9]
  rw [V8 (by simp only [Str.length_append,T6]; omega) (by omega)]
  rfl
theorem arj (x:Int) (acc:List Str):lawF x (acc,[])=.ok (.bk (acc,[])):=rfl
theorem ark {ns:List Str} (S:Sla ns) (x:Int) (acc:List Str) (st:List D) (p:Pap) (h:p.Ok ns) (ha:acc.length≤1000) (hst:st.length≤10000):lawF x (acc,st++[p.enc])=.ok (.nx (acc++[ln p.words],st++p.kids.reverse.map Pap.enc)):=by
  unfold lawF
  dsimp only
  rw [decide_eq_false (show ¬ ((st++[p.enc]).length:Int)=0 by simp; omega),api hst]
  simp only [PR.m7,PR.m9,Bool.false_eq_true,if_false]
  cases p with
  | dead=>
    rw [show Pap.dead.enc=.tup [.str "dead"] from rfl,aaT,afa]
    simp only [PR.m7,PR.m9]
    rw [Y0,Y0,Y0,ar5,ar6,ar7,abj (by omega)]
    simp only [PR.m7,PR.m9,Bool.false_eq_true,if_false]
    rw [show ln (Pap.dead).words="dead" from aeT _ _]
    simp [Pap.kids]
  | shut ws=>
    rw [show (Pap.shut ws).enc=.tup [.str "shut",j5 (Q7 D.int D.str D.int) ws] from rfl,aaT,aaT,afa,ajC]
    simp only [PR.m7,PR.m9]
    rw [Y0,Y0,Y0,ar8,ar9,arf]
    simp only [PR.m7,PR.m9,Bool.false_eq_true,if_false,if_true,acM]
    obtain ⟨j1,j2⟩:=ajW h.1 h.2
    rw [acn tri ws (fun t ht=>by rw [aqr (h.2 t ht)]; rfl) (by have:=h.1; omega)]
    simp only [PR.m7,PR.m9]
    rw [j1]
    simp only [PR.m7,PR.m9]
    rw [V8 (by decide+kernel) (by omega)]
    simp only [PR.m7,PR.m9]
    rw [abj (by omega),show ln (Pap.shut ws).words=_ from am5 ws]
    simp [Pap.kids]
  | next bs=>
    rw [alZ,aaT,aaT,afa,ajC]
    simp only [PR.m7,PR.m9]
    rw [Y0,arh]
    simp only [PR.m7,PR.m9,if_true,acM]
    have hb:=h.2.1
    have hl:bs.enc.length=bs.ns.length:=by rw [← aef,List.length_map]
    rw [acn (fun x:Str×D=>x.1) bs.enc (fun x _=>rfl) (by omega),aef,acn (fun x:Str×D=>x.2) bs.enc (fun x _=>rfl) (by omega),ana]
    simp only [PR.m7,PR.m9]
    have jl:=aoA S h.2.2.1
    have jl2:=acO " " jl
    rw [T6] at jl2
    rw [afS jl (by rw [T6]; omega) (by omega)]
    simp only [PR.m7,PR.m9]
    rw [V8 (by decide+kernel) (by omega)]
    simp only [PR.m7,PR.m9]
    have tl:=anb bs
    rw [abj (by omega),aqc (by simp; omega),show ln (Pap.next bs).words=_ from am6 h.1]
    simp [Pap.kids]
  | split b k f g=>
    have t1:=ahk S h.1
    have t2:=Y4 (c:=k) h.2.1 (k:=13) (by decide) (by have:=h.2.2.1; omega)
    have e1:("split ":Str).length=6:=by decide+kernel
    rw [ajV]
    simp only [aaT]
    rw [afa,ajC,show atI [D.str "split",j5 D.str b,D.int k,f.enc,g.enc] 2=some (D.int k) from adA (i:=2) rfl,show atI [D.str "split",j5 D.str b,D.int k,f.enc,g.enc] 3=some f.enc from adA (i:=3) rfl,show atI [D.str "split",j5 D.str b,D.int k,f.enc,g.enc] 4=some g.enc from adA (i:=4) rfl]
    simp only [PR.m7,PR.m9]
    rw [Y0,Y0,aph,ar4]
    simp only [PR.m7,PR.m9,if_true,Bool.false_eq_true,if_false,acM]
    rw [aee h.2.1 (by have:=h.2.2.1; omega)]
    simp only [PR.m7,PR.m9]
    rw [V8 (by omega) (by omega)]
    simp only [PR.m7,PR.m9]
    rw [V8 (by simp only [Str.length_append]; omega) (by rw [T6]; omega),aiR S h.1]
    simp only [PR.m7,PR.m9]
    rw [V8 (by simp only [Str.length_append,T6]; omega) (by omega)]
    simp only [PR.m7,PR.m9]
    rw [abj (by omega),abj (by omega)]
    simp only [PR.m7,PR.m9]
    rw [abj (by simp; omega),show ln (Pap.split b k f g).words=_ from ajU _ _]
    simp [Pap.kids]
theorem al2 {ns:List Str} (S:Sla ns) {p:Pap} (h:p.Ok ns) (hc:p.cnt≤1000):aca p.enc=some p.lines:=by
  unfold aca
  rw [PR.lt_eq,adS (by omega) (by omega)]
  simp only [PR.m7,PR.m9]
  have:=al1 arj (fun x acc st p h ha hst=>ark S x acc st p h ha hst) (rng 0 (1000:Int).toNat) [] [p] (fun q hq=>by rw [List.mem_singleton.mp hq]; exact h) (by simp [rng]; omega) (by simp; omega)
  show PR.o (thenO (forO lawF (rng 0 (1000:Int).toNat) ([],[p].map Pap.enc)) _ _)=_
  rw [this]
  simp
end Wk
namespace Wk
open PySem PySem.Spec PyProof.Rows L2 Dn Tn
theorem drop_at {α:Type} {L r:List α} {x:α} {k:Nat} (h:L.drop k=x :: r):atI L (k:Int)=some x∧k < L.length∧L.drop (k+1)=r:=by
  have hk:k < L.length:=by
    refine Classical.byContradiction fun z=>?_
    rw [List.drop_of_length_le (by omega)] at h
    cases h
  refine ⟨adA ?_,hk,?_⟩
  · have:=List.getElem?_drop (xs:=L) (i:=k) (j:=0)
    rw [h] at this
    simpa using this.symm
  · have:L.drop (k+1)=(L.drop k).drop 1:=by rw [List.drop_drop]
    rw [this,h]
    rfl
theorem mc_hit {β:Type} {s:Str} {cb:List Str→PR β} {e:PR β}:mcase [.lit s] [s] cb e=cb []:=by
  unfold mcase mtS
  rw [if_pos rfl]
  rfl
theorem ane {β:Type} {s:Str} {ws:List Str} {cb:List Str→List Str→PR β} {e:PR β}:mcaseS [.lit s] (s :: ws) cb e=cb [] ws:=by
  unfold mcaseS
  have:mtS [.lit s] ((s :: ws).take [MI.lit s].length)=some []:=by
    show mtS [.lit s] [s]=_
    unfold mtS
    rw [if_pos rfl]
    rfl
  rw [this]
  rfl
theorem aoC {s t:Str} {ps:List MI} {ws:List Str} (h:decide (t=s)=false):mtS (.lit s :: ps) (t :: ws)=none:=if_neg (of_decide_eq_false h)
theorem mc_no {β:Type} {s t:Str} {ps:List MI} {ws:List Str} {cb:List Str→PR β} {e:PR β} (h:decide (t=s)=false):mcase (.lit s :: ps) (t :: ws) cb e=e:=by
  unfold mcase
  rw [aoC h]
theorem al3 {β:Type} {s t:Str} {ps:List MI} {ws:List Str} {cb:List Str→List Str→PR β} {e:PR β} (h:decide (t=s)=false):mcaseS (.lit s :: ps) (t :: ws) cb e=e:=by
  unfold mcaseS
  rw [show (t :: ws).take (MI.lit s :: ps).length=t :: ws.take ps.length from rfl,aoC h]
theorem apj {β:Type} {a b:Str} {i j:Nat} {f:Str→Str→PR β} {e:PR β}:mcase [.lit "split",.cap i,.cap j] ["split",a,b] (fun cs=>matchL2 cs f) e=f a b:=by
  unfold mcase
  have:mtS [.lit "split",.cap i,.cap j] ["split",a,b]=some [a,b]:=by
    unfold mtS
    rw [if_pos rfl]
    rfl
  rw [this]
  rfl
mutual
theorem ahn {ns:List Str} (S:Sla ns):∀ (p:Pap),p.Ok ns→∀ (n:Nat) (LL:List Str) (k:Nat) (post:List Str),2 * p.h≤n+1→LL.drop k=p.lines++post→LL.length≤100000→Y8 n (LL,(k:Int))=some (p.enc,(LL,((k+p.cnt:Nat):Int)))
  | p,h,n,LL,k,post,hn,hd,hl=>by
    have hp:1≤p.h:=by cases p <;> simp [Pap.h]
    obtain ⟨m,rfl⟩:∃ m,n=m+1:=⟨n - 1,by omega⟩
    obtain ⟨rl,hrl⟩:=aiW p
    rw [hrl,List.cons_append] at hd
    obtain ⟨d1,d2,d3⟩:=drop_at hd
    have wl:=adT S h
    unfold Y8
    dsimp only
    rw [decide_eq_false (show ¬ ((k:Int)=(LL.length:Int)) by omega),d1]
    simp only [PR.m7,PR.m9,Bool.false_eq_true,if_false]
    rw [apf S h]
    simp only [PR.m7,PR.m9]
    rw [if_pos (by omega)]
    match p,h,hn,hrl,d3 with
    | .dead,h,hn,hrl,d3=>
      rw [show Pap.dead.words=[("dead":Str)] from rfl,mc_hit]
      rfl
    | .shut ws,h,hn,hrl,d3=>
      rw [show (Pap.shut ws).words=("shut":Str) :: flat ws from rfl,mc_no aq9,ane,akr (by have:=h.1; omega) h.2]
      rfl
    | .next bs,h,hn,hrl,d3=>
      have hn:2 * (bs.h+1)≤m+1+1:=hn
      have e:rl=bs.lines:=by
        have:ln ("next" :: bs.ns) :: bs.lines=ln (Pap.next bs).words :: rl:=hrl
        exact (List.cons.inj this).2.symm
      subst e
      rw [show (Pap.next bs).words=("next":Str) :: bs.ns from rfl,mc_no ara,al3 arb,ane]
      have ih:=amD S bs h.2.2.2 h.1 h.2.1 h.2.2.1 m LL (k+1) post (by omega) d3 hl
      rw [show ((k+1:Nat):Int)=(k:Int)+1 by omega] at ih
      rw [ih]
      simp only [PR.m7,PR.m9]
      show some ((Pap.next bs).enc,(LL,((k+1+bs.cnt:Nat):Int)))=some (_,(LL,((k+(bs.cnt+1):Nat):Int)))
      rw [show k+1+bs.cnt=k+(bs.cnt+1) by omega]
    | .split b c f g,h,hn,hrl,d3=>
      have hn:2 * (max f.h g.h+1)≤m+1+1:=hn
      have e:rl=f.lines++g.lines:=by
        have:ln ["split",numT c,txT b] :: (f.lines++g.lines)=ln (Pap.split b c f g).words :: rl:=hrl
        exact (List.cons.inj this).2.symm
      subst e
      rw [show (Pap.split b c f g).words=[("split":Str),numT c,txT b] from rfl,mc_no arc,al3 ard,al3 aph,apj]
      have hf1:1≤f.h:=by cases f <;> simp [Pap.h]
      obtain ⟨q,rfl⟩:∃ q,m=q+1:=⟨m - 1,by omega⟩
      have l1:=(aag S f h.2.2.2.1).2
      have l2:=(aag S g h.2.2.2.2).2
      rw [List.append_assoc] at d3
      have i1:=ahn S f h.2.2.2.1 q LL (k+1) (g.lines++post) (by omega) d3 hl
      have d4:LL.drop (k+1+f.cnt)=g.lines++post:=by
        have:LL.drop (k+1+f.cnt)=(LL.drop (k+1)).drop f.cnt:=by rw [List.drop_drop]
        rw [this,d3,← l1,List.drop_left]
      have i2:=ahn S g h.2.2.2.2 q LL (k+1+f.cnt) post (by omega) d4 hl
      unfold acu
      rw [aih h.2.1 h.2.2.1,ajz S h.1]
      simp only [PR.m7,PR.m9,Bool.not_true,Bool.false_eq_true,if_false]
      rw [show ((k:Int)+1)=((k+1:Nat):Int) by omega,i1]
      simp only [PR.m7,PR.m9]
      rw [i2,alX S h.1,aie h.2.1 (by have:=h.2.2.1; omega)]
      simp only [PR.m7,PR.m9,PR.alm]
      show some (_,(LL,((k+1+f.cnt+g.cnt:Nat):Int)))=some (_,(LL,((k+(f.cnt+g.cnt+1):Nat):Int)))
      rw [show k+1+f.cnt+g.cnt=k+(f.cnt+g.cnt+1) by omega]
      rfl
theorem amD {ns:List Str} (S:Sla ns):∀ (bs:Brs),bs.Ok ns→0 < bs.ns.length→bs.ns.length≤6→(∀ w∈bs.ns,w∈ns)→∀ (n:Nat) (LL:List Str) (k:Nat) (post:List Str),2 * bs.h≤n→LL.drop k=bs.lines++post→LL.length≤100000→aau n (LL,(k:Int)) bs.ns=some (bs.enc,(LL,((k+bs.cnt:Nat):Int)))
  | bs,h,h0,h6,hw,n,LL,k,post,hn,hd,hl=>by
    have hp:1≤bs.h:=by
      cases bs with
      | nil=>simp [Brs.ns] at h0
      | cons w p r=>
        have:1≤p.h:=by cases p <;> simp [Pap.h]
        show 1≤max p.h r.h
        omega
    obtain ⟨m,rfl⟩:∃ m,n=m+1:=⟨n - 1,by omega⟩
    unfold aau
    rw [decide_eq_false (show ¬ ((bs.ns.length:Int)=0) by omega)]
    simp only [Bool.false_eq_true,if_false]
    rw [acn isNm bs.ns (fun w h=>by
      have:=(S.w w (hw w h)).2.1
      rw [afZ w (by omega)]
      rfl) (by omega)]
    simp only [PR.m7,PR.m9]
    have hall:(bs.ns.map isNm).all id=true:=by
      rw [List.all_map,List.all_eq_true]
      exact fun w h=>ag4.mpr (S.w w (hw w h))
    rw [hall]
    simp only [Bool.not_true,PR.m7,PR.m9,Bool.false_eq_true,if_false]
    rw [aoD S bs h m LL k post 0 (by omega) hd hl (by omega)]
    rfl
theorem aoD {ns:List Str} (S:Sla ns):∀ (bs:Brs),bs.Ok ns→∀ (n:Nat) (LL:List Str) (k:Nat) (post:List Str) (i:Nat),2 * bs.h≤n+1→LL.drop k=bs.lines++post→LL.length≤100000→i+bs.ns.length≤1000→
    lcS (fun (x9:Str) (s11:G6)=>(some true)) (fun x9 s11=>((PR.opt (Y8 n s11)).bind fun v13=>PR.ok ((x9,v13.1),v13.2)).o) bs.ns (LL,(k:Int)) i=some (bs.enc,(LL,((k+bs.cnt:Nat):Int)))
  | .nil,_,n,LL,k,post,i,_,_,_,_=>rfl
  | .cons w p r,h,n,LL,k,post,i,hn,hd,hl,hi=>by
    have hn:2 * max p.h r.h≤n+1:=hn
    have hd:LL.drop k=(p.lines++r.lines)++post:=hd
    have hi:i+(r.ns.length+1)≤1000:=hi
    have l1:=(aag S p h.1).2
    rw [List.append_assoc] at hd
    have i1:=ahn S p h.1 n LL k (r.lines++post) (by omega) hd hl
    have d4:LL.drop (k+p.cnt)=r.lines++post:=by
      have:LL.drop (k+p.cnt)=(LL.drop k).drop p.cnt:=by rw [List.drop_drop]
      rw [this,hd,← l1,List.drop_left]
    have i2:=aoD S r h.2 n LL (k+p.cnt) post (i+1) (by omega) d4 hl (by omega)
    show lcS _ _ (w :: r.ns) _ _=some ((w,p.enc) :: r.enc,(LL,((k+(p.cnt+r.cnt):Nat):Int)))
    unfold lcS
    dsimp only
    rw [i1]
    simp only [PR.m7,PR.m9,PR.alm]
    rw [if_pos (aah (by omega)),i2]
    simp only [Option.map_some]
    rw [show k+p.cnt+r.cnt=k+(p.cnt+r.cnt) by omega]
end
theorem al4 {ns:List Str} (S:Sla ns) {p:Pap} (h:p.Ok ns) (hc:p.cnt≤440):joinP ("\n":Str) p.lines=some (Txt.join "\n" p.lines)∧(Txt.join "\n" p.lines).length≤90000:=by
  obtain ⟨a,b⟩:=aag S p h
  have h1:∀ y∈p.lines,y.length≤200:=fun y hy=>(a y hy).1
  refine ⟨afS h1 (by rw [aox]; omega) (by omega),?_⟩
  have:=acO "\n" h1
  rw [aox] at this
  omega
theorem aqs {ns:List Str} (S:Sla ns) {p:Pap} (h:p.Ok ns) (hc:p.cnt≤440) (hh:2 * p.h≤271):ace (Txt.join "\n" p.lines)=some p.enc:=by
  obtain ⟨a,b⟩:=aag S p h
  obtain ⟨j1,j2⟩:=al4 S h hc
  have hsp:splitP (Txt.join "\n" p.lines) ("\n":Str)=some p.lines:=by
    unfold splitP
    rw [if_pos ⟨by decide+kernel,aah (by omega)⟩]
    obtain ⟨r,hr⟩:=aiW p
    rw [TL.split_join arJ (by decide+kernel) (by rw [hr]; simp) fun l hl=>(a l hl).2]
  unfold ace
  rw [hsp]
  simp only [PR.m7,PR.m9]
  rw [show abf p.lines=some (p.lines,0) from rfl]
  simp only [PR.m7,PR.m9]
  have i1:=ahn S p h 270 p.lines 0 [] (by omega) (by simp) (by omega)
  rw [show ((0:Nat):Int)=0 from rfl] at i1
  rw [i1]
  simp only [PR.m7,PR.m9]
  rw [decide_eq_false (by omega)]
  rfl
mutual
theorem aiX {ns:List Str} (S:Sla ns):∀ (p:Pap),p.Ok ns→∀ n:Nat,p.d≤n→SD n p.enc
  | .dead,_,n,hn=>by
    have hn:2≤n:=hn
    obtain ⟨m,rfl⟩:∃ m,n=m+1+1:=⟨n - 2,by omega⟩
    refine ⟨by simp,fun d hd=>?_⟩
    rw [List.mem_singleton.mp hd]
    trivial
  | .shut ws,h,n,hn=>by
    have hn:4≤n:=hn
    obtain ⟨m,rfl⟩:∃ m,n=m+1+1+1+1:=⟨n - 4,by omega⟩
    refine ⟨by simp,fun d hd=>?_⟩
    simp only [List.mem_cons,List.not_mem_nil,or_false] at hd
    rcases hd with rfl | rfl
    · trivial
    · refine ⟨by rw [List.length_map]; have:=h.1; omega,fun d hd=>?_⟩
      obtain ⟨t,_,rfl⟩:=List.mem_map.mp hd
      refine ⟨by simp,fun d hd=>?_⟩
      simp only [List.mem_cons,List.not_mem_nil,or_false] at hd
      rcases hd with rfl | rfl | rfl <;> trivial
  | .next bs,h,n,hn=>by
    have hn:bs.d+3≤n:=hn
    obtain ⟨m,rfl⟩:∃ m,n=m+1+1:=⟨n - 2,by omega⟩
    have hl:bs.enc.length=bs.ns.length:=by rw [← aef,List.length_map]
    refine ⟨by simp,fun d hd=>?_⟩
    simp only [List.mem_cons,List.not_mem_nil,or_false] at hd
    rcases hd with rfl | rfl
    · trivial
    · refine ⟨by rw [List.length_map,hl]; have:=h.2.1; omega,fun d hd=>?_⟩
      obtain ⟨x,hx,rfl⟩:=List.mem_map.mp hd
      exact aoE S bs h.2.2.2 m (by omega) x hx
  | .split b c f g,h,n,hn=>by
    have hn:max (max f.d g.d) 2+1≤n:=hn
    obtain ⟨m,rfl⟩:∃ m,n=m+1:=⟨n - 1,by omega⟩
    obtain ⟨q,rfl⟩:∃ q,m=q+1+1:=⟨m - 2,by omega⟩
    have i1:=aiX S f h.2.2.2.1 (q+1+1) (by omega)
    have i2:=aiX S g h.2.2.2.2 (q+1+1) (by omega)
    refine ⟨by simp,fun d hd=>?_⟩
    simp only [List.mem_cons,List.not_mem_nil,or_false] at hd
    rcases hd with rfl | rfl | rfl | rfl | rfl
    · trivial
    · refine ⟨?_,fun d hd=>?_⟩
      · have:=h.1.len
        have:=S.l5
        rw [List.length_map]
        omega
      · obtain ⟨w,_,rfl⟩:=List.mem_map.mp hd
        trivial
    · trivial
    · exact i1
    · exact i2
theorem aoE {ns:List Str} (S:Sla ns):∀ (bs:Brs),bs.Ok ns→∀ n:Nat,bs.d+1≤n→∀ x∈bs.enc,SD n (ePr D.str eD x)
  | .nil,_,n,_,x,hx=>by cases hx
  | .cons w p r,h,n,hn,x,hx=>by
    have hn:max p.d r.d+1≤n:=hn
    rcases List.mem_cons.mp (show x∈(w,p.enc) :: r.enc from hx) with rfl | hx
    · have hp:2≤p.d:=by cases p <;> simp [Pap.d] <;> omega
      obtain ⟨m,rfl⟩:∃ m,n=m+1:=⟨n - 1,by omega⟩
      obtain ⟨q,rfl⟩:∃ q,m=q+1:=⟨m - 1,by omega⟩
      have i1:=aiX S p h.1 (q+1) (by omega)
      refine ⟨by simp,fun d hd=>?_⟩
      simp only [List.mem_cons,List.not_mem_nil,or_false] at hd
      rcases hd with rfl | rfl
      · trivial
      · exact i1
    · exact aoE S r h.2 n (by omega) x hx
end
end Wk
namespace Wk
open PySem PySem.Spec PyProof.Rows L2 Dn Tn
theorem sub_len:∀ {xs ys:List Str},xs.Nodup→(∀ w∈xs,w∈ys)→xs.length≤ys.length
  | [],_,_,_=>Nat.zero_le _
  | x :: xs,ys,hn,hs=>by
    have hx:=hs x (by simp)
    have hn':=List.nodup_cons.mp hn
    have:=sub_len (xs:=xs) (ys:=ys.erase x) hn'.2 fun w hw=>(List.mem_erase_of_ne (fun e=>hn'.1 (by rw [← e]; exact hw))).mpr (hs w (by simp [hw]))
    rw [List.length_erase_of_mem hx] at this
    have hp:=List.length_pos_of_mem hx
    rw [List.length_cons]
    omega
theorem arl {ns B:List Str} (hn:ns.Nodup) (h:B.length < ns.length):(ns.filter fun w=>!decide (w∈B))≠[]:=fun e=>by
  have sub:∀ w∈ns,w∈B:=fun w hw=>by
    by_cases c:w∈B
    · exact c
    · have:w∈(ns.filter fun w=>!decide (w∈B)):=List.mem_filter.mpr ⟨hw,by simp [c]⟩
      rw [e] at this
      cases this
  have:=sub_len hn sub
  omega
theorem anI {n:Nat} {o:List Int} {ns beg:List Str} (h:PO n o) (hn:n+1000 < 2 ^ 39) (S:Sla ns) (hb:beg.length < ns.length):Ho (abm o ns beg 4) fun r=>PO (n+100) r.2∧r.1.length≤4∧∀ t∈r.1,WtOk t:=by
  have h5:=S.l5
  unfold abm
  refine Hp.o ?_
  by_cases e:((beg.length:Int)=0)
  · rw [decide_eq_true e,if_pos rfl]
    exact Hp.ret ⟨h.mono (by omega),by simp,by simp⟩
  rw [decide_eq_false e,if_neg (by simp)]
  refine Hp.bind (P:=fun s:List Int×List (Int×Str×Int)=>∃ m:Nat,m≤4∧PO (n+1+10 * m) s.1∧s.2.length≤m∧∀ t∈s.2,WtOk t) ?_ fun s ⟨m,m1,m2,m3,m4⟩=>Hp.ret ⟨m2.mono (by omega),by dsimp only; omega,m4⟩
  refine Hp.bind (P:=fun s:List Int×List Int=>PO (n+1) s.2∧s.1.length≤4) ?_ fun ⟨xs,o1⟩ ⟨a1,a2⟩=>?_
  · refine Hp.bo (U7 h (by omega) (m:=4+1) (by omega) (by omega)) fun ⟨z,o1⟩ ⟨a1,a2,a3⟩=>?_
    dsimp only at a1 a2 a3 ⊢
    rw [adS (by omega) (by omega)]
    exact Hp.ret ⟨a3,by simp; omega⟩
  dsimp only at a1 a2 ⊢
  refine (Hp.fold (fun (xs:List Int) (s:List Int×List (Int×Str×Int))=>∃ m:Nat,m+xs.length≤4∧PO (n+1+10 * m) s.1∧s.2.length≤m∧∀ t∈s.2,WtOk t) (fun x xs s ⟨m,m1,m2,m3,m4⟩=>?_) _ _ ⟨0,by simpa using a2,by simpa using a1,by simp,by simp⟩).imp fun s ⟨m,m1,m2,m3,m4⟩=>⟨m,by simpa using m1,m2,m3,m4⟩
  obtain ⟨o2,ws⟩:=s
  dsimp only at m1 m2 m3 m4 ⊢
  rw [List.length_cons] at m1
  refine Hp.bind (P:=fun s:Int×List Int=>1≤s.1∧s.1≤beg.length∧PO (n+1+10 * m+1) s.2) ?_ fun ⟨at_,o3⟩ ⟨b1,b2,b3⟩=>?_
  · refine Hp.bo (U7 m2 (by omega) (m:=(beg.length:Int)) (by omega) (by omega)) fun ⟨z,o1⟩ ⟨a1,a2,a3⟩=>?_
    dsimp only at a1 a2 a3
    exact Hp.ret ⟨by dsimp only; omega,by dsimp only; omega,a3⟩
  dsimp only at b1 b2 b3 ⊢
  rw [Dn.agD (by omega) (by omega),ajm (fun w=>!decide (w∈beg.take at_.toNat)) ns (fun w _=>rfl) (by omega)]
  simp only [PR.m7,PR.m9]
  have hne:=arl (ns:=ns) (B:=beg.take at_.toNat) S.d (by rw [List.length_take]; omega)
  have hmem:∀ w∈(ns.filter fun w=>!decide (w∈beg.take at_.toNat)),WordS w:=fun w hw=>S.w w (List.mem_filter.mp hw).1
  have hlen:(ns.filter fun w=>!decide (w∈beg.take at_.toNat)).length≤5:=Nat.le_trans (List.length_filter_le _ _) h5
  generalize (ns.filter fun w=>!decide (w∈beg.take at_.toNat))=rest at hne hmem hlen
  have hpos:=List.length_pos_iff.mpr hne
  refine Hp.bind (P:=fun s:Str×List Int=>WordS s.1∧PO (n+1+10 * m+2) s.2) ?_ fun ⟨w,o4⟩ ⟨c1,c2⟩=>?_
  · refine Hp.bo (U7 b3 (by omega) (m:=(rest.length:Int)) (by omega) (by omega)) fun ⟨z,o1⟩ ⟨a1,a2,a3⟩=>?_
    dsimp only at a1 a2 a3 ⊢
    have ei:=List.getElem?_eq_getElem (show z.toNat < rest.length by omega)
    have hm:=List.getElem_mem (show z.toNat < rest.length by omega)
    have hat:=adA ei
    rw [Int.toNat_of_nonneg a1] at hat
    rw [hat]
    exact Hp.ret ⟨hmem _ hm,a3⟩
  dsimp only at c1 c2 ⊢
  refine Hp.bind (P:=fun s:Unit×List Int×List (Int×Str×Int)=>PO (n+1+10 * m+4) s.2.1∧s.2.2.length≤m+1∧∀ t∈s.2.2,WtOk t) ?_ fun ⟨u,o5,ws2⟩ ⟨d1,d2,d3⟩=>Hp.ret ⟨m+1,by omega,d1.mono (by omega),d2,d3⟩
  refine Hp.bind (P:=fun s:Int×List Int=>PO (n+1+10 * m+4) s.2∧0≤s.1∧s.1≤1000000000000) ?_ fun ⟨c,o5⟩ ⟨d1,d2,d3⟩=>?_
  · refine Hp.bo (U7 c2 (by omega) (m:=3) (by omega) (by omega)) fun ⟨z,o1⟩ ⟨a1,a2,a3⟩=>?_
    dsimp only at a1 a2 a3 ⊢
    obtain ⟨r,e1,q1,q2,q3⟩:=alW (s:=z) a3 (by omega)
    rw [e1]
    exact ⟨r,rfl,q1,q2,q3⟩
  dsimp only at d1 d2 d3 ⊢
  rw [abj (by omega)]
  refine Hp.ret ⟨d1,by simp; omega,fun t ht=>?_⟩
  rcases List.mem_append.mp ht with ht | ht
  · exact m4 t ht
  · rw [List.mem_singleton.mp ht]
    exact ⟨by dsimp only; omega,by dsimp only; omega,c1,d2,d3⟩
theorem anf {n:Nat} {o:List Int} {ns beg:List Str} (h:PO n o) (hn:n+2000 < 2 ^ 39) (S:Sla ns):Ho (abd o ns beg) fun r=>PO (n+200) r.2∧∃ p:Pap,r.1=p.enc∧p.Ok ns∧p.h=1∧p.cnt=1∧p.d≤4:=by
  have h5:=S.l5
  have l1:=S.l1
  unfold abd
  refine Hp.o ?_
  refine Hp.bind (P:=fun s:Bool×List Int=>PO (n+1) s.2) ?_ fun ⟨b,o1⟩ a=>?_
  · refine Hp.bo (U7 h (by omega) (m:=3) (by omega) (by omega)) fun ⟨z,o1⟩ ⟨a1,a2,a3⟩=>?_
    exact Hp.ret a3
  dsimp only at a ⊢
  cases b with
  | true=>exact Hp.ret ⟨a.mono (by omega),.dead,rfl,trivial,rfl,rfl,by show 2≤4; omega⟩
  | false=>
    simp only [Bool.false_eq_true,if_false]
    have hc:(Dn.cutD beg none (some ((ns.length:Int) - 1))).length < ns.length:=by
      by_cases hl:(ns.length:Int) - 1≤beg.length
      · rw [Dn.agD (by omega) hl,List.length_take]
        omega
      · have:(Dn.cutD beg none (some ((ns.length:Int) - 1))).length≤beg.length:=by
          unfold Dn.cutD
          simp only [List.length_take,List.length_drop]
          omega
        omega
    refine Hp.bind (P:=fun s:List (Int×Str×Int)×List Int=>PO (n+101) s.2∧s.1.length≤4∧∀ t∈s.1,WtOk t) ?_ fun ⟨ws,o2⟩ ⟨b1,b2,b3⟩=>Hp.ret ⟨b1.mono (by omega),.shut ws,rfl,⟨b2,b3⟩,rfl,rfl,Nat.le_refl 4⟩
    refine Hp.bo (anI a (by omega) S hc) fun r ⟨b1,b2,b3⟩=>Hp.ret ⟨b1.mono (by omega),b2,b3⟩
end Wk
namespace Wk
open PySem PySem.Spec PyProof.Rows L2 Dn Tn
structure Beg (ns beg:List Str):Prop where
  d:beg.Nodup
  s:∀ w∈beg,w∈ns
def TrOk (ns:List Str) (m:Nat) (z:Int) (r:D×List Int×List Int):Prop:=∃ (p:Pap) (z':Int),r.1=p.enc∧r.2.2=[z']∧0≤z'∧z'≤z∧p.Ok ns∧PO (m+1000 * p.cnt) r.2.1∧p.cnt≤1+6 * (z - z').toNat∧p.h≤1+(z - z').toNat∧p.d≤4+3 * (z - z').toNat
theorem ang {ns beg:List Str} {n:Nat} (S:Sla ns) (B:Beg ns beg) (T:∀ (m:Nat) (o:List Int) (beg:List Str) (z:Int),PO m o→0≤z→z.toNat+1≤n→Beg ns beg→m+1000 * (1+6 * z.toNat)+5000 < 2 ^ 39→Ho (aac n o ns beg [z]) (TrOk ns m z)):
    ∀ (xs:List Str) (m:Nat) (o:List Int) (z:Int) (i:Nat),(∀ w∈xs,w∈ns∧w∉beg)→PO m o→0≤z→z.toNat+1≤n→m+1000 * (xs.length+6 * z.toNat)+5000 < 2 ^ 39→i+xs.length≤1000→
      ∃ r,lcS (fun (x32:Str) (s36:(List Int)×(List Int))=>(some true)) (fun x32 s36=>(((PR.opt (catP beg [x32])).bind fun v38=>(PR.opt (aac n s36.1 ns v38 s36.2))).bind fun v40=>PR.ok ((x32,v40.1),(v40.2.1,v40.2.2))).o) xs (o,[z]) i=some r∧
        ∃ (bs:Brs) (z':Int),r.1=bs.enc∧bs.ns=xs∧r.2.2=[z']∧0≤z'∧z'≤z∧bs.Ok ns∧PO (m+1000 * bs.cnt) r.2.1∧bs.cnt≤xs.length+6 * (z - z').toNat∧bs.h≤1+(z - z').toNat∧bs.d≤4+3 * (z - z').toNat
  | [],m,o,z,i,_,h,hz,_,_,_=>⟨([],(o,[z])),rfl,.nil,z,rfl,rfl,rfl,hz,Int.le_refl z,trivial,h.mono (by omega),by show 0≤_; omega,by show 0≤_; omega,by show 1≤_; omega⟩
  | w :: xs,m,o,z,i,hw,h,hz,hn,hm,hi=>by
    have h5:=S.l5
    rw [List.length_cons] at hm hi
    obtain ⟨w1,w2⟩:=hw w (by simp)
    have hbl:=sub_len B.d B.s
    have B':Beg ns (beg++[w]):=⟨by
      rw [List.nodup_append]
      exact ⟨B.d,by simp,fun a ha b hb e=>by rw [List.mem_singleton.mp hb] at e; exact w2 (e▸ha)⟩,fun x hx=>(List.mem_append.mp hx).elim (B.s x) fun q=>by rw [List.mem_singleton.mp q]; exact w1⟩
    obtain ⟨⟨d,o1,l1⟩,e1,p,z1,q1,q2,q3,q4,q5,q6,q7,q8,q9⟩:=T m o (beg++[w]) z h hz hn B' (by omega)
    dsimp only at q1 q2 q6
    subst q1
    subst q2
    obtain ⟨r,e2,bs,z2,u1,u2,u3,u4,u5,u6,u7,u8,u9,u10⟩:=ang S B T xs (m+1000 * p.cnt) o1 z1 (i+1) (fun x hx=>hw x (by simp [hx])) q6 q3 (by omega) (by omega) (by omega)
    refine ⟨((w,p.enc) :: r.1,r.2),?_,.cons w p bs,z2,?_,?_,u3,u4,by omega,⟨q5,u6⟩,u7.mono (by show _≤m+1000 * (p.cnt+bs.cnt); omega),?_,?_,?_⟩
    · unfold lcS
      dsimp only
      rw [aft (by simp; omega)]
      simp only [PR.m7,PR.m9]
      rw [e1]
      simp only [PR.m7,PR.m9,PR.alm]
      rw [if_pos (aah (by omega)),e2]
      rfl
    · show (w,p.enc) :: r.1=(w,p.enc) :: bs.enc
      rw [u1]
    · show w :: bs.ns=w :: xs
      rw [u2]
    · show p.cnt+bs.cnt≤(w :: xs).length+_
      rw [List.length_cons]
      omega
    · show max p.h bs.h≤_
      omega
    · show max p.d bs.d≤_
      omega
theorem anh {ns:List Str} (S:Sla ns):∀ (n m:Nat) (o:List Int) (beg:List Str) (z:Int),PO m o→0≤z→z.toNat+1≤n→Beg ns beg→m+1000 * (1+6 * z.toNat)+5000 < 2 ^ 39→Ho (aac n o ns beg [z]) (TrOk ns m z)
  | 0,_,_,_,_,_,_,h,_,_=>absurd h (by omega)
  | n+1,m,o,beg,z,h,hz,hn,B,hm=>by
    have h5:=S.l5
    have T:=anh S n
    unfold aac
    refine Hp.o ?_
    rw [ajm (fun w=>!decide (w∈beg)) ns (fun w _=>rfl) (by omega)]
    simp only [PR.m7,PR.m9]
    have rmem:∀ w∈(ns.filter fun w=>!decide (w∈beg)),w∈ns∧w∉beg:=fun w hw=>by
      have:=List.mem_filter.mp hw
      exact ⟨this.1,by simpa using this.2⟩
    have rlen:(ns.filter fun w=>!decide (w∈beg)).length≤5:=Nat.le_trans (List.length_filter_le _ _) h5
    generalize (ns.filter fun w=>!decide (w∈beg))=rest at rmem rlen
    refine Hp.bo (U7 h (by omega) (m:=4) (by omega) (by omega)) fun ⟨sh,o1⟩ ⟨a1,a2,a3⟩=>?_
    dsimp only at a1 a2 a3 ⊢
    rw [afa]
    simp only [PR.m7,PR.m9]
    have leafC:Hp ((PR.opt (abd o1 ns beg)).bind fun v10=>PR.ok (v10.1,(v10.2,[z]))) (TrOk ns m z):=by
      refine Hp.bo (anf a3 (by omega) S) fun ⟨d,o2⟩ ⟨b1,p,b2,b3,b4,b5,b6⟩=>?_
      dsimp only at b1 b2 ⊢
      subst b2
      exact Hp.ret ⟨p,z,rfl,rfl,hz,Int.le_refl z,b3,b1.mono (by omega),by omega,by omega,by omega⟩
    by_cases hz0:z=0
    · rw [decide_eq_true hz0]
      simp only [if_true,PR.m9]
      exact leafC
    rw [decide_eq_false hz0]
    simp only [Bool.false_eq_true,if_false,PR.m9]
    by_cases hs0:sh=0
    · rw [decide_eq_true hs0,if_pos rfl]
      exact leafC
    rw [decide_eq_false hs0,if_neg (by simp),aqb (by omega) (by simp)]
    simp only [PR.m7,PR.m9]
    rw [show [z].set (0:Int).toNat (z - 1)=[z - 1] from rfl]
    by_cases hsp:((decide (sh=1)) || (decide ((rest.length:Int)=0)))=true
    · rw [if_pos hsp]
      refine Hp.bo (ajQ a3 (by omega) (by omega)) fun ⟨b,o2⟩ ⟨b1,b2⟩=>?_
      dsimp only at b1 b2 ⊢
      refine Hp.bind (P:=fun s:Int×List Int=>PO (m+1000) s.2∧0≤s.1∧s.1≤1000000000000) ?_ fun ⟨c,o3⟩ ⟨c1,c2,c3⟩=>?_
      · refine Hp.bo (U7 b1 (by omega) (m:=3) (by omega) (by omega)) fun ⟨y,o3⟩ ⟨y1,y2,y3⟩=>?_
        dsimp only at y1 y2 y3 ⊢
        obtain ⟨r,e1,q1,q2,q3⟩:=alW (s:=y) y3 (by omega)
        rw [e1]
        exact ⟨r,rfl,q1.mono (by omega),q2,q3⟩
      dsimp only at c1 c2 c3 ⊢
      refine Hp.bo (T (m+1000) o3 beg (z - 1) c1 (by omega) (by omega) B (by omega)) fun ⟨df,o4,l4⟩ ⟨f,z1,q1,q2,q3,q4,q5,q6,q7,q8,q9⟩=>?_
      dsimp only at q1 q2 q6 ⊢
      subst q1
      subst q2
      refine Hp.bo (T (m+1000+1000 * f.cnt) o4 beg z1 q6 q3 (by omega) B (by omega)) fun ⟨dg,o5,l5⟩ ⟨g,z2,u1,u2,u3,u4,u5,u6,u7,u8,u9⟩=>?_
      dsimp only at u1 u2 u6 ⊢
      subst u1
      subst u2
      refine Hp.ret ⟨.split b c f g,z2,rfl,rfl,u3,by omega,⟨b2,c2,c3,q5,u5⟩,u6.mono (by show _≤m+1000 * (f.cnt+g.cnt+1); omega),?_,?_,?_⟩
      · show f.cnt+g.cnt+1≤_
        omega
      · show max f.h g.h+1≤_
        omega
      · show max (max f.d g.d) 2+1≤_
        omega
    rw [if_neg hsp]
    have hr0:0 < rest.length:=by
      refine Nat.pos_of_ne_zero fun e=>hsp ?_
      rw [e]
      simp
    refine Hp.bind (P:=fun s:List Int×List Str=>PO (m+20) s.1∧0 < s.2.length∧s.2.length≤5∧∀ w∈s.2,w∈ns∧w∉beg) ?_ fun ⟨o2,r2⟩ ⟨b1,b2,b3,b4⟩=>?_
    · by_cases h2:sh=2
      · rw [decide_eq_true h2,if_pos rfl]
        refine Hp.bind (P:=fun s:List Str×List Int=>PO (m+20) s.2∧0 < s.1.length∧s.1.length≤5∧∀ w∈s.1,w∈ns∧w∉beg) ?_ fun ⟨r2,o2⟩ hh=>Hp.ret hh
        refine Hp.bind (P:=fun s:Int×List Int=>PO (m+2) s.2∧1≤s.1∧s.1≤rest.length) ?_ fun ⟨k,o2⟩ ⟨k1,k2,k3⟩=>?_
        · refine Hp.bo (U7 a3 (by omega) (m:=(rest.length:Int)) (by omega) (by omega)) fun ⟨y,o3⟩ ⟨y1,y2,y3⟩=>?_
          dsimp only at y1 y2 y3
          exact Hp.ret ⟨y3,by dsimp only; omega,by dsimp only; omega⟩
        dsimp only at k1 k2 k3 ⊢
        obtain ⟨r,e1,q1,q2,rr,q3⟩:=ajP (ns:=rest) (k:=k) k1 (by omega) (by omega) (by omega) (by omega)
        rw [e1]
        refine ⟨r,rfl,q1.mono (by omega),by omega,by omega,fun w hw=>rmem w (q3.mem_iff.mp (List.mem_append_right _ hw))⟩
      · rw [decide_eq_false h2,if_neg (by simp)]
        exact Hp.ret ⟨a3.mono (by omega),hr0,rlen,rmem⟩
    dsimp only at b1 b2 b3 b4 ⊢
    refine Hp.bind (P:=fun s:List Int×List Str=>PO (m+1000) s.1∧0 < s.2.length∧s.2.length≤6∧∀ w∈s.2,w∈ns∧w∉beg) ?_ fun ⟨o3,xs⟩ ⟨c1,c2,c3,c4⟩=>?_
    · refine Hp.bind (P:=fun s:Bool×List Int=>PO (m+21) s.2) ?_ fun ⟨b,o3⟩ c=>?_
      · by_cases h3:sh=3
        · rw [decide_eq_true h3,if_pos rfl]
          refine Hp.bind (P:=fun s:Bool×List Int=>PO (m+21) s.2) ?_ fun ⟨b,o3⟩ c=>Hp.ret c
          refine Hp.bo (U7 b1 (by omega) (m:=4) (by omega) (by omega)) fun ⟨y,o3⟩ ⟨y1,y2,y3⟩=>?_
          exact Hp.ret y3
        · rw [decide_eq_false h3,if_neg (by simp)]
          exact Hp.ret (b1.mono (by omega))
      dsimp only at c ⊢
      cases b with
      | false=>exact Hp.ret ⟨c.mono (by omega),b2,(by show r2.length≤6; omega),b4⟩
      | true=>
        simp only [if_true]
        rw [Dn.agD (by omega) (by omega),aft (by rw [List.length_take]; omega)]
        refine Hp.ret ⟨c.mono (by omega),by rw [List.length_append]; omega,by rw [List.length_append,List.length_take]; omega,fun w hw=>?_⟩
        rcases List.mem_append.mp hw with hw | hw
        · exact b4 w hw
        · exact b4 w (List.mem_of_mem_take hw)
    dsimp only at c1 c2 c3 c4 ⊢
    obtain ⟨r,e1,bs,z2,u1,u2,u3,u4,u5,u6,u7,u8,u9,u10⟩:=ang S B T xs (m+1000) o3 (z - 1) 0 c4 c1 (by omega) (by omega) (by omega) (by omega)
    rw [e1]
    simp only [PR.m7,PR.m9]
    refine Hp.ret ⟨.next bs,z2,?_,u3,u4,by omega,⟨by rw [u2]; exact c2,by rw [u2]; exact c3,fun w hw=>(c4 w (by rw [← u2]; exact hw)).1,u6⟩,u7.mono (by show _≤m+1000 * (bs.cnt+1); omega),?_,?_,?_⟩
    · show D.tup [D.str "next",j5 (ePr D.str eD) r.1]=_
      rw [u1]
      rfl
    · show bs.cnt+1≤_
      omega
    · show bs.h+1≤_
      omega
    · show bs.d+3≤_
      omega
theorem apk {n:Nat} {o:List Int} {ns:List Str} {p:Pap} {k:Int} (h:PO n o) (hn:n+1000000 < 2 ^ 39) (S:Sla ns) (hp:p.Ok ns) (k0:0≤k) (k1:k≤100) (hc:p.cnt≤1000):Ho (ab9 o ns p.enc k) fun r=>∃ q:Pap,r.1=q.enc∧q.Ok ns∧q.cnt≤p.cnt+2 * 100∧q.h≤p.h+100∧q.d≤max p.d 4+100:=by
  have h5:=S.l5
  unfold ab9
  refine Hp.o ?_
  rw [adS (by omega) (by omega)]
  simp only [PR.m7,PR.m9]
  refine Hp.bind (Hp.fold (fun (xs:List Int) (s:List Int×D)=>(∀ x∈xs,0≤x∧x≤1000)∧∃ (q:Pap) (j:Nat),s.2=q.enc∧q.Ok ns∧j+xs.length≤100∧PO (n+1000 * j) s.1∧q.cnt≤p.cnt+2 * j∧q.h≤p.h+j∧q.d≤max p.d 4+j) (fun x xs s ⟨ex,q,j,q1,q2,q3,q4,q5,q6,q7⟩=>?_) _ _ ⟨fun x hx=>?_,p,0,rfl,hp,by simp; omega,by simpa using h,by omega,by omega,by omega⟩) fun ⟨o1,d⟩ ⟨_,q,j,q1,q2,q3,q4,q5,q6,q7⟩=>?_
  · obtain ⟨o1,d⟩:=s
    dsimp only at q1 q4 ⊢
    subst q1
    rw [List.length_cons] at q3
    have hx:=ex x (by simp)
    refine Hp.bo (ajQ q4 (by omega) (by omega)) fun ⟨b,o2⟩ ⟨b1,b2⟩=>?_
    dsimp only at b1 b2 ⊢
    refine Hp.bo (anf b1 (by omega) S) fun ⟨dl,o3⟩ ⟨c1,l,c2,c3,c4,c5,c6⟩=>?_
    dsimp only at c1 c2 ⊢
    subst c2
    refine Hp.bind (P:=fun s:Bool×List Int=>PO (n+1000 * j+1000) s.2) ?_ fun ⟨t,o4⟩ d1=>?_
    · refine Hp.bo (U7 c1 (by omega) (m:=2) (by omega) (by omega)) fun ⟨y,o4⟩ ⟨y1,y2,y3⟩=>?_
      exact Hp.ret (y3.mono (by omega))
    dsimp only at d1 ⊢
    cases t with
    | true=>
      simp only [if_true,PR.lt_eq]
      refine Hp.ret ⟨fun y hy=>ex y (by simp [hy]),.split b x l q,j+1,rfl,⟨b2,hx.1,by omega,c3,q2⟩,by omega,d1.mono (by omega),?_,?_,?_⟩
      · show l.cnt+q.cnt+1≤_
        omega
      · show max l.h q.h+1≤_
        have:1≤q.h:=by cases q <;> simp [Pap.h]
        omega
      · show max (max l.d q.d) 2+1≤_
        omega
    | false=>
      simp only [Bool.false_eq_true,if_false,PR.lt_eq]
      refine Hp.ret ⟨fun y hy=>ex y (by simp [hy]),.split b x q l,j+1,rfl,⟨b2,hx.1,by omega,q2,c3⟩,by omega,d1.mono (by omega),?_,?_,?_⟩
      · show q.cnt+l.cnt+1≤_
        omega
      · show max q.h l.h+1≤_
        have:1≤q.h:=by cases q <;> simp [Pap.h]
        omega
      · show max (max q.d l.d) 2+1≤_
        omega
  · obtain ⟨i,hi,rfl⟩:=ajo.mp hx
    omega
  · dsimp only at q1 ⊢
    simp only [List.length_nil] at q3
    exact Hp.ret ⟨q,q1,q2,by omega,by omega,by omega⟩
end Wk
namespace Wk
open PySem PySem.Spec PyProof.Rows L2 Dn Tn
def Good (d:D):Prop:=∃ (ns:List Str) (p:Pap),d=p.enc∧Sla ns∧p.Ok ns∧p.cnt≤400∧p.h≤131∧p.d≤200
theorem law {is:List Int} (hl:is.length≤63) (hb:∀ z∈is,Builtin.Int.intBits z≤1048576):akE is=some true:=by
  refine Ho.to ?_
  unfold akE
  refine Hp.o ?_
  refine Hp.bind (P:=fun s:List D=>s.length=2∧∀ d∈s,Good d) ?_ fun s ⟨s1,s2⟩=>?_
  · rw [adS (by omega) (by omega)]
    simp only [PR.m7,PR.m9]
    refine (Hp.fold (fun (xs:List Int) (s:List D)=>(∀ x∈xs,0≤x∧x < 2)∧s.length+xs.length=2∧∀ d∈s,Good d) (fun x xs s ⟨ex,e1,e2⟩=>?_) _ _ ⟨fun x hx=>?_,by simp [rng],by simp⟩).imp fun s ⟨_,e1,e2⟩=>⟨by simpa using e1,e2⟩
    · rw [List.length_cons] at e1
      have hx:=ex x (by simp)
      refine Hp.bo (aqh hb x (by omega) (by omega)) fun o1 h1=>?_
      refine Hp.bo (apd h1 (by omega) (by omega) (by omega) (by omega)) fun ⟨ns,o2⟩ ⟨a1,a2,a3,a4,a5⟩=>?_
      dsimp only at a1 a2 a3 a4 a5 ⊢
      have S:Sla ns:=⟨a2,a3,by omega,by omega⟩
      refine Hp.bind (P:=fun r:D×List Int×List Int=>∃ p:Pap,r.1=p.enc∧p.Ok ns∧PO 1000000 r.2.1∧p.cnt≤175∧p.h≤30∧p.d≤91) ?_ fun ⟨d,o3,l3⟩ ⟨p,p1,p2,p3,p4,p5,p6⟩=>?_
      · refine Hp.bo (U7 a1 (by omega) (m:=30) (by omega) (by omega)) fun ⟨z,o3⟩ ⟨b1,b2,b3⟩=>?_
        dsimp only at b1 b2 b3 ⊢
        obtain ⟨r,e3,p,z2,q1,q2,q3,q4,q5,q6,q7,q8,q9⟩:=anh S 40 _ o3 [] z b3 b1 (by omega) ⟨by simp,by simp⟩ (by omega)
        rw [e3]
        exact ⟨r,rfl,p,q1,q5,q6.mono (by omega),by omega,by omega,by omega⟩
      dsimp only at p1 p3 ⊢
      subst p1
      refine Hp.bind (P:=fun r:D×List Int=>∃ q:Pap,r.1=q.enc∧q.Ok ns∧q.cnt≤400∧q.h≤131∧q.d≤200) ?_ fun ⟨d,o4⟩ ⟨q,q1,q2,q3,q4,q5⟩=>?_
      · refine Hp.bind (P:=fun s:Bool×List Int=>PO 1000001 s.2) ?_ fun ⟨b,o4⟩ c=>?_
        · refine Hp.bo (U7 p3 (by omega) (m:=8) (by omega) (by omega)) fun ⟨y,o4⟩ ⟨y1,y2,y3⟩=>?_
          exact Hp.ret y3
        dsimp only at c ⊢
        cases b with
        | false=>exact Hp.ret ⟨p,rfl,p2,by omega,by omega,by omega⟩
        | true=>
          simp only [if_true]
          refine Hp.bind (P:=fun r:D×List Int=>∃ q:Pap,r.1=q.enc∧q.Ok ns∧q.cnt≤400∧q.h≤131∧q.d≤200) ?_ fun ⟨d,o5⟩ hh=>Hp.ret hh
          refine Hp.bo (U7 c (by omega) (m:=101) (by omega) (by omega)) fun ⟨y,o5⟩ ⟨y1,y2,y3⟩=>?_
          dsimp only at y1 y2 y3 ⊢
          obtain ⟨r,e4,q,q1,q2,q3,q4,q5⟩:=apk y3 (by omega) S p2 y1 (by omega) (by omega)
          rw [e4]
          exact ⟨r,rfl,q,q1,q2,by omega,by omega,by omega⟩
      dsimp only at q1 ⊢
      subst q1
      rw [abj (by omega)]
      refine Hp.ret ⟨fun y hy=>ex y (by simp [hy]),by simp; omega,fun d hd=>?_⟩
      rcases List.mem_append.mp hd with hd | hd
      · exact e2 d hd
      · exact ⟨ns,q,List.mem_singleton.mp hd,S,q2,q3,q4,q5⟩
    · obtain ⟨i,hi,rfl⟩:=ajo.mp hx
      omega
  · match s,s1 with
    | [d1,d2],_=>
      rw [afa,ajC]
      simp only [PR.m7,PR.m9]
      rw [aeP (s:=()) _ fun x hx=>by
        have hg:Good x:=by
          simp only [List.mem_cons,List.not_mem_nil,or_false] at hx
          rcases hx with rfl | rfl | rfl
          · exact s2 _ (by simp)
          · exact s2 _ (by simp)
          · exact s2 _ (by simp)
        obtain ⟨ns,p,rfl,S,g1,g2,g3,g4⟩:=hg
        obtain ⟨j1,j2⟩:=al4 S g1 (by omega)
        have e1:acb p.enc=some (Txt.join "\n" p.lines):=by
          unfold acb
          rw [acI S p g1 140 (by omega) (by omega)]
          simp only [PR.m7,PR.m9]
          rw [j1]
          rfl
        rw [al2 S g1 (by omega)]
        simp only [PR.m7,PR.m9]
        rw [j1,e1]
        simp only [PR.m7,PR.m9]
        rw [show ((D.tyN (D.str (Txt.join "\n" p.lines))).bind fun t=>L2.kitB t "str")=some true from (by decide+kernel:L2.kitB "str" "str"=some true)]
        simp only [PR.m7,PR.m9,Bool.not_true,Bool.false_eq_true,if_false]
        simp only [decide_true,Bool.not_true,PR.m9,Bool.false_eq_true,if_false]
        rw [aqs S g1 (by omega) (by omega)]
        simp only [PR.m7,PR.m9]
        rw [ajy 220 p.enc (aiX S p g1 220 (by omega))]
        rfl]
      exact Hp.ret rfl
end Wk
namespace Wk
open PySem PySem.Spec PyProof.Rows L2 Dn Tn
theorem plain (is:List Int) (hl:is.length≤63) (hb:∀ z∈is,Builtin.Int.intBits z≤1048576):∃ e,akx [.im (.scr is)]=.ok (.im (.bl true)) e:=aor (aqe (XF:=XFT) is) (law hl hb)
end Wk
namespace Wk
open PySem PySem.Spec PyProof.Rows L2 Dn
theorem kiS:∀ p∈kiT,p.1.1∈rcL:=by decide
theorem ktS:∀ p∈ktT,p.1.1∈rcL:=by decide
theorem facts {K:Fg} [WD K] {w:World} {h:Heap} {mg:Str→Option Value} (X:K.In h) (G:h.Ns mainGlobals mg) (x:SaysX mfP faL fnL fxL fsL K) (hw:WD.P K=PySem.Challenge.pw_ballotturns_k64_whole_paper_texts_there∧WD.w K=w):TX PySem.Challenge.pw_ballotturns_k64_whole_paper_texts_there w K mg:=
  have c:=x.dd
  ⟨hw,
  c.def_ 0 (d:=agi) rfl,
  He.glo_ok X G (c.fact 0 (f:=.glo "_law_cell") rfl),
  c.def_ 1 (d:=agj) rfl,
  He.glo_ok X G (c.fact 1 (f:=.glo "_law_pool") rfl),
  c.def_ 2 (d:=ahE) rfl,
  He.glo_ok X G (c.fact 2 (f:=.glo "_law_mix") rfl),
  c.def_ 3 (d:=agk) rfl,
  He.glo_ok X G (c.fact 3 (f:=.glo "_law_draw") rfl),
  c.def_ 4 (d:=agl) rfl,
  He.glo_ok X G (c.fact 4 (f:=.glo "_law_word") rfl),
  c.def_ 5 (d:=af0) rfl,
  He.glo_ok X G (c.fact 5 (f:=.glo "_law_names") rfl),
  c.def_ 6 (d:=af1) rfl,
  He.glo_ok X G (c.fact 6 (f:=.glo "_law_times") rfl),
  c.def_ 7 (d:=aeE) rfl,
  He.glo_ok X G (c.fact 7 (f:=.glo "_law_weights") rfl),
  c.def_ 8 (d:=agm) rfl,
  He.glo_ok X G (c.fact 8 (f:=.glo "_law_leaf") rfl),
  c.def_ 9 (d:=afb) rfl,
  He.glo_ok X G (c.fact 9 (f:=.glo "_law_choice") rfl),
  c.def_ 10 (d:=afc) rfl,
  He.glo_ok X G (c.fact 10 (f:=.glo "_law_ballot") rfl),
  c.def_ 11 (d:=agn) rfl,
  He.glo_ok X G (c.fact 11 (f:=.glo "_law_tree") rfl),
  c.def_ 12 (d:=af2) rfl,
  He.glo_ok X G (c.fact 12 (f:=.glo "_law_tower") rfl),
  c.def_ 13 (d:=ac9) rfl,
  He.glo_ok X G (c.fact 13 (f:=.glo "_law_ballot_text") rfl),
  c.def_ 14 (d:=af3) rfl,
  He.glo_ok X G (c.fact 14 (f:=.glo "_law_lines") rfl),
  c.def_ 15 (d:=afd) rfl,
  He.glo_ok X G (c.fact 15 (f:=.glo "ballot_text") rfl),
  c.def_ 16 (d:=af4) rfl,
  He.glo_ok X G (c.fact 16 (f:=.glo "node_lines") rfl),
  c.def_ 17 (d:=af5) rfl,
  He.glo_ok X G (c.fact 17 (f:=.glo "paper_text") rfl),
  c.def_ 18 (d:=ago) rfl,
  He.glo_ok X G (c.fact 18 (f:=.glo "_law_same") rfl),
  c.def_ 19 (d:=agp) rfl,
  He.glo_ok X G (c.fact 19 (f:=.glo "is_number") rfl),
  c.def_ 20 (d:=adD) rfl,
  He.glo_ok X G (c.fact 20 (f:=.glo "is_short_number") rfl),
  c.def_ 21 (d:=aij) rfl,
  He.glo_ok X G (c.fact 21 (f:=.glo "is_name") rfl),
  c.def_ 22 (d:=adY) rfl,
  He.glo_ok X G (c.fact 22 (f:=.glo "is_ballot_text") rfl),
  c.def_ 23 (d:=agq) rfl,
  He.glo_ok X G (c.fact 23 (f:=.glo "ballot_of") rfl),
  c.def_ 24 (d:=aik) rfl,
  He.glo_ok X G (c.fact 24 (f:=.glo "triples") rfl),
  c.def_ 25 (d:=afe) rfl,
  He.glo_ok X G (c.fact 25 (f:=.glo "are_weights") rfl),
  c.def_ 26 (d:=af6) rfl,
  He.glo_ok X G (c.fact 26 (f:=.glo "read_paper") rfl),
  c.def_ 27 (d:=anM) rfl,
  He.glo_ok X G (c.fact 27 (f:=.glo "law") rfl),
  c.def_ 28 (d:=adE) rfl,
  c.def_ 29 (d:=adF) rfl,
  c.def_ 30 (d:=acQ) rfl,
  c.def_ 31 (d:=acW) rfl,
  c.def_ 32 (d:=afg) rfl,
  He.free_ok X G (c.fact 28 (f:=.free "all") rfl),
  He.free_ok X G (c.fact 29 (f:=.free "bool") rfl),
  He.free_ok X G (c.fact 30 (f:=.free "int") rfl),
  He.free_ok X G (c.fact 31 (f:=.free "isinstance") rfl),
  He.free_ok X G (c.fact 32 (f:=.free "len") rfl),
  He.free_ok X G (c.fact 33 (f:=.free "list") rfl),
  He.free_ok X G (c.fact 34 (f:=.free "range") rfl),
  He.free_ok X G (c.fact 35 (f:=.free "str") rfl),
  He.free_ok X G (c.fact 36 (f:=.free "tuple") rfl),
  He.glo_ok X G (c.fact 41 (f:=.glo "Reader") rfl),
  (He.mkr_ok (x.fact 0 (f:=.any agr) rfl)),
  (amM (x.fact 1 (f:=.any ahF) rfl)),
  (amM (x.fact 2 (f:=.any ahG) rfl)),
  (He.cls_ok (x.fact 3 (f:=.any ags) rfl)),
  (He.meth_ok (x.fact 4 (f:=.any acR) rfl)),
  (He.meth_ok (x.fact 5 (f:=.any abW) rfl)),
  (He.meth_ok (x.fact 6 (f:=.any acp) rfl)),
  (He.meth_ok (x.fact 7 (f:=.any adZ) rfl)),
  (have ⟨t,e⟩:=He.str_ok X G (c.fact 37 (f:=.str "DIGITS" "0123456789") rfl); ⟨_,e,t,rfl⟩),
  (have ⟨t,e⟩:=He.str_ok X G (c.fact 38 (f:=.str "LETTERS" "abcdefghijklmnopqrstuvwxyz") rfl); ⟨_,e,t,rfl⟩),
  (have ⟨t,e⟩:=He.int_ok X G (c.fact 39 (f:=.int "LONGEST_NAME" 12) rfl); ⟨_,e,t,rfl⟩),
  (have ⟨t,e⟩:=He.int_ok X G (c.fact 40 (f:=.int "MOST_DIGITS" 13) rfl); ⟨_,e,t,rfl⟩),
  beq_self_eq_true _,
  by kernel_rfl,
  He.free_ok X G (c.fact 42 (f:=.free "super") rfl),
  fun p hp=>of_decide_eq_true (x.mem (List.mem_append_right _ (List.mem_append_left _ (List.mem_map_of_mem (f:=fun p:(Str×Str)×Bool=>Fx.exm p.1.1 p.1.2 p.2) hp)))),
  fun p hp=>⟨(akX (x.mem (List.mem_append_right _ (List.mem_append_right _ (List.mem_append_right _ (List.mem_append_right _ (List.mem_append_left _ (List.mem_map_of_mem (f:=Fx.exc) (kiS p hp))))))))).1,of_decide_eq_true (x.mem (List.mem_append_right _ (List.mem_append_right _ (List.mem_append_left _ (List.mem_map_of_mem (f:=fun p:(Str×Str)×Bool=>Fx.kit p.1.1 p.1.2 p.2) hp)))))⟩,
  fun p hp=>⟨(akX (x.mem (List.mem_append_right _ (List.mem_append_right _ (List.mem_append_right _ (List.mem_append_right _ (List.mem_append_left _ (List.mem_map_of_mem (f:=Fx.exc) (ktS p hp))))))))).1,of_decide_eq_true (x.mem (List.mem_append_right _ (List.mem_append_right _ (List.mem_append_right _ (List.mem_append_left _ (List.mem_map_of_mem (f:=fun p:(Str×String)×Bool=>Fx.kitT p.1.1 p.1.2 p.2) hp))))))⟩,
  fun p hp=>aoM (x.mem (List.mem_append_right _ (List.mem_append_right _ (List.mem_append_right _ (List.mem_append_right _ (List.mem_append_right _ (List.mem_append_left _ (List.mem_map_of_mem (f:=Fx.oex) hp)))))))),
  fun p hp=>(fun z=>⟨of_decide_eq_true (He.ba z).1,of_decide_eq_true (He.ba z).2⟩) (x.mem (List.mem_append_right _ (List.mem_append_right _ (List.mem_append_right _ (List.mem_append_right _ (List.mem_append_right _ (List.mem_append_right _ (List.mem_append_left _ (List.mem_map_of_mem (f:=Fx.ini) hp)))))))))⟩
end Wk
open PySem PySem.W PySem.Calls PyProof.Rows
theorem PySem.Challenge.cw_ballotturns_k64_whole_paper_texts_there_holds : PySem.Challenge.rw_ballotturns_k64_whole_paper_texts_there.Holds := by
  w_on; o_law
  refine HandSHeadRun.head_any (r:=OpenLaw.row PySem.Challenge.rw_ballotturns_k64_whole_paper_texts_there) (q:=view (OpenLaw.row PySem.Challenge.rw_ballotturns_k64_whole_paper_texts_there).prog [39]) (H:=Wk.hk) (ob:=Wk.ob) (M:=5500) (loose:=Wk.looseL) (d:=HandSHeadRun.topDef (OpenLaw.row PySem.Challenge.rw_ballotturns_k64_whole_paper_texts_there).prog 39) (kwd:=[]) Wk.arA
    (by kernel_rfl) (fun s=>by kernel_rfl) Wk.run (by kernel_rfl) (by kernel_rfl) (by kernel_rfl) (by rfl) (by first | assumption | decide+kernel) (by decide+kernel) ⟨rfl,rfl,rfl,rfl,rfl,by decide+kernel⟩ ?hw ?hc
  case hw=>w_witness2
  case hc=>
    refine Dn.anU (l:=PySem.Challenge.rw_ballotturns_k64_whole_paper_texts_there) (n:=63) (k:=222) (x:="_law_script") (CX:=L2.CX0) rfl (by decide) (by kernel_rfl) ⟨rfl,by decide,by decide⟩ ?F (fun _ _ _ _ z=>z)
    intro w mg fa h Y G hmg0
    obtain ⟨K,KX,c⟩:=Y
    have hmg:mg ("law":PySem.Str)=some (.ref fa):=by
      have e:(HandSHeadRun.topDef (OpenLaw.row PySem.Challenge.rw_ballotturns_k64_whole_paper_texts_there).prog 39).name=("law":PySem.Str):=by kernel_rfl
      rw [← e]
      exact hmg0
    letI:Dn.WD K:=⟨(PySem.Challenge.rw_ballotturns_k64_whole_paper_texts_there).prog,w⟩
    have T:=Wk.facts KX G c ⟨rfl,rfl⟩
    obtain ⟨fd,F⟩:=T.arx
    have eg:=hmg.symm.trans T.arz
    cases eg
    have b:=L2.FunD.bindsA (ps:=["_law_script"]) F fun _ _ _ _ _ _ us hl=>match us,hl with | [_],_=>rfl
    refine ⟨K,fd,Dn.spD K Wk.akx,KX,fun s v=>b s [v] rfl,fun H a ns hl hb _ hS=>Dn.apJ hS (Wk.plain ns hl hb).choose_spec,fun base _ _=>Wk.aq7 (P:=(PySem.Challenge.rw_ballotturns_k64_whole_paper_texts_there).prog) (w:=w) (base:=base) T F⟩
