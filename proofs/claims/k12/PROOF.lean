import PyProof.Rows.All
import Wide.All
import OpenK.AllK
import Wide.FinOn
import HandS.ForMost
import HandS.Exc
import HandS.TryOnly
import HandS.ExcOwn
import HandS.WordsExc
import HandS.CallSlots
import HandS.Walk
import HandS.Wide
import HandS.Gcd
import HandS.IsInst
import HandS.Defaults
import HandS.Lambda
import HandS.EndTab
import HandS.ExcCtx
import HandS.HotCalls
import HandS.ExcField
import KE.KExcSuper
import KE.KTryMore
import HandS.HeadHook4
import HandS.TupAny
import HandS.Deep
import HandS.RaiseMore
import HandS.Flow
import HandS.Zip
import KE.KStateDown
import HandS.Head0
import HandS.Head1
import HandS.Head2
import HandS.Head3
import HandS.HeadEnd
import HandS.HeadHook1
import HandS.HeadHook2
import HandS.MakeKwOnly
import HandS.Style
import HandS.TupLe
import KE.GoesZip
import KE.GoesMore
import HandS.ExcValue
import HandS.ExcInit
import KE.KDflt
import HandS.Star
import HandS.FStr
import HandS.Property
import HandS.ClsMeth
import HandS.Small
import PyProof.MeetsIn
import HandS.Strs
import HandS.More
import HandS.Conv
import PyProof.ListStr
import KE.KSuper
import HandS.Text
import HandS.StrMore
import PyProof.StrBlock2
import KE.SortData
import HandS.SortInts
import KE.SortKeyed
import HandS.Keys
import HandS.SortKw
import KE.KDictPairs
import KE.KEqDict
import HandS.DictTup
import HandS.ListItems
import HandS.DictComp
import HandS.TupSets
import HandS.SetBool
import KE.KUnpackStar
import KE.KDictZip
import HandS.TupMul
import HandS.Finally
import HandS.OwnEq
import KE.KEqNest
import PyProof.DictFindH
import KE.KExcIs
import HandS.Nested
import PySem.Challenge.RW_missingmiles_k12_answers_told
set_option Elab.async false
set_option linter.all false
set_option maxRecDepth 100000
set_option autoImplicit false
set_option maxHeartbeats 2000000
namespace DL
open PySem PySem.Spec PyProof.Rows L2
inductive D where
  | non | bl (b:Bool) | int (i:Int) | str (x:Str)
  | lst (ds:List D) | tup (ds:List D)
  | ins (C:Addr) (fs:List (Str × D))
  | dk (kvs:List (Key × D)) | dt (kvs:List (List Key × D))
  | any
  | raw (v:V)
  | kt (ks:List Key)
abbrev Ex (H H':Hp):Prop:=∀ a o,H a=some o→H' a=some o
theorem Ex.refl (H:Hp):Ex H H:=fun _ _ h=>h
theorem Ex.trans {H H1 H2:Hp} (a:Ex H H1) (b:Ex H1 H2):Ex H H2:=fun x o h=>b x o (a x o h)
theorem Ex.new {H:Hp} {p:Addr} {o:HO} (h:H p=none):Ex H (upd H p o):=fun a u e=>by
  rw [upd_ne (ne_of_none e h)];exact e
theorem Ex.up {G H:Hp} {p:Addr} {o:HO} (e:Ex G H):Ex (upd G p o) (upd H p o):=fun a u h=>by
  by_cases q:a=p
  · subst q;rw [upd_same] at h ⊢;exact h
  · rw [upd_ne q] at h ⊢;exact e a u h
theorem Ex.free {G H:Hp} (e:Ex G H) {a:Addr} (h:H a=none):G a=none:=by
  cases q:G a with
  | none=>rfl
  | some o=>rw [e a o q] at h;cases h
theorem ex_rd {H H':Hp} {a:Addr} {u:HO} (e:Ex H H') (h:Rd H a u):Rd H' a u:=by
  rcases h with h | ⟨o,h⟩
  · exact Or.inl (e a _ h)
  · exact Or.inr ⟨o,e a _ h⟩
theorem ex_l {K:PySem.W.Frag} {H H':Hp} {a:Addr} {xs:List V} (e:Ex H H') (h:SqL K H a xs):SqL K H' a xs:=by
  rcases h with h | h
  · exact Or.inl (ex_rd e h)
  · exact Or.inr h
theorem ex_t {K:PySem.W.Frag} {H H':Hp} {a:Addr} {xs:List V} (e:Ex H H') (h:SqT K H a xs):SqT K H' a xs:=by
  rcases h with h | h
  · exact Or.inl (ex_rd e h)
  · exact Or.inr h
mutual
inductive DOk (K:PySem.W.Frag) (G:Hp):V→D→Prop
  | non:DOk K G .non .non
  | bl (b:Bool):DOk K G (.bl b) (.bl b)
  | int (i:Int):DOk K G (.int i) (.int i)
  | str (x:Str):DOk K G (.str x) (.str x)
  | lst {a:Addr} {vs:List V} {ds:List D}:G a=some (.lst vs)→DAll K G vs ds→DOk K G (.ref a) (.lst ds)
  | tup {a:Addr} {vs:List V} {ds:List D}:SqT K G a vs→DAll K G vs ds→DOk K G (.ref a) (.tup ds)
  | ins {a C dx:Addr} {vs:List (Str × V)} {fs:List (Str × D)}:G a=some (.ins C dx vs)→G dx=some (.own a)→FAll K G vs fs→DOk K G (.ref a) (.ins C fs)
  | any (v:V):DOk K G v .any
  | dk {a:Addr} {o:Obj} {vs:List (Key × V)} {fs:List (Key × D)}:G a=some (.frz o (.dK vs))→FAll K G vs fs→DOk K G (.ref a) (.dk fs)
  | dt {a:Addr} {o:Obj} {vs:List (List Key × V)} {fs:List (List Key × D)}:G a=some (.frz o (.dT vs))→FAll K G vs fs→DOk K G (.ref a) (.dt fs)
  | raw (v:V):DOk K G v (.raw v)
  | kt {a:Addr} {ks:List Key}:G a=some (.tup (ks.map kV))→DOk K G (.ref a) (.kt ks)
inductive DAll (K:PySem.W.Frag) (G:Hp):List V→List D→Prop
  | nil:DAll K G [] []
  | cons {v:V} {d:D} {vs:List V} {ds:List D}:DOk K G v d→DAll K G vs ds→DAll K G (v::vs) (d::ds)
inductive FAll (K:PySem.W.Frag) (G:Hp):{κ:Type}→List (κ × V)→List (κ × D)→Prop
  | nil {κ:Type}:FAll K G (κ:=κ) [] []
  | cons {κ:Type} {x:κ} {v:V} {d:D} {vs:List (κ × V)} {ds:List (κ × D)}:DOk K G v d→FAll K G vs ds→FAll K G ((x,v)::vs) ((x,d)::ds)
end
section
variable {K:PySem.W.Frag} {G G':Hp}
mutual
theorem DOk.mono (e:Ex G G'):∀ {v:V} {d:D},DOk K G v d→DOk K G' v d
  | _,_,.non=>.non
  | _,_,.bl b=>.bl b
  | _,_,.int i=>.int i
  | _,_,.str x=>.str x
  | _,_,.lst h a=>.lst (e _ _ h) (DAll.mono e a)
  | _,_,.tup h a=>.tup (ex_t e h) (DAll.mono e a)
  | _,_,.ins h h2 a=>.ins (e _ _ h) (e _ _ h2) (FAll.mono e a)
  | _,_,.any v=>.any v
  | _,_,.dk h a=>.dk (e _ _ h) (FAll.mono e a)
  | _,_,.dt h a=>.dt (e _ _ h) (FAll.mono e a)
  | _,_,.raw v=>.raw v
  | _,_,.kt h=>.kt (e _ _ h)
theorem DAll.mono (e:Ex G G'):∀ {vs:List V} {ds:List D},DAll K G vs ds→DAll K G' vs ds
  | _,_,.nil=>.nil
  | _,_,.cons h t=>.cons (DOk.mono e h) (DAll.mono e t)
theorem FAll.mono (e:Ex G G'):∀ {κ:Type} {vs:List (κ × V)} {ds:List (κ × D)},FAll K G vs ds→FAll K G' vs ds
  | _,_,_,.nil=>.nil
  | _,_,_,.cons h t=>.cons (DOk.mono e h) (FAll.mono e t)
end
theorem DAll.length:∀ {vs:List V} {ds:List D},DAll K G vs ds→vs.length=ds.length
  | _,_,.nil=>rfl
  | _,_,.cons _ t=>congrArg (· + 1) (DAll.length t)
theorem DAll.get:∀ {vs:List V} {ds:List D} {i:Nat} {d:D},DAll K G vs ds→ds[i]?=some d→∃ v,vs[i]?=some v∧DOk K G v d
  | _,_,_,_,.nil,e=>by simp at e
  | _,_,0,_,.cons h _,e=>by simp at e;subst e;exact ⟨_,rfl,h⟩
  | _,_,i + 1,_,.cons _ t,e=>by
    obtain ⟨v,h1,h2⟩:=DAll.get (i:=i) t (by simpa using e)
    exact ⟨v,by simpa using h1,h2⟩
theorem DAll.getV:∀ {vs:List V} {ds:List D} {i:Nat} {v:V},DAll K G vs ds→vs[i]?=some v→∃ d,ds[i]?=some d∧DOk K G v d
  | _,_,_,_,.nil,e=>by simp at e
  | _,_,0,_,.cons h _,e=>by simp at e;subst e;exact ⟨_,rfl,h⟩
  | _,_,i + 1,_,.cons _ t,e=>by
    obtain ⟨v,h1,h2⟩:=DAll.getV (i:=i) t (by simpa using e)
    exact ⟨v,by simpa using h1,h2⟩
theorem DAll.append:∀ {vs ws:List V} {ds es:List D},DAll K G vs ds→DAll K G ws es→DAll K G (vs++ws) (ds++es)
  | _,_,_,_,.nil,s=>s
  | _,_,_,_,.cons h t,s=>.cons h (DAll.append t s)
theorem DAll.take:∀ {vs:List V} {ds:List D} (n:Nat),DAll K G vs ds→DAll K G (vs.take n) (ds.take n)
  | _,_,0,_=>by rw [List.take_zero,List.take_zero];exact .nil
  | _,_,_ + 1,.nil=>.nil
  | _,_,n + 1,.cons h t=>.cons h (DAll.take n t)
theorem DAll.drop:∀ {vs:List V} {ds:List D} (n:Nat),DAll K G vs ds→DAll K G (vs.drop n) (ds.drop n)
  | _,_,0,r=>r
  | _,_,_ + 1,.nil=>.nil
  | _,_,n + 1,.cons _ t=>DAll.drop n t
theorem DAll.set {v:V} {d:D} (r:DOk K G v d):∀ {vs:List V} {ds:List D} (i:Nat),DAll K G vs ds→DAll K G (vs.set i v) (ds.set i d)
  | _,_,_,.nil=>.nil
  | _,_,0,.cons _ t=>.cons r t
  | _,_,i + 1,.cons q t=>.cons q (DAll.set r i t)
theorem FAll.look {κ:Type} [BEq κ]:∀ {vs:List (κ × V)} {fs:List (κ × D)} {f:κ} {d:D},FAll K G vs fs→fs.lookup f=some d→∃ v,vs.lookup f=some v∧DOk K G v d
  | _,_,_,_,.nil,e=>by simp at e
  | _,_,f,d,.cons (x:=x) h t,e=>by
    rw [List.lookup_cons] at e
    rw [List.lookup_cons]
    cases q:f == x with
    | true=>rw [q] at e;cases e;exact ⟨_,rfl,h⟩
    | false=>rw [q] at e;exact FAll.look t e
theorem FAll.lookN {κ:Type} [BEq κ]:∀ {vs:List (κ × V)} {fs:List (κ × D)} {f:κ},FAll K G vs fs→fs.lookup f=none→vs.lookup f=none
  | _,_,_,.nil,_=>rfl
  | _,_,f,.cons (x:=x) h t,e=>by
    rw [List.lookup_cons] at e ⊢
    cases q:f == x with
    | true=>rw [q] at e;cases e
    | false=>rw [q] at e;exact FAll.lookN t e
end
inductive OO where
  | lst (ds:List D)
  | ins (x C:Addr) (fs:List (Str × D))
  | dk (kvs:List (Key × D)) | dt (kvs:List (List Key × D))
structure GR where
  as:List Addr
  R:PySem.W.Frag→Hp→Hp→Prop
  st:∀ K G G' H H',Ex G G'→(∀ a∈as,H' a=H a)→R K G H→R K G' H'
  kd:Addr→Addr
inductive DV where
  | d (x:D) | src | own (o:OO) | bor (o:OO) | see (o:OO)
  | mu (x C:Addr) (fs:List (Str × D))
  | gh (x:Addr) (r:GR)
def OwnOk (K:PySem.W.Frag) (G H:Hp) (a:Addr):OO→Prop
  | .lst ds=>∃ vs,H a=some (.lst vs)∧DAll K G vs ds
  | .ins x C fs=>a=x∧∃ dx vs,H a=some (.ins C dx vs)∧G dx=some (.own a)∧FAll K G vs fs
  | .dk kvs=>∃ vs,H a=some (.dK vs)∧FAll K G vs kvs
  | .dt kvs=>∃ vs,H a=some (.dT vs)∧FAll K G vs kvs
theorem OwnOk.there {K:PySem.W.Frag} {G H:Hp} {a:Addr} {o:OO} (h:OwnOk K G H a o):H a≠none:=by
  cases o with
  | lst ds=>obtain ⟨vs,e,_⟩:=h;rw [e];simp
  | ins x C fs=>obtain ⟨_,dx,vs,e,_⟩:=h;rw [e];simp
  | dk kvs=>obtain ⟨vs,e,_⟩:=h;rw [e];simp
  | dt kvs=>obtain ⟨vs,e,_⟩:=h;rw [e];simp
theorem OwnOk.keep {K:PySem.W.Frag} {G H G' H':Hp} {a:Addr} {o:OO} (h:OwnOk K G H a o) (e:Ex G G') (k:H' a=H a):OwnOk K G' H' a o:=by
  cases o with
  | lst ds=>obtain ⟨vs,q,r⟩:=h;exact ⟨vs,by rw [k];exact q,r.mono e⟩
  | ins x C fs=>obtain ⟨ex,dx,vs,q,g,r⟩:=h;exact ⟨ex,dx,vs,by rw [k];exact q,e _ _ g,r.mono e⟩
  | dk kvs=>obtain ⟨vs,q,r⟩:=h;exact ⟨vs,by rw [k];exact q,r.mono e⟩
  | dt kvs=>obtain ⟨vs,q,r⟩:=h;exact ⟨vs,by rw [k];exact q,r.mono e⟩
def BorOk (K:PySem.W.Frag) (G H:Hp) (a:Addr):OO→Prop
  | .dk kvs=>∃ o vs,H a=some (.frz o (.dK vs))∧FAll K G vs kvs
  | .dt kvs=>∃ o vs,H a=some (.frz o (.dT vs))∧FAll K G vs kvs
  | .lst ds=>OwnOk K G H a (.lst ds)
  | .ins x C fs=>OwnOk K G H a (.ins x C fs)
theorem BorOk.there {K:PySem.W.Frag} {G H:Hp} {a:Addr} {o:OO} (h:BorOk K G H a o):H a≠none:=by
  cases o with
  | lst ds=>exact OwnOk.there (K:=K) (G:=G) (o:=.lst ds) h
  | ins x C fs=>exact OwnOk.there (K:=K) (G:=G) (o:=.ins x C fs) h
  | dk kvs=>obtain ⟨o,vs,e,_⟩:=h;rw [e];simp
  | dt kvs=>obtain ⟨o,vs,e,_⟩:=h;rw [e];simp
theorem BorOk.keep {K:PySem.W.Frag} {G H G' H':Hp} {a:Addr} {o:OO} (h:BorOk K G H a o) (e:Ex G G') (k:H' a=H a):BorOk K G' H' a o:=by
  cases o with
  | lst ds=>exact OwnOk.keep (o:=.lst ds) h e k
  | ins x C fs=>exact OwnOk.keep (o:=.ins x C fs) h e k
  | dk kvs=>obtain ⟨o,vs,q,r⟩:=h;exact ⟨o,vs,by rw [k];exact q,r.mono e⟩
  | dt kvs=>obtain ⟨o,vs,q,r⟩:=h;exact ⟨o,vs,by rw [k];exact q,r.mono e⟩
def SeeOk (K:PySem.W.Frag) (G H:Hp) (a:Addr) (o:OO):Prop:=OwnOk K G H a o
def SrcOk (K:PySem.W.Frag) (G H:Hp) (a c:Addr):Prop:=G a=none∧∃ (ns:List Int) (i r sd n:Int),
  H a=some (.lst [.ref c,.int i,.int r,.int sd,.int n])∧SqL K G c (ns.map V.int)∧ns.length≤63∧0≤i∧0≤r∧0≤sd∧sd < 4294967296
def TabOk (G H:Hp) (a:Addr) (q:Str):Prop:=G a=none∧∃ ps:Array Value,H a=some (.tbl ps)∧TriplesOk ps.toList∧∀ (pos:Pos) (cv:Value),codeAmong pos ps.toList=some cv→∃ c,cv=.ref c∧G c=some (LamX.CodeO c q)
inductive Kd where
  | src (c:Addr) | tab (q:Str) | mt (C:Addr)
abbrev So:=List (Addr × Kd)
def So.Vol (so:So) (a:Addr):Prop:=∃ k,(a,k)∈so
abbrev So.Nt (so:So) (a:Addr):Prop:=¬ so.Vol a
def So.Nq (so:So) (a:Addr):Prop:=∀ k,(a,k)∈so→∃ C,k=.mt C
theorem So.Nt.q {so:So} {a:Addr} (h:so.Nt a):so.Nq a:=fun k e=>absurd ⟨k,e⟩ h
def lamNames:List Str:=["law","Tableau.improve","Ways.layer_step","_law_layer_step","plain_forms","_law_triangles","_law_case_layer","_law_fact_row","needless","exchangeable","_law_may","_law_set","_law_joined_due","_law_kept_by_hand"]
def lamFns (K:PySem.W.Frag):List (Addr × Addr × Str):=K.filterMap fun p=>match p.2.data with
  | .func fd=>(match fd.code with
    | .ref c=>if lamNames.contains fd.qualname then some (c,He.tabOf K c,fd.qualname++".<locals>."++"<lambda>") else none
    | _=>none)
  | _=>none
structure SoOk (K:PySem.W.Frag) (so:So):Prop where
  tb:∀ q∈lamFns K,(q.2.1,Kd.tab q.2.2)∈so
  uq:∀ a k k',(a,k)∈so→(a,k')∈so→k=k'
def KOk (K:PySem.W.Frag) (G H:Hp) (a:Addr):Kd→Prop
  | .src c=>SrcOk K G H a c
  | .tab q=>TabOk G H a q
  | .mt C=>G a=none∧((∃ dx vs,H a=some (.ins C dx vs)∧G dx=some (.own a))∨∃ vs,H a=some (.lst vs)∨(∃ ks,H a=some (.dK ks))∨∃ ks,H a=some (.dT ks))
theorem KOk.g {K:PySem.W.Frag} {G H:Hp} {a:Addr} {k:Kd} (h:KOk K G H a k):G a=none:=by
  cases k with
  | src c=>exact h.1
  | tab q=>exact h.1
  | mt C=>exact h.1
theorem KOk.there {K:PySem.W.Frag} {G H:Hp} {a:Addr} {k:Kd} (h:KOk K G H a k):H a≠none:=by
  cases k with
  | src c=>obtain ⟨_,_,_,_,_,_,e,_⟩:=h;rw [e];simp
  | tab q=>obtain ⟨_,_,e,_⟩:=h;rw [e];simp
  | mt C=>obtain ⟨_,⟨_,_,e,_⟩ | ⟨_,e | ⟨_,e⟩ | ⟨_,e⟩⟩⟩:=h<;>(rw [e];simp)
theorem KOk.keep {K:PySem.W.Frag} {H H' G G':Hp} {a:Addr} {k:Kd} (s:KOk K G H a k) (e:Ex G G') (g:G' a=none) (q:H' a=H a):KOk K G' H' a k:=by
  cases k with
  | src c=>
    obtain ⟨_,ns,i,r,sd,n,h1,h2,h3⟩:=s
    exact ⟨g,ns,i,r,sd,n,by rw [q];exact h1,ex_l e h2,h3⟩
  | tab z=>
    obtain ⟨_,ps,h1,h2,h3⟩:=s
    exact ⟨g,ps,by rw [q];exact h1,h2,fun pos cv hc=>let ⟨c,e1,e2⟩:=h3 pos cv hc;⟨c,e1,e _ _ e2⟩⟩
  | mt C=>
    obtain ⟨_,⟨dx,vs,h1,h2⟩ | ⟨vs,h⟩⟩:=s
    · exact ⟨g,.inl ⟨dx,vs,by rw [q];exact h1,e _ _ h2⟩⟩
    · exact ⟨g,.inr ⟨vs,by rw [q];exact h⟩⟩
def VOk (K:PySem.W.Frag) (G:Hp) (so:So) (H:Hp) (v:V):DV→Prop
  | .d x=>DOk K G v x
  | .src=>∃ a,(∃ c,(a,.src c)∈so)∧v=.ref a
  | .own o=>∃ a,v=.ref a∧G a=none∧so.Nt a∧OwnOk K G H a o
  | .bor o=>∃ a,v=.ref a∧so.Nt a∧BorOk K G H a o
  | .see o=>∃ a,v=.ref a∧so.Nt a∧SeeOk K G H a o
  | .mu _ _ _=>False
  | .gh _ _=>False
def SlOk (K:PySem.W.Frag) (G:Hp) (so:So) (H:Hp) (v:V):DV→Prop
  | .mu x C fs=>v=.ref x∧(x,.mt C)∈so∧∃ dx vs,H x=some (.ins C dx vs)∧FAll K G vs fs
  | .gh x r=>v=.ref x∧(∀ a∈r.as,(a,.mt (r.kd a))∈so∧H a≠none)∧r.R K G H
  | dv=>VOk K G so H v dv
structure HRep (K:PySem.W.Frag) (G:Hp) (so:So) (H:Hp):Prop where
  ex:Ex G H
  vol:∀ a k,(a,k)∈so→KOk K G H a k
  ok:SoOk K so
  tp:∀ a xs,H a=some (.tup xs)→G a=some (.tup xs)
theorem tp_upd {G H:Hp} {a:Addr} {o:HO} (h:∀ b xs,H b=some (.tup xs)→G b=some (.tup xs)) (nt:∀ xs,o≠.tup xs):∀ b xs,(upd H a o) b=some (.tup xs)→G b=some (.tup xs):=fun b xs e=>by
  by_cases z:b=a
  · subst z;rw [upd_same] at e;exact absurd (Option.some.inj e) (nt xs)
  · rw [upd_ne z] at e;exact h b xs e
theorem tp_G {G H:Hp} {a:Addr} {u:HO} (h:∀ b xs,H b=some (.tup xs)→G b=some (.tup xs)) (ga:G a=none):∀ b xs,H b=some (.tup xs)→(upd G a u) b=some (.tup xs):=fun b xs e=>by
  have g:=h b xs e
  rw [upd_ne (fun z=>by rw [z,ga] at g;cases g)];exact g
theorem tp_both {G H:Hp} {a:Addr} {o:HO} (h:∀ b xs,H b=some (.tup xs)→G b=some (.tup xs)):∀ b xs,(upd H a o) b=some (.tup xs)→(upd G a o) b=some (.tup xs):=fun b xs e=>by
  by_cases z:b=a
  · subst z;rw [upd_same] at e ⊢;exact e
  · rw [upd_ne z] at e ⊢;exact h b xs e
theorem HRep.nsrc {K:PySem.W.Frag} {G:Hp} {so:So} {H:Hp} (h:HRep K G so H) {a:Addr} {o:HO} (q:G a=some o):so.Nt a:=fun ⟨k,z⟩=>by
  rw [(h.vol a k z).g] at q;cases q
theorem HRep.there {K:PySem.W.Frag} {G:Hp} {so:So} {H:Hp} (h:HRep K G so H) {a:Addr} (q:H a=none):so.Nt a:=fun ⟨k,z⟩=>(h.vol a k z).there q
theorem HRep.vth {K:PySem.W.Frag} {G:Hp} {so:So} {H:Hp} (h:HRep K G so H) {a:Addr} (s:so.Vol a):H a≠none:=fun q=>h.there q s
abbrev DSt:=List (Option DV)
def Own (sl:DSt) (σ:L2.St) (a:Addr):Prop:=∃ (i:Nat) (o:OO),sl[i]?=some (some (.own o))∧σ[i]?=some (some (.ref a))
structure Rep (K:PySem.W.Frag) (G:Hp) (so:So) (σ:L2.St) (H:Hp) (sl:DSt):Prop where
  h:HRep K G so H
  len:sl.length=σ.length
  slots:∀ (i:Nat) (dv:DV),sl[i]?=some (some dv)→∃ v,σ[i]?=some (some v)∧SlOk K G so H v dv
  sep:∀ (i j:Nat) (o o':OO) (a:Addr),sl[i]?=some (some (.own o))→sl[j]?=some (some (.own o'))→σ[i]?=some (some (.ref a))→σ[j]?=some (some (.ref a))→i=j
  bor:∀ (i:Nat) (o:OO) (a:Addr),sl[i]?=some (some (.bor o))→σ[i]?=some (some (.ref a))→¬ Own sl σ a
  nse:∀ (i:Nat) (o:OO),sl[i]?≠some (some (.see o))
structure Post (K:PySem.W.Frag) (G:Hp) (so:So) (σ:L2.St) (H:Hp) (sl:DSt) (H' G':Hp) (sl':DSt):Prop where
  ex:Ex G G'
  rep:Rep K G' so σ H' sl'
  keep:∀ a o,H a=some o→so.Nt a→H' a=some o
  frm:∀ a,H a≠none→G a=none→so.Nt a→¬ Own sl σ a→G' a=none
  sub:∀ a,Own sl' σ a→Own sl σ a
  bsub:∀ (i:Nat) (o:OO),sl'[i]?=some (some (.bor o))→∃ o',sl[i]?=some (some (.bor o'))
structure PostE (K:PySem.W.Frag) (G:Hp) (so:So) (σ:L2.St) (H:Hp) (sl:DSt) (v:V) (H' G':Hp) (dv:DV) (sl':DSt):Prop extends Post K G so σ H sl H' G' sl' where
  val:VOk K G' so H' v dv
  new:∀ a o,dv=.own o→v=.ref a→H a=none∨Own sl σ a
  sepv:∀ a o,dv=.own o∨dv=.bor o→v=.ref a→¬ Own sl' σ a
  nbs:∀ (a:Addr) (o:OO) (i:Nat) (o':OO),dv=.own o→v=.ref a→sl'[i]?=some (some (.bor o'))→σ[i]?=some (some (.ref a))→False
section
variable {K:PySem.W.Frag} {G G1 G2:Hp} {so:So} {σ:L2.St} {H H1 H2:Hp} {sl s1 s2:DSt} {v x y:V} {dv dx dy:DV}
theorem Rep.nown (r:Rep K G so σ H sl) {a:Addr} (h:Own sl σ a):H a≠none∧G a=none∧so.Nt a:=by
  obtain ⟨i,o,e1,e2⟩:=h
  obtain ⟨v,e3,e4⟩:=r.slots i _ e1
  rw [e2] at e3;cases e3
  obtain ⟨b,q,g,s,k⟩:=e4
  cases q
  exact ⟨k.there,g,s⟩
theorem Post.refl (r:Rep K G so σ H sl):Post K G so σ H sl H G sl:=⟨Ex.refl G,r,fun _ _ e _=>e,fun _ _ g _ _=>g,fun _ o=>o,fun _ o e=>⟨o,e⟩⟩
theorem keep_nq {H H':Hp} {so:So} (k:∀ a o,H a=some o→so.Nq a→H' a=some o) {a:Addr} (n:H a≠none) (s:so.Nq a):H' a=H a:=by
  cases q:H a with
  | none=>exact absurd q n
  | some o=>exact k a o q s
theorem keep_ne {H H':Hp} {so:So} (k:∀ a o,H a=some o→so.Nt a→H' a=some o) {a:Addr} (n:H a≠none) (s:so.Nt a):H' a=H a:=by
  cases q:H a with
  | none=>exact absurd q n
  | some o=>exact k a o q s
theorem Post.trans (a:Post K G so σ H sl H1 G1 s1) (b:Post K G1 so σ H1 s1 H2 G2 s2):Post K G so σ H sl H2 G2 s2:=
  ⟨a.ex.trans b.ex,b.rep,fun c o e s=>b.keep c o (a.keep c o e s) s,fun c n g s w=>by
    have n1:H1 c≠none:=by rw [keep_ne a.keep n s];exact n
    exact b.frm c n1 (a.frm c n g s w) s fun z=>w (a.sub c z),fun c o=>a.sub c (b.sub c o),fun i o e=>let ⟨o1,e1⟩:=b.bsub i o e;a.bsub i o1 e1⟩
theorem VOk.keep (h:VOk K G so H x dx) (e:Ex G G1) (k:∀ a o,H a=some o→so.Nt a→H1 a=some o) (g:∀ a o,dx=.own o→x=.ref a→G1 a=none):VOk K G1 so H1 x dx:=by
  cases dx with
  | d z=>exact DOk.mono e h
  | src=>exact h
  | own o=>
    obtain ⟨a,q,q1,q2,q3⟩:=h
    exact ⟨a,q,g a o rfl q,q2,q3.keep e (keep_ne k q3.there q2)⟩
  | bor o=>
    obtain ⟨a,q,q2,q3⟩:=h
    exact ⟨a,q,q2,q3.keep e (keep_ne k q3.there q2)⟩
  | see o=>
    obtain ⟨a,q,q2,q3⟩:=h
    exact ⟨a,q,q2,q3.keep e (keep_ne k q3.there q2)⟩
  | mu y C fs=>exact h
  | gh y r=>exact h
theorem SlOk.keep (h:SlOk K G so H x dx) (ok:SoOk K so) (e:Ex G G1) (k:∀ a o,H a=some o→so.Nq a→H1 a=some o) (g:∀ a o,dx=.own o→x=.ref a→G1 a=none):SlOk K G1 so H1 x dx:=by
  have k':∀ a o,H a=some o→so.Nt a→H1 a=some o:=fun a o e s=>k a o e s.q
  cases dx with
  | mu y C fs=>
    obtain ⟨q,m,dx,vs,h1,h2⟩:=h
    exact ⟨q,m,dx,vs,k y _ h1 fun k' e'=>⟨C,ok.uq y k' (.mt C) e' m⟩,h2.mono e⟩
  | gh y r=>
    obtain ⟨q,m,h1⟩:=h
    have kp:∀ a∈r.as,H1 a=H a:=fun a ha=>by
      obtain ⟨m1,m2⟩:=m a ha
      obtain ⟨o,z⟩:=Option.ne_none_iff_exists'.mp m2
      rw [z,k a o z fun k' e'=>⟨r.kd a,ok.uq a k' (.mt (r.kd a)) e' m1⟩]
    exact ⟨q,fun a ha=>⟨(m a ha).1,by rw [kp a ha];exact (m a ha).2⟩,r.st K G G1 H H1 e kp h1⟩
  | d z=>exact VOk.keep (dx:=.d z) h e k' g
  | src=>exact VOk.keep (K:=K) (dx:=.src) h e k' g
  | own o=>exact VOk.keep (dx:=.own o) h e k' g
  | bor o=>exact VOk.keep (dx:=.bor o) h e k' g
  | see o=>exact VOk.keep (dx:=.see o) h e k' g
theorem SlOk.val (h:SlOk K G so H x dx) (n:∀ y C fs,dx≠.mu y C fs) (n2:∀ y r,dx≠.gh y r):VOk K G so H x dx:=by
  cases dx with
  | mu y C fs=>exact absurd rfl (n y C fs)
  | gh y r=>exact absurd rfl (n2 y r)
  | _=>exact h
theorem VOk.slot (h:VOk K G so H x dx):SlOk K G so H x dx:=by
  cases dx with
  | mu y C fs=>exact h.elim
  | gh y r=>exact h.elim
  | _=>exact h
theorem SlOk.muU {a y C:Addr} {o:HO} {fs:List (Str × D)} (h:SlOk K G so H x (.mu y C fs)) (e:Ex G G1) (n:so.Nt a):SlOk K G1 so (upd H a o) x (.mu y C fs):=by
  obtain ⟨q,m,dx,vs,h1,h2⟩:=h
  exact ⟨q,m,dx,vs,by rw [upd_ne (fun z=>n ⟨_,z ▸ m⟩)];exact h1,h2.mono e⟩
theorem SlOk.ghU {a y:Addr} {o:HO} {r:GR} (h:SlOk K G so H x (.gh y r)) (e:Ex G G1) (n:so.Nt a):SlOk K G1 so (upd H a o) x (.gh y r):=by
  obtain ⟨q,m,h1⟩:=h
  have kp:∀ b∈r.as,upd H a o b=H b:=fun b hb=>upd_ne (fun z=>n ⟨_,z ▸ (m b hb).1⟩)
  exact ⟨q,fun b hb=>⟨(m b hb).1,by rw [kp b hb];exact (m b hb).2⟩,r.st K G G1 H _ e kp h1⟩
theorem PostE.over (a:PostE K G so σ H sl x H1 G1 dx s1) (b:Post K G1 so σ H1 s1 H2 G2 s2):VOk K G2 so H2 x dx:=
  a.val.keep b.ex b.keep fun c o e q=>by
    have w:VOk K G1 so H1 x dx:=a.val
    rw [e] at w
    obtain ⟨c',q',g,s,k⟩:=w
    rw [q] at q';cases q'
    exact b.frm c k.there g s (a.sepv c o (.inl e) q)
end
structure PostV (K:PySem.W.Frag) (G:Hp) (so:So) (H:Hp) (v:V) (H' G':Hp) (dv:DV):Prop where
  ex:Ex G G'
  hrep:HRep K G' so H'
  keep:∀ a o,H a=some o→so.Nq a→H' a=some o
  frm:∀ a,H a≠none→G a=none→so.Nt a→G' a=none
  val:VOk K G' so H' v dv
  new:∀ a o,dv=.own o→v=.ref a→H a=none
  nob:∀ o,dv≠.bor o
section
variable {K:PySem.W.Frag} {G G':Hp} {so:So} {σ:L2.St} {H H':Hp} {sl:DSt} {v:V} {dv:DV}
theorem PostV.slots (p:PostV K G so H v H' G' dv) (r:Rep K G so σ H sl):PostE K G so σ H sl v H' G' dv sl where
  ex:=p.ex
  rep:=⟨p.hrep,r.len,fun i d e=>by
    obtain ⟨w,e1,e2⟩:=r.slots i d e
    refine ⟨w,e1,SlOk.keep e2 r.h.ok p.ex p.keep fun a o ed q=>?_⟩
    subst ed
    subst q
    obtain ⟨n,g,s⟩:=r.nown ⟨i,o,e,e1⟩
    exact p.frm a n g s,r.sep,r.bor,r.nse⟩
  keep:=fun a o e s=>p.keep a o e s.q
  frm:=fun a n g s _=>p.frm a n g s
  sub:=fun _ o=>o
  bsub:=fun _ o e=>⟨o,e⟩
  val:=p.val
  new:=fun a o e q=>.inl (p.new a o e q)
  sepv:=fun a o e q z=>e.elim (fun e=>(r.nown z).1 (p.new a o e q)) fun e=>p.nob o e
  nbs:=fun a o i o' e q e1 e2=>by
    obtain ⟨w,f1,f2⟩:=r.slots i _ e1
    rw [e2] at f1;cases f1
    obtain ⟨b,z,_,k⟩:=f2
    cases z
    exact k.there (p.new a o e q)
theorem PostV.pure (h:HRep K G so H) (w:VOk K G so H v dv) (n:∀ o,dv≠.own o) (m:∀ o,dv≠.bor o):PostV K G so H v H G dv:=
  ⟨Ex.refl G,h,fun _ _ e _=>e,fun _ _ g _=>g,w,fun _ o e=>absurd e (n o),m⟩
theorem PostV.dat {x:D} (h:HRep K G so H) (w:DOk K G v x):PostV K G so H v H G (.d x):=.pure h w (fun _ e=>(nomatch e)) fun _ e=>(nomatch e)
theorem HRep.alloc {p:Addr} {o:HO} (h:HRep K G so H) (n:H p=none) (nt:∀ xs,o≠.tup xs:=by intro _ z;cases z):HRep K G so (upd H p o):=
  ⟨h.ex.trans (Ex.new n),fun a k e=>(h.vol a k e).keep (Ex.refl G) (h.vol a k e).g (upd_ne fun z=>h.there n (z ▸ ⟨k,e⟩)),h.ok,tp_upd h.tp nt⟩
theorem HRep.allocG {p:Addr} {o:HO} (h:HRep K G so H) (n:H p=none):HRep K (upd G p o) so (upd H p o):=
  ⟨h.ex.up,fun a k e=>
    have z:a≠p:=fun z=>h.there n (z ▸ ⟨k,e⟩)
    (h.vol a k e).keep (Ex.new (h.ex.free n)) (by rw [upd_ne z];exact (h.vol a k e).g) (upd_ne z),h.ok,tp_both h.tp⟩
theorem PostV.list {p:Addr} {vs:List V} {ds:List D} (h:HRep K G so H) (n:H p=none) (a:DAll K G vs ds):PostV K G so H (.ref p) (upd H p (.lst vs)) G (.own (.lst ds)):=
  ⟨Ex.refl G,h.alloc n,fun _ _ e _=>Ex.new n _ _ e,fun _ _ g _=>g,⟨p,rfl,h.ex.free n,h.there n,vs,upd_same,a⟩,fun b o e q=>(by cases q;exact n),fun _ e=>(nomatch e)⟩
theorem PostV.tuple {p:Addr} {vs:List V} {ds:List D} (h:HRep K G so H) (n:H p=none) (a:DAll K G vs ds):PostV K G so H (.ref p) (upd H p (.tup vs)) (upd G p (.tup vs)) (.d (.tup ds)):=
  ⟨Ex.new (h.ex.free n),h.allocG n,fun _ _ e _=>Ex.new n _ _ e,fun b q g _=>by rw [upd_ne (fun z=>by subst z;exact q n)];exact g,
    .tup (SqT.of upd_same) (a.mono (Ex.new (h.ex.free n))),fun _ o e=>(nomatch e),fun _ e=>(nomatch e)⟩
theorem PostV.trans {v1 v2:V} {d1 d2:DV} {H1 H2 G1 G2:Hp} (a:PostV K G so H v1 H1 G1 d1) (b:PostV K G1 so H1 v2 H2 G2 d2):PostV K G so H v2 H2 G2 d2:=
  ⟨a.ex.trans b.ex,b.hrep,fun c o e s=>b.keep c o (a.keep c o e s) s,fun c n g s=>b.frm c (by rw [keep_nq a.keep n s.q];exact n) (a.frm c n g s) s,b.val,fun c o e q=>by
    cases z:H c with
    | none=>rfl
    | some u=>
      have n:=b.new c o e q
      by_cases s:so.Vol c
      · exact absurd n (a.hrep.vth s)
      · rw [a.keep c u z (So.Nt.q s)] at n
        exact (nomatch n),b.nob⟩
end
def tpUp (G H2:Hp):Hp:=fun b=>match H2 b with
  | some (.tup xs)=>some (.tup xs)
  | _=>G b
section
variable {K:PySem.W.Frag} {G:Hp} {so:So} {H H2:Hp}
end
abbrev XP:=Value→List (Str × D)→DSt→Prop
abbrev TD:=DSt→(DV→DSt→Prop)→XP→Prop
abbrev TDT:=DSt→(Bool→DSt→Prop)→XP→Prop
abbrev TDA:=DSt→(List DV→DSt→Prop)→XP→Prop
structure EndsD where
  nx:DSt→Prop
  rt:DV→DSt→Prop
  bk:DSt→Prop
  ct:DSt→Prop
  xc:XP
abbrev TDS:=EndsD→DSt→Prop
def XdOk (K:PySem.W.Frag) (G H:Hp):Option Addr→List (Str × D)→Prop
  | some dx,fs=>∃ vs,H dx=some (.xd vs)∧FAll K G vs fs
  | none,fs=>fs=[]
def XOk (K:PySem.W.Frag) (W:WX) (G:Hp) (so:So) (σ:L2.St) (H:Hp) (sl:DSt) (E:XP):Prop:=
  ∀ cls d H' G' fs sl',Post K G so σ H sl H' G' sl'→XdOk K G' H' d fs→E cls fs sl'→W cls d σ H'
inductive VsOk (K:PySem.W.Frag) (G:Hp) (so:So) (H:Hp):List V→List DV→Prop
  | nil:VsOk K G so H [] []
  | cons {v:V} {d:DV} {vs:List V} {ds:List DV}:VOk K G so H v d→(∀ o,d≠.own o)→VsOk K G so H vs ds→VsOk K G so H (v::vs) (d::ds)
section
variable (K:PySem.W.Frag) (W:WX)
def up (t:TD):TE:=fun σ H R=>∃ G so sl Q E,Rep K G so σ H sl∧t sl Q E∧(∀ v H' G' dv sl',PostE K G so σ H sl v H' G' dv sl'→Q dv sl'→R v H')∧XOk K W G so σ H sl E
def upT (t:TDT):TT:=fun σ H R=>∃ G so sl Q E,Rep K G so σ H sl∧t sl Q E∧(∀ b H' G' sl',Post K G so σ H sl H' G' sl'→Q b sl'→R b H')∧XOk K W G so σ H sl E
def upA (t:TDA):TA:=fun σ H R=>∃ G so sl Q E,Rep K G so σ H sl∧t sl Q E∧(∀ vs H' G' ds sl',Post K G so σ H sl H' G' sl'→VsOk K G' so H' vs ds→Q ds sl'→R vs H')∧XOk K W G so σ H sl E
end
def DE (X:Cx) (W:WX) (e:Expr) (t:TD):Prop:=PE X e (up X.K W t)
def DT (X:Cx) (W:WX) (e:Expr) (t:TDT):Prop:=PT X e (upT X.K W t)
def DA (X:Cx) (W:WX) (es:List Expr) (t:TDA):Prop:=PA X es (upA X.K W t)
theorem pe_imp {X:Cx} {e:Expr} {t t':TE} (h:PE X e t) (f:∀ σ H R,t' σ H R→t σ H R):PE X e t':=⟨fun pins s σ H Q I q=>h.run pins s σ H Q I (f _ _ _ q)⟩
theorem pt_imp {X:Cx} {e:Expr} {t t':TT} (h:PT X e t) (f:∀ σ H R,t' σ H R→t σ H R):PT X e t':=⟨fun pins s σ H Q I q=>h.run pins s σ H Q I (f _ _ _ q)⟩
theorem pw_imp {X:Cx} {e:Expr} {t t':TT} (h:PW X e t) (f:∀ σ H R,t' σ H R→t σ H R):PW X e t':=⟨fun wh pins s σ H Q I q=>h.run wh pins s σ H Q I (f _ _ _ q)⟩
theorem pa_imp {X:Cx} {es:List Expr} {t t':TA} (h:PA X es t) (f:∀ σ H R,t' σ H R→t σ H R):PA X es t':=⟨fun pos pins s σ H Q I q=>h.run pos pins s σ H Q I (f _ _ _ q)⟩
theorem ps_imp {X:Cx} {e:Stmt} {t t':TS} (h:PS X e t) (f:∀ D σ H,t' D σ H→t D σ H):PS X e t':=⟨fun pins s σ H Q I q=>h.run pins s σ H Q I (f _ _ _ q)⟩
theorem pss_imp {X:Cx} {e:List Stmt} {t t':TS} (h:PSs X e t) (f:∀ D σ H,t' D σ H→t D σ H):PSs X e t':=⟨fun pins s σ H Q I q=>h.run pins s σ H Q I (f _ _ _ q)⟩
section
variable {K:PySem.W.Frag} {W:WX} {G G1 G2:Hp} {so:So} {σ:L2.St} {H H1 H2:Hp} {sl s1 s2:DSt} {v x y:V} {dv dx dy:DV} {E:XP}
theorem XOk.step (h:XOk K W G so σ H sl E) (p:Post K G so σ H sl H1 G1 s1):XOk K W G1 so σ H1 s1 E:=fun cls d H' G' fs sl' q a b=>h cls d H' G' fs sl' (p.trans q) a b
theorem Post.back (a:Post K G so σ H sl H1 G1 s1) {c:Addr} (n:H1 c=none):H c=none:=by
  cases z:H c with
  | none=>rfl
  | some u=>
    by_cases s:so.Vol c
    · exact absurd n (a.rep.h.vth s)
    · rw [a.keep c u z s] at n;cases n
theorem Post.thenE (a:Post K G so σ H sl H1 G1 s1) (b:PostE K G1 so σ H1 s1 v H2 G2 dv s2):PostE K G so σ H sl v H2 G2 dv s2:=
  { a.trans b.toPost with
    val:=b.val
    new:=fun c o e q=>(b.new c o e q).imp a.back (a.sub c)
    sepv:=b.sepv
    nbs:=b.nbs }
theorem Post.thenV (a:Post K G so σ H sl H1 G1 s1) (b:PostV K G1 so H1 v H2 G2 dv):PostE K G so σ H sl v H2 G2 dv s1:=a.thenE (b.slots a.rep)
theorem VsOk.keep:∀ {vs:List V} {ds:List DV},VsOk K G so H vs ds→Ex G G1→(∀ a o,H a=some o→so.Nt a→H1 a=some o)→VsOk K G1 so H1 vs ds
  | _,_,.nil,_,_=>.nil
  | _,_,.cons h n t,e,k=>.cons (h.keep e k fun a o q=>absurd q (n o)) n (VsOk.keep t e k)
theorem VsOk.length:∀ {vs:List V} {ds:List DV},VsOk K G so H vs ds→vs.length=ds.length
  | _,_,.nil=>rfl
  | _,_,.cons _ _ t=>congrArg (· + 1) (VsOk.length t)
end
def pubO:OO→D
  | .lst ds=>.lst ds
  | .ins _ C fs=>.ins C fs
  | .dk _=>.any
  | .dt _=>.any
def pubV:DV→DV
  | .own o=>.d (pubO o)
  | x=>x
theorem pubV_not (dv:DV):∀ o,pubV dv≠.own o:=fun o h=>by cases dv<;>cases h
section
variable {K:PySem.W.Frag} {W:WX} {G G1 G2:Hp} {so:So} {σ:L2.St} {H H1 H2:Hp} {sl s1 s2:DSt} {v x y:V} {dv dx dy:DV} {E:XP}
theorem own_ok {a:Addr} {o:OO} (h:OwnOk K G H a o) (g:G a=none):∃ u,H a=some u∧DOk K (upd G a u) (.ref a) (pubO o):=by
  cases o with
  | lst ds=>obtain ⟨vs,e,r⟩:=h;exact ⟨_,e,.lst upd_same (r.mono (Ex.new g))⟩
  | ins x C fs=>obtain ⟨_,dx,vs,e,gd,r⟩:=h;exact ⟨_,e,.ins upd_same (Ex.new g _ _ gd) (r.mono (Ex.new g))⟩
  | dk kvs=>obtain ⟨vs,e,r⟩:=h;exact ⟨_,e,.any _⟩
  | dt kvs=>obtain ⟨vs,e,r⟩:=h;exact ⟨_,e,.any _⟩
theorem hrep_pub {a:Addr} {u:HO} (h:HRep K G so H) (e:H a=some u) (g:G a=none) (s:so.Nt a):HRep K (upd G a u) so H:=
  ⟨fun b o q=>by
    by_cases z:b=a
    · subst z;rw [upd_same] at q;cases q;exact e
    · rw [upd_ne z] at q;exact h.ex b o q,
  fun b k q=>by
    have z:b≠a:=fun z=>s (z ▸ ⟨k,q⟩)
    exact (h.vol b k q).keep (Ex.new g) (by rw [upd_ne z];exact (h.vol b k q).g) rfl,h.ok,tp_G h.tp g⟩
theorem rep_pub {a:Addr} {u:HO} (r:Rep K G so σ H sl) (e:H a=some u) (g:G a=none) (s:so.Nt a) (n:¬ Own sl σ a):Rep K (upd G a u) so σ H sl:=
  ⟨hrep_pub r.h e g s,r.len,fun i d q=>by
    obtain ⟨w,e1,e2⟩:=r.slots i d q
    refine ⟨w,e1,SlOk.keep e2 r.h.ok (Ex.new g) (fun _ _ z _=>z) fun b o ed qb=>?_⟩
    subst ed;subst qb
    have z:b≠a:=fun z=>n ⟨i,o,q,z ▸ e1⟩
    rw [upd_ne z];exact (r.nown ⟨i,o,q,e1⟩).2.1,r.sep,r.bor,r.nse⟩
theorem PostE.pub (p:PostE K G so σ H sl v H1 G1 dv s1):∃ G2,PostE K G so σ H sl v H1 G2 (pubV dv) s1:=by
  cases dv with
  | d x=>exact ⟨G1,p⟩
  | src=>exact ⟨G1,p⟩
  | bor o=>exact ⟨G1,p⟩
  | see o=>exact ⟨G1,p⟩
  | mu _ _ _=>exact ⟨G1,p⟩
  | gh _ _=>exact ⟨G1,p⟩
  | own o=>
    obtain ⟨a,q,g,s,ok⟩:=p.val
    subst q
    obtain ⟨u,e,dk⟩:=own_ok ok g
    have n:=p.sepv a o (.inl rfl) rfl
    refine ⟨upd G1 a u,{ ex:=p.ex.trans (Ex.new g),rep:=rep_pub p.rep e g s n,keep:=p.keep,frm:=fun b n1 g1 s1' w=>?_,sub:=p.sub,bsub:=p.bsub,val:=dk,new:=fun _ o' e'=>(nomatch e'),sepv:=fun _ o' e'=>e'.elim (fun e'=>(nomatch e')) fun e'=>(nomatch e'),nbs:=fun _ _ _ _ e'=>(nomatch e') }⟩
    have z:b≠a:=fun z=>by
      subst z
      rcases p.new b o rfl rfl with k | k
      · exact n1 k
      · exact w k
    rw [upd_ne z];exact p.frm b n1 g1 s1' w
end
def dC (x:D):TD:=fun sl Q _=>Q (.d x) sl
def dVar (i:Nat):TD:=fun sl Q _=>match sl[i]? with
  | some (some (.own o))=>Q (.d (pubO o)) (sl.set i (some (.d (pubO o))))
  | some (some (.mu _ _ _))=>False
  | some (some (.gh _ _))=>False
  | some (some dv)=>Q dv sl
  | _=>False
def dSee (i:Nat):TD:=fun sl Q _=>match sl[i]? with
  | some (some (.own o))=>Q (.see o) sl
  | some (some (.mu _ _ _))=>False
  | some (some (.gh _ _))=>False
  | some (some dv)=>Q dv sl
  | _=>False
section
variable {K:PySem.W.Frag} {W:WX} {G G1 G2:Hp} {so:So} {σ:L2.St} {H H1 H2:Hp} {sl s1 s2:DSt} {v x y:V} {dv dx dy:DV} {E:XP} {X:Cx}
theorem de_c {e:Expr} {u:V} {d:D} (h:PE X e (tC u)) (r:∀ G,DOk X.K G u d):DE X W e (dC d):=pe_imp h fun σ H R ⟨G,so,sl,Q,E,rep,q,hq,_⟩=>
  hq u H G _ sl ((Post.refl rep).thenV (.dat rep.h (r G))) q
theorem de_int {i:Int} {j:Nat} {pos:Pos}:DE X W (.Constant (.int i) j pos) (dC (.int i)):=de_c pe_int fun _=>.int _
theorem de_bl {b:Bool} {j:Nat} {pos:Pos}:DE X W (.Constant (.bool b) j pos) (dC (.bl b)):=de_c pe_bl fun _=>.bl _
theorem de_non {j:Nat} {pos:Pos}:DE X W (.Constant .none j pos) (dC .non):=de_c pe_non fun _=>.non
theorem de_str {x:Str} {j:Nat} {pos:Pos}:DE X W (.Constant (.str x) j pos) (dC (.str x)):=de_c pe_str fun _=>.str _
theorem VOk.see {o:OO} (h:VOk K G so H v (.own o)):VOk K G so H v (.see o):=by
  obtain ⟨a,q,_,s,k⟩:=h
  exact ⟨a,q,s,k⟩
theorem PostE.here (rep:Rep K G so σ H sl) (w:VOk K G so H v dv) (n:∀ o,dv≠.own o) (m:∀ a o,dv=.bor o→v=.ref a→¬ Own sl σ a):PostE K G so σ H sl v H G dv sl:=
  { Post.refl rep with
    val:=w
    new:=fun _ o e=>absurd e (n o)
    sepv:=fun a o e q=>e.elim (fun e=>absurd e (n o)) fun e=>m a o e q
    nbs:=fun _ o _ _ e=>absurd e (n o) }
theorem own_set {i:Nat} {d:D} {a:Addr} (h:Own (sl.set i (some (.d d))) σ a):Own sl σ a∧σ[i]?≠some (some (.ref a))∨(Own sl σ a∧∃ j,j≠i∧∃ o,sl[j]?=some (some (.own o))∧σ[j]?=some (some (.ref a))):=by
  obtain ⟨j,o,e1,e2⟩:=h
  have ne:j≠i:=fun z=>by
    subst z
    rw [List.getElem?_set] at e1
    split at e1
    · split at e1<;>cases e1
    · rename_i k;exact k rfl
  rw [List.getElem?_set_ne ne.symm] at e1
  exact .inr ⟨⟨j,o,e1,e2⟩,j,ne,o,e1,e2⟩
theorem de_var {i:Nat} {n:Str} {pos:Pos} (h:PE X (.Name n pos) (tVar i)):DE X W (.Name n pos) (dVar i):=pe_imp h fun σ H R ⟨G,so,sl,Q,E,rep,q,hq,_⟩=>by
  unfold dVar at q
  split at q
  · rename_i o e
    obtain ⟨v,e1,w⟩:=rep.slots i _ e
    refine ⟨v,e1,?_⟩
    obtain ⟨a,qa,g,s,ok⟩:=w
    subst qa
    obtain ⟨u,eu,dk⟩:=own_ok ok g
    have others:∀ b,Own (sl.set i (some (.d (pubO o)))) σ b→Own sl σ b∧b≠a:=fun b z=>by
      rcases own_set z with ⟨k1,k2⟩ | ⟨k1,j,ne,o',k2,k3⟩
      · exact ⟨k1,fun z=>k2 (z ▸ e1)⟩
      · exact ⟨k1,fun z=>ne (rep.sep j i o' o a k2 e (z ▸ k3) e1)⟩
    refine hq _ H (upd G a u) _ _ ?_ q
    refine { ex:=Ex.new g,rep:=⟨hrep_pub rep.h eu g s,by rw [List.length_set];exact rep.len,fun j d ej=>?_,fun j k o1 o2 b e1' e2' e3 e4=>?_,fun j o1 b e1' e2' z=>?_,fun j o1 z=>?_⟩,keep:=fun _ _ z _=>z,frm:=fun b n1 g1 s1 w=>?_,sub:=fun b z=>(others b z).1,bsub:=fun j o1 z=>?_,val:=dk,new:=fun _ o' e'=>(nomatch e'),sepv:=fun _ o' e'=>e'.elim (fun e'=>(nomatch e')) fun e'=>(nomatch e'),nbs:=fun _ _ _ _ e'=>(nomatch e') }
    · by_cases ji:j=i
      · subst ji
        rw [List.getElem?_set] at ej
        split at ej
        · split at ej
          · cases ej;exact ⟨_,e1,dk⟩
          · cases ej
        · rename_i k;exact absurd rfl k
      · rw [List.getElem?_set_ne (Ne.symm ji)] at ej
        obtain ⟨w',f1,f2⟩:=rep.slots j d ej
        refine ⟨w',f1,SlOk.keep f2 rep.h.ok (Ex.new g) (fun _ _ z _=>z) fun b o' ed qb=>?_⟩
        subst ed;subst qb
        have z:b≠a:=fun z=>ji (rep.sep j i o' o a ej e (z ▸ f1) e1)
        rw [upd_ne z];exact (rep.nown ⟨j,o',ej,f1⟩).2.1
    · have f:∀ (m:Nat) (o3:OO),(sl.set i (some (.d (pubO o))))[m]?=some (some (.own o3))→sl[m]?=some (some (.own o3)):=fun m o3 em=>by
        by_cases mi:m=i
        · subst mi
          rw [List.getElem?_set] at em
          split at em
          · split at em<;>cases em
          · rename_i k;exact absurd rfl k
        · rw [List.getElem?_set_ne (Ne.symm mi)] at em;exact em
      exact rep.sep j k o1 o2 b (f _ _ e1') (f _ _ e2') e3 e4
    · have ne:j≠i:=fun z=>by
        subst z
        rw [List.getElem?_set] at e1'
        split at e1'
        · split at e1'<;>cases e1'
        · rename_i k;exact absurd rfl k
      rw [List.getElem?_set_ne (Ne.symm ne)] at e1'
      exact rep.bor j o1 b e1' e2' (others b z).1
    · by_cases ne:j=i
      · subst ne
        rw [List.getElem?_set] at z
        split at z
        · split at z<;>cases z
        · rename_i k;exact absurd rfl k
      · rw [List.getElem?_set_ne (Ne.symm ne)] at z
        exact rep.nse j o1 z
    · have z:b≠a:=fun z=>w ⟨i,o,e,z ▸ e1⟩
      rw [upd_ne z];exact g1
    · by_cases ne:j=i
      · subst ne
        rw [List.getElem?_set] at z
        split at z
        · split at z<;>cases z
        · rename_i k;exact absurd rfl k
      · rw [List.getElem?_set_ne (Ne.symm ne)] at z
        exact ⟨o1,z⟩
  · exact q.elim
  · exact q.elim
  · rename_i dv no nm ng e
    obtain ⟨v,e1,w⟩:=rep.slots i _ e
    exact ⟨v,e1,hq v H G dv sl (.here rep (SlOk.val w (fun y C fs z=>nm y C fs z) fun y r z=>ng y r z) (fun o z=>no o z) fun a o z z2=>by subst z;subst z2;exact rep.bor i o a e e1) q⟩
  · exact q.elim
theorem de_see {i:Nat} {n:Str} {pos:Pos} (h:PE X (.Name n pos) (tVar i)):DE X W (.Name n pos) (dSee i):=pe_imp h fun σ H R ⟨G,so,sl,Q,E,rep,q,hq,_⟩=>by
  unfold dSee at q
  split at q
  · rename_i o e
    obtain ⟨v,e1,w⟩:=rep.slots i _ e
    exact ⟨v,e1,hq v H G _ sl (.here rep w.see (fun _ z=>(nomatch z)) fun _ _ z=>(nomatch z)) q⟩
  · exact q.elim
  · exact q.elim
  · rename_i dv no nm ng e
    obtain ⟨v,e1,w⟩:=rep.slots i _ e
    exact ⟨v,e1,hq v H G dv sl (.here rep (SlOk.val w (fun y C fs z=>nm y C fs z) fun y r z=>ng y r z) (fun o z=>no o z) fun a o z z2=>by subst z;subst z2;exact rep.bor i o a e e1) q⟩
  · exact q.elim
end
def OpSem (K:PySem.W.Frag) (r:R2) (rd:DV→DV→(DV→Prop)→Prop):Prop:=∀ (G:Hp) (so:So) (H:Hp) (x y:V) (dx dy:DV) (Q:DV→Prop) (R:VK),HRep K G so H→VOk K G so H x dx→VOk K G so H y dy→rd dx dy Q→
  (∀ v H' G' dv,PostV K G so H v H' G' dv→Q dv→R v H')→r x y H R
def UnSem (K:PySem.W.Frag) (r:V→Hp→VK→Prop) (rd:DV→(DV→Prop)→Prop):Prop:=∀ (G:Hp) (so:So) (H:Hp) (x:V) (dx:DV) (Q:DV→Prop) (R:VK),HRep K G so H→VOk K G so H x dx→rd dx Q→
  (∀ v H' G' dv,PostV K G so H v H' G' dv→Q dv→R v H')→r x H R
def CallSem (K:PySem.W.Frag) (r:List V→Hp→VK→Prop) (rd:List DV→(DV→Prop)→Prop):Prop:=∀ (G:Hp) (so:So) (H:Hp) (xs:List V) (dxs:List DV) (Q:DV→Prop) (R:VK),HRep K G so H→VsOk K G so H xs dxs→rd dxs Q→
  (∀ v H' G' dv,PostV K G so H v H' G' dv→Q dv→R v H')→r xs H R
def dOp (rd:DV→DV→(DV→Prop)→Prop) (ta tb:TD):TD:=fun sl Q E=>ta sl (fun x s1=>tb s1 (fun y s2=>rd x y fun z=>Q z s2) E) E
def dUn (rd:DV→(DV→Prop)→Prop) (ta:TD):TD:=fun sl Q E=>ta sl (fun x s1=>rd x fun z=>Q z s1) E
def dCB (rd:List DV→(DV→Prop)→Prop) (ta:TDA):TD:=fun sl Q E=>ta sl (fun xs s1=>rd xs fun z=>Q z s1) E
def dNil:TDA:=fun sl Q _=>Q [] sl
def dCons (ta:TD) (tr:TDA):TDA:=fun sl Q E=>ta sl (fun x s1=>tr s1 (fun xs s2=>Q (pubV x::xs) s2) E) E
section
variable {K:PySem.W.Frag} {W:WX} {σ:L2.St} {H:Hp} {R:VK} {ta tb:TD} {X:Cx} {a b e:Expr} {pos:Pos}
theorem up_op {r:R2} {rd:DV→DV→(DV→Prop)→Prop} (hr:OpSem K r rd) (h:up K W (dOp rd ta tb) σ H R):tOp r (up K W ta) (up K W tb) σ H R:=by
  obtain ⟨G,so,sl,Q,E,rep,q,hq,hx⟩:=h
  refine ⟨G,so,sl,_,E,rep,q,fun x H1 G1 dx s1 p1 h1=>?_,hx⟩
  refine ⟨G1,so,s1,_,E,p1.rep,h1,fun y H2 G2 dy s2 p2 h2=>?_,hx.step p1.toPost⟩
  exact hr G2 so H2 x y dx dy _ R p2.rep.h (p1.over p2.toPost) p2.val h2 fun v H' G' dv pv hz=>hq v H' G' dv s2 ((p1.toPost.trans p2.toPost).thenV pv) hz
theorem up_un {r:V→Hp→VK→Prop} {rd:DV→(DV→Prop)→Prop} (hr:UnSem K r rd) (h:up K W (dUn rd ta) σ H R):tUn r (up K W ta) σ H R:=by
  obtain ⟨G,so,sl,Q,E,rep,q,hq,hx⟩:=h
  refine ⟨G,so,sl,_,E,rep,q,fun x H1 G1 dx s1 p1 h1=>?_,hx⟩
  exact hr G1 so H1 x dx _ R p1.rep.h p1.val h1 fun v H' G' dv pv hz=>hq v H' G' dv s1 (p1.toPost.thenV pv) hz
theorem up_cb {r:List V→Hp→VK→Prop} {rd:List DV→(DV→Prop)→Prop} {t:TDA} (hr:CallSem K r rd) (h:up K W (dCB rd t) σ H R):tCB r (upA K W t) σ H R:=by
  obtain ⟨G,so,sl,Q,E,rep,q,hq,hx⟩:=h
  refine ⟨G,so,sl,_,E,rep,q,fun vs H1 G1 ds s1 p1 w h1=>?_,hx⟩
  exact hr G1 so H1 vs ds _ R p1.rep.h w h1 fun v H' G' dv pv hz=>hq v H' G' dv s1 (p1.thenV pv) hz
theorem da_nil:DA X W [] dNil:=pa_imp pa_nil fun σ H R ⟨G,so,sl,Q,E,rep,q,hq,_⟩=>hq [] H G [] sl (.refl rep) .nil q
theorem da_cons {es:List Expr} {tr:TDA} (ha:DE X W e ta) (hr:DA X W es tr) (hs:starEach (e::es) X.env=(false,eval e X.env)::starEach es X.env:=by rfl):DA X W (e::es) (dCons ta tr):=by
  refine pa_imp (pa_cons ha hr hs) fun σ H R ⟨G,so,sl,Q,E,rep,q,hq,hx⟩=>?_
  refine ⟨G,so,sl,_,E,rep,q,fun x H1 G1 dx s1 p1 h1=>?_,hx⟩
  obtain ⟨G1',p1'⟩:=p1.pub
  refine ⟨G1',so,s1,_,E,p1'.rep,h1,fun vs H2 G2 ds s2 p2 w h2=>?_,hx.step p1'.toPost⟩
  exact hq (x::vs) H2 G2 (pubV dx::ds) s2 (p1'.toPost.trans p2) (.cons (p1'.over p2) (pubV_not dx) w) h2
theorem de_op {op:Operator} {r:R2} {rd:DV→DV→(DV→Prop)→Prop} (ho:OpR X (binaryOp op) r) (hr:OpSem X.K r rd) (ha:DE X W a ta) (hb:DE X W b tb):DE X W (.BinOp a op b pos) (dOp rd ta tb):=pe_imp (pe_op ho ha hb) fun _ _ _ h=>up_op hr h
theorem de_un {op:UnaryOp} {r:V→Hp→VK→Prop} {rd:DV→(DV→Prop)→Prop} (ho:UnR X (unaryOp op) r) (hr:UnSem X.K r rd) (ha:DE X W a ta):DE X W (.UnaryOp op a pos) (dUn rd ta):=pe_imp (pe_un ho ha) fun _ _ _ h=>up_un hr h
theorem de_cmp {op:CmpOp} {r:R2} {rd:DV→DV→(DV→Prop)→Prop} (ho:OpR X (compareOp op) r) (hr:OpSem X.K r rd) (ha:DE X W a ta) (hb:DE X W b tb) (hm:behindInMarks op b=false):DE X W (.Compare a [op] [b] pos) (dOp rd ta tb):=pe_imp (pe_cmpR ho ha hb hm) fun _ _ _ h=>up_op hr h
theorem de_ix {r:R2} {rd:DV→DV→(DV→Prop)→Prop} (ho:IxR X r) (hr:OpSem X.K r rd) (ha:DE X W a ta) (hb:DE X W b tb) (hs:PlainIx b):DE X W (.Subscript a b pos) (dOp rd ta tb):=pe_imp (pe_ix ho ha hb hs) fun _ _ _ h=>up_op hr h
end
def keyD:Key→D
  | .inl i=>.int i
  | .inr z=>.str z
def keyPy:Key→PyData
  | .inl i=>.int i
  | .inr z=>.str z
mutual
def D.py:D→Option PyData
  | .non=>some .none
  | .bl b=>some (.bool b)
  | .int i=>some (.int i)
  | .str x=>some (.str x)
  | .lst ds=>(D.pyAll ds).map .list
  | .tup ds=>(D.pyAll ds).map .tuple
  | .ins _ _=>none
  | .dk _=>none
  | .dt _=>none
  | .any=>none
  | .raw _=>none
  | .kt ks=>some (.tuple (ks.map keyPy))
def D.pyAll:List D→Option (List PyData)
  | []=>some []
  | d::r=>match D.py d,D.pyAll r with
    | some p,some ps=>some (p::ps)
    | _,_=>none
end
def DV.dat:DV→Option D
  | .d x=>some x
  | .own o=>some (pubO o)
  | .bor o=>some (pubO o)
  | .see o=>some (pubO o)
  | .src=>none
  | .mu _ _ _=>none
  | .gh _ _=>none
def DV.items:DV→Option (List D)
  | .d (.lst ds)=>some ds
  | .own (.lst ds)=>some ds
  | .bor (.lst ds)=>some ds
  | .see (.lst ds)=>some ds
  | _=>none
section
variable {K:PySem.W.Frag} {G H:Hp} {so:So} {v x y:V} {dv dx dy:DV}
theorem keys_dp {H:Hp}:∀ ks:List Key,DpAll K H (ks.map kV) (ks.map keyPy)
  | []=>.nil
  | .inl i::r=>.cons (.int i) (keys_dp r)
  | .inr z::r=>.cons (.str z) (keys_dp r)
mutual
theorem DOk.dp (e:Ex G H):∀ (d:D) (v:V) (p:PyData),DOk K G v d→d.py=some p→Dp K H v p
  | .non,_,_,h,q=>by cases h;cases q;exact .non
  | .bl b,_,_,h,q=>by cases h;cases q;exact .bl b
  | .int i,_,_,h,q=>by cases h;cases q;exact .int i
  | .str x,_,_,h,q=>by cases h;cases q;exact .str x
  | .lst ds,_,p,h,q=>by
    unfold D.py at q
    cases z:D.pyAll ds with
    | none=>rw [z] at q;cases q
    | some ps=>
      rw [z] at q;cases q
      cases h with
      | lst g a=>exact .lst (SqL.of (e _ _ g)) (DAll.dp e ds _ ps a z)
  | .tup ds,_,p,h,q=>by
    unfold D.py at q
    cases z:D.pyAll ds with
    | none=>rw [z] at q;cases q
    | some ps=>
      rw [z] at q;cases q
      cases h with
      | tup g a=>exact .tup (ex_t e g) (DAll.dp e ds _ ps a z)
  | .ins _ _,_,_,_,q=>by cases q
  | .dk _,_,_,_,q=>by cases q
  | .dt _,_,_,_,q=>by cases q
  | .any,_,_,_,q=>by cases q
  | .raw _,_,_,_,q=>by cases q
  | .kt ks,_,_,h,q=>by
    unfold D.py at q
    cases q
    cases h with
    | kt g=>exact .tup (SqT.of (e _ _ g)) (keys_dp ks)
theorem DAll.dp (e:Ex G H):∀ (ds:List D) (vs:List V) (ps:List PyData),DAll K G vs ds→D.pyAll ds=some ps→DpAll K H vs ps
  | [],_,_,h,q=>by cases h;cases q;exact .nil
  | d::r,_,ps,h,q=>by
    cases h with
    | cons h1 h2=>
      unfold D.pyAll at q
      cases z1:D.py d with
      | none=>rw [z1] at q;cases q
      | some p=>
        cases z2:D.pyAll r with
        | none=>rw [z1,z2] at q;cases q
        | some qs=>
          rw [z1,z2] at q;cases q
          exact .cons (DOk.dp e d _ p h1 z1) (DAll.dp e r _ qs h2 z2)
end
theorem VOk.dp {d:D} {p:PyData} (h:HRep K G so H) (w:VOk K G so H v dv) (e:dv.dat=some d) (q:d.py=some p):Dp K H v p:=by
  cases dv with
  | d z=>cases e;exact DOk.dp h.ex _ _ _ w q
  | src=>cases e
  | mu _ _ _=>cases e
  | gh _ _=>cases e
  | own o=>
    cases e
    obtain ⟨a,rfl,_,_,ok⟩:=w
    cases o with
    | lst ds=>
      obtain ⟨vs,e1,al⟩:=ok
      unfold pubO D.py at q
      cases z:D.pyAll ds with
      | none=>rw [z] at q;cases q
      | some ps=>rw [z] at q;cases q;exact .lst (SqL.of e1) (DAll.dp h.ex ds _ ps al z)
    | ins x C fs=>unfold pubO D.py at q;cases q
    | dk _=>unfold pubO D.py at q;cases q
    | dt _=>unfold pubO D.py at q;cases q
  | bor o=>
    cases e
    obtain ⟨a,rfl,_,ok⟩:=w
    cases o with
    | lst ds=>
      obtain ⟨vs,e1,al⟩:=ok
      unfold pubO D.py at q
      cases z:D.pyAll ds with
      | none=>rw [z] at q;cases q
      | some ps=>rw [z] at q;cases q;exact .lst (SqL.of e1) (DAll.dp h.ex ds _ ps al z)
    | ins x C fs=>unfold pubO D.py at q;cases q
    | dk _=>unfold pubO D.py at q;cases q
    | dt _=>unfold pubO D.py at q;cases q
  | see o=>
    cases e
    obtain ⟨a,rfl,_,ok⟩:=w
    cases o with
    | lst ds=>
      obtain ⟨vs,e1,al⟩:=ok
      unfold pubO D.py at q
      cases z:D.pyAll ds with
      | none=>rw [z] at q;cases q
      | some ps=>rw [z] at q;cases q;exact .lst (SqL.of e1) (DAll.dp h.ex ds _ ps al z)
    | ins x C fs=>unfold pubO D.py at q;cases q
    | dk _=>unfold pubO D.py at q;cases q
    | dt _=>unfold pubO D.py at q;cases q
theorem VOk.list {ds:List D} (h:HRep K G so H) (w:VOk K G so H v dv) (e:dv.items=some ds):∃ a vs,v=.ref a∧H a=some (.lst vs)∧DAll K G vs ds:=by
  unfold DV.items at e
  split at e
  · cases e
    cases w with
    | lst g a=>exact ⟨_,_,rfl,h.ex _ _ g,a⟩
  · cases e
    obtain ⟨a,rfl,_,_,vs,e1,al⟩:=w
    exact ⟨a,vs,rfl,e1,al⟩
  · cases e
    obtain ⟨a,rfl,_,vs,e1,al⟩:=w
    exact ⟨a,vs,rfl,e1,al⟩
  · cases e
    obtain ⟨a,rfl,_,vs,e1,al⟩:=w
    exact ⟨a,vs,rfl,e1,al⟩
  · cases e
theorem VOk.tup {ds:List D} (h:HRep K G so H) (w:VOk K G so H v (.d (.tup ds))):∃ a vs,v=.ref a∧SqT K H a vs∧DAll K G vs ds:=by
  cases w with
  | tup g a=>exact ⟨_,_,rfl,ex_t h.ex g,a⟩
end
abbrev szl:Nat:=16777216
theorem szl_eq:szl=sizeLine:=by rw [sizeLine_eq]
@[irreducible] def addR:DV→DV→(DV→Prop)→Prop
  | .d (.int i),.d (.int j),Q=>Q (.d (.int (i + j)))
  | .d (.str a),.d (.str b),Q=>a.length + b.length≤szl∧Q (.d (.str (a++b)))
  | .d (.tup a),.d (.tup b),Q=>a.length + b.length≤szl∧Q (.d (.tup (a++b)))
  | x,y,Q=>match x.items,y.items with
    | some a,some b=>a.length + b.length≤szl∧Q (.own (.lst (a++b)))
    | _,_=>False
@[irreducible] def intR (C:Int→Int→Prop) (f:Int→Int→D):DV→DV→(DV→Prop)→Prop
  | .d (.int i),.d (.int j),Q=>C i j∧Q (.d (f i j))
  | _,_,_=>False
@[irreducible] def intR0 (f:Int→Int→D):DV→DV→(DV→Prop)→Prop
  | .d (.int i),.d (.int j),Q=>Q (.d (f i j))
  | _,_,_=>False
@[irreducible] def negR:DV→(DV→Prop)→Prop
  | .d (.int i),Q=>Q (.d (.int (-i)))
  | _,_=>False
section
variable {K:PySem.W.Frag} {X:Cx} {W:WX} {a b:Expr} {ta tb:TD} {pos:Pos}
theorem sem_intR {C:Int→Int→Prop} {f:Int→Int→D} {g:Int→Int→V} (hg:∀ G i j,DOk K G (g i j) (f i j)):OpSem K (rI C g) (intR C f):=by
  intro G so H x y dx dy Q R h wx wy q k
  unfold intR at q
  split at q
  · cases wx;cases wy;exact ⟨_,_,rfl,rfl,q.1,k _ H G _ (.dat h (hg G _ _)) q.2⟩
  · exact q.elim
theorem sem_intR0 {f:Int→Int→D} {g:Int→Int→V} (hg:∀ G i j,DOk K G (g i j) (f i j)):OpSem K (rI0 g) (intR0 f):=by
  intro G so H x y dx dy Q R h wx wy q k
  unfold intR0 at q
  split at q
  · cases wx;cases wy;exact ⟨_,_,rfl,rfl,k _ H G _ (.dat h (hg G _ _)) q⟩
  · exact q.elim
def rAddS1:R2:=fun x y H Q=>∃ i j,x=.str i∧y=.str j∧i.length + j.length≤sizeLine∧Q (.str (i++j)) H
def rAddAll (K:PySem.W.Frag):R2:=fun x y H Q=>(rI0 fun i j=>.int (i + j)) x y H Q∨(rAddS1 x y H Q∨(rCatA K x y H Q∨rCat x y H Q))
theorem op_addAll:OpR X (binaryOp .Add) (rAddAll X.K):=OpR.or op_add (OpR.or op_add_str (OpR.or op_catA op_cat))
theorem sem_add:OpSem K (rAddAll K) addR:=by
  intro G so H x y dx dy Q R h wx wy q k
  unfold addR at q
  split at q
  · cases wx;cases wy;exact .inl ⟨_,_,rfl,rfl,k _ H G _ (.dat h (.int _)) q⟩
  · cases wx;cases wy;exact .inr (.inl ⟨_,_,rfl,rfl,by rw [← szl_eq];exact q.1,k _ H G _ (.dat h (.str _)) q.2⟩)
  · obtain ⟨a,vs,rfl,g1,a1⟩:=VOk.tup h wx
    obtain ⟨b,ws,rfl,g2,a2⟩:=VOk.tup h wy
    refine .inr (.inr (.inl ⟨a,b,vs,ws,rfl,rfl,g1,g2,?_,fun z=>?_,fun _ z=>?_,fun _ _ p n=>?_⟩))
    · rw [a1.length,a2.length,← szl_eq];exact q.1
    · subst z;cases a1;exact k _ H G _ (.dat h (by have w:DOk K G _ _:=wy;simpa using w)) q.2
    · subst z;cases a2;exact k _ H G _ (.dat h (by have w:DOk K G _ _:=wx;simpa using w)) q.2
    · exact k _ _ _ _ (.tuple h n (a1.append a2)) q.2
  · split at q
    · rename_i e1 e2
      obtain ⟨a,vs,rfl,g1,a1⟩:=VOk.list h wx e1
      obtain ⟨b,ws,rfl,g2,a2⟩:=VOk.list h wy e2
      refine .inr (.inr (.inr ⟨a,b,vs,ws,rfl,rfl,g1,g2,?_,fun p n=>?_⟩))
      · rw [a1.length,a2.length,← szl_eq];exact q.1
      · exact k _ _ _ _ (.list h n (a1.append a2)) q.2
    · exact q.elim
theorem de_add (ha:DE X W a ta) (hb:DE X W b tb):DE X W (.BinOp a .Add b pos) (dOp addR ta tb):=de_op op_addAll sem_add ha hb
theorem de_sub (ha:DE X W a ta) (hb:DE X W b tb):DE X W (.BinOp a .Sub b pos) (dOp (intR0 fun i j=>.int (i - j)) ta tb):=de_op op_sub (sem_intR0 fun _ _ _=>.int _) ha hb
theorem de_mod (ha:DE X W a ta) (hb:DE X W b tb):DE X W (.BinOp a .Mod b pos) (dOp (intR (fun _ j=>0 < j) fun i j=>.int (i % j)) ta tb):=de_op op_mod (sem_intR fun _ _ _=>.int _) ha hb
theorem de_fdiv (ha:DE X W a ta) (hb:DE X W b tb):DE X W (.BinOp a .FloorDiv b pos) (dOp (intR CDivW fun i j=>.int (i / j)) ta tb):=de_op op_fdivW (sem_intR fun _ _ _=>.int _) ha hb
theorem de_pow (ha:DE X W a ta) (hb:DE X W b tb):DE X W (.BinOp a .Pow b pos) (dOp (intR CPow fun i j=>.int (i ^ j.toNat)) ta tb):=de_op op_pow (sem_intR fun _ _ _=>.int _) ha hb
theorem sem_neg:UnSem K (rU fun i=>.int (-i)) negR:=by
  intro G so H x dx Q R h wx q k
  unfold negR at q
  split at q
  · cases wx;exact ⟨_,rfl,k _ H G _ (.dat h (.int _)) q⟩
  · exact q.elim
theorem de_neg (ha:DE X W a ta):DE X W (.UnaryOp .USub a pos) (dUn negR ta):=de_un un_neg sem_neg ha
@[irreducible] def mulR:DV→DV→(DV→Prop)→Prop
  | .d (.int i),.d (.int j),Q=>CMulW i j∧Q (.d (.int (i * j)))
  | x,.d (.int k),Q=>match x.items with
    | some a=>-(2 ^ 63)≤k∧k < 2 ^ 63∧a.length * k.toNat≤szl∧Q (.own (.lst (List.replicate k.toNat a).flatten))
    | _=>False
  | _,_,_=>False
@[irreducible] def eqDeep (neg:Bool):DV→DV→(DV→Prop)→Prop:=fun x y Q=>match x.dat,y.dat with
  | some a,some b=>match a.py,b.py with
    | some p,some q=>SeqAt.shaped p=true∧SeqAt.shaped q=true∧Q (.d (.bl (if neg then !PyData.eqv p q else PyData.eqv p q)))
    | _,_=>False
  | _,_=>False
@[irreducible] def eqR (neg:Bool):DV→DV→(DV→Prop)→Prop
  | .d (.int i),.d (.int j),Q=>Q (.d (.bl (if neg then !decide (i=j) else decide (i=j))))
  | .d (.str i),.d (.str j),Q=>Q (.d (.bl (if neg then !decide (i=j) else decide (i=j))))
  | .d (.bl i),.d (.bl j),Q=>Q (.d (.bl (if neg then !decide (i=j) else decide (i=j))))
  | x,y,Q=>eqDeep neg x y Q
def rEqAll (K:PySem.W.Frag):R2:=fun x y H Q=>rEq x y H Q∨rEqD K x y H Q
def rNeAll (K:PySem.W.Frag):R2:=fun x y H Q=>rNe x y H Q∨rNeD K x y H Q
theorem op_eqAll (hu:X.A.units + 64 < cLine):OpR X (compareOp .Eq) (rEqAll X.K):=OpR.or op_eq (op_eqD hu)
theorem op_neAll (hu:X.A.units + 64 < cLine):OpR X (compareOp .NotEq) (rNeAll X.K):=OpR.or op_ne (op_neD hu)
theorem decI {i j:Int}:decide (V.int i=V.int j)=decide (i=j):=by
  by_cases h:i=j
  · subst h;simp
  · simp [h]
theorem decS {i j:Str}:decide (V.str i=V.str j)=decide (i=j):=by
  by_cases h:i=j
  · subst h;simp
  · simp [h]
theorem decB {i j:Bool}:decide (V.bl i=V.bl j)=decide (i=j):=by
  by_cases h:i=j
  · subst h;simp
  · simp [h]
theorem sem_eq:OpSem K (rEqAll K) (eqR false):=by
  intro G so H x y dx dy Q R h wx wy q k
  unfold eqR at q
  split at q
  · cases wx;cases wy
    exact .inl ⟨rfl,by rw [decI];exact k _ H G _ (.dat h (.bl _)) q⟩
  · cases wx;cases wy
    exact .inl ⟨rfl,by rw [decS];exact k _ H G _ (.dat h (.bl _)) q⟩
  · cases wx;cases wy
    exact .inl ⟨rfl,by rw [decB];exact k _ H G _ (.dat h (.bl _)) q⟩
  · unfold eqDeep at q
    split at q
    · rename_i d e e1 e2
      split at q
      · rename_i p p' e3 e4
        exact .inr ⟨p,p',wx.dp h e1 e3,wy.dp h e2 e4,q.1,q.2.1,k _ H G _ (.dat h (.bl _)) q.2.2⟩
      · exact q.elim
    · exact q.elim
theorem sem_ne:OpSem K (rNeAll K) (eqR true):=by
  intro G so H x y dx dy Q R h wx wy q k
  unfold eqR at q
  split at q
  · cases wx;cases wy
    exact .inl ⟨rfl,by rw [decI];exact k _ H G _ (.dat h (.bl _)) q⟩
  · cases wx;cases wy
    exact .inl ⟨rfl,by rw [decS];exact k _ H G _ (.dat h (.bl _)) q⟩
  · cases wx;cases wy
    exact .inl ⟨rfl,by rw [decB];exact k _ H G _ (.dat h (.bl _)) q⟩
  · unfold eqDeep at q
    split at q
    · rename_i d e e1 e2
      split at q
      · rename_i p p' e3 e4
        exact .inr ⟨p,p',wx.dp h e1 e3,wy.dp h e2 e4,q.1,q.2.1,k _ H G _ (.dat h (.bl _)) q.2.2⟩
      · exact q.elim
    · exact q.elim
end
@[irreducible] def Br (b:Bool) (A B:Prop):Prop:=(b=true→A)∧(b=false→B)
theorem brt {A B:Prop} (h:Br true A B):A:=by
  unfold Br at h;exact h.1 rfl
theorem brf {A B:Prop} (h:Br false A B):B:=by
  unfold Br at h;exact h.2 rfl
theorem br {b:Bool} {A B:Prop} (h1:b=true→A) (h2:b=false→B):Br b A B:=by
  unfold Br;exact ⟨h1,h2⟩
theorem brT {A B:Prop} (h:A):Br true A B:=br (fun _=>h) fun z=>(nomatch z)
theorem brF {A B:Prop} (h:B):Br false A B:=br (fun z=>(nomatch z)) fun _=>h
structure PostS (K:PySem.W.Frag) (G:Hp) (so:So) (σ:L2.St) (H:Hp) (sl:DSt) (σ':L2.St) (H' G':Hp) (sl':DSt):Prop where
  ex:Ex G G'
  rep:Rep K G' so σ' H' sl'
  keep:∀ a o,H a=some o→so.Nt a→¬ Own sl σ a→H' a=some o
  frm:∀ a,H a≠none→G a=none→so.Nt a→¬ Own sl σ a→G' a=none
  sub:∀ a,H a≠none→so.Nt a→¬ Own sl σ a→¬ Own sl' σ' a
  ln:σ'.length=σ.length
structure PostR (K:PySem.W.Frag) (G:Hp) (so:So) (σ:L2.St) (H:Hp) (sl:DSt) (v:V) (H' G':Hp) (dv:DV) (sl':DSt):Prop where
  ex:Ex G G'
  hrep:HRep K G' so H'
  keep:∀ a o,H a=some o→so.Nt a→¬ Own sl σ a→H' a=some o
  frm:∀ a,H a≠none→G a=none→so.Nt a→¬ Own sl σ a→G' a=none
  val:VOk K G' so H' v dv
  new:∀ a o,dv=.own o→v=.ref a→H a=none∨Own sl σ a
  mus:∀ (i:Nat) (x C:Addr) (fs:List (Str × D)),sl'[i]?=some (some (.mu x C fs))→∃ dx vs,H' x=some (.ins C dx vs)∧FAll K G' vs fs
def XOkS (K:PySem.W.Frag) (W:WX) (G:Hp) (so:So) (σ:L2.St) (H:Hp) (sl:DSt) (E:XP):Prop:=
  ∀ cls d σ' H' G' fs sl',PostS K G so σ H sl σ' H' G' sl'→XdOk K G' H' d fs→E cls fs sl'→W cls d σ' H'
section
variable {K:PySem.W.Frag} {W:WX} {G G1 G2:Hp} {so:So} {σ σ1 σ2:L2.St} {H H1 H2:Hp} {sl s1 s2:DSt} {v x y:V} {dv dx dy:DV} {E:XP}
theorem Rep.mus (r:Rep K G so σ H sl) (i:Nat) (x C:Addr) (fs:List (Str × D)) (e:sl[i]?=some (some (.mu x C fs))):∃ dx vs,H x=some (.ins C dx vs)∧FAll K G vs fs:=by
  obtain ⟨v,_,w⟩:=r.slots i _ e
  exact w.2.2
theorem Post.s (p:Post K G so σ H sl H1 G1 s1):PostS K G so σ H sl σ H1 G1 s1:=⟨p.ex,p.rep,fun a o e s _=>p.keep a o e s,p.frm,fun a _ _ w z=>w (p.sub a z),rfl⟩
theorem PostS.refl (r:Rep K G so σ H sl):PostS K G so σ H sl σ H G sl:=(Post.refl r).s
theorem PostS.trans (a:PostS K G so σ H sl σ1 H1 G1 s1) (b:PostS K G1 so σ1 H1 s1 σ2 H2 G2 s2):PostS K G so σ H sl σ2 H2 G2 s2:=
  ⟨a.ex.trans b.ex,b.rep,fun c o e s w=>b.keep c o (a.keep c o e s w) s (a.sub c (by rw [e];simp) s w),fun c n g s w=>by
    obtain ⟨o,e⟩:=Option.ne_none_iff_exists'.mp n
    exact b.frm c (by rw [a.keep c o e s w];simp) (a.frm c n g s w) s (a.sub c n s w),fun c n s w=>by
    obtain ⟨o,e⟩:=Option.ne_none_iff_exists'.mp n
    exact b.sub c (by rw [a.keep c o e s w];simp) s (a.sub c n s w),b.ln.trans a.ln⟩
theorem PostS.back (a:PostS K G so σ H sl σ1 H1 G1 s1) {c:Addr} (n:H1 c=none∨Own s1 σ1 c):H c=none∨Own sl σ c:=by
  by_cases w:Own sl σ c
  · exact .inr w
  · refine .inl ?_
    cases z:H c with
    | none=>rfl
    | some u=>
      by_cases s:so.Vol c
      · rcases n with n | n
        · exact absurd s (a.rep.h.there n)
        · exact absurd s (a.rep.nown n).2.2
      · rcases n with n | n
        · rw [a.keep c u z s w] at n;cases n
        · exact absurd n (a.sub c (by rw [z];simp) s w)
theorem PostS.thenE (a:PostS K G so σ H sl σ1 H1 G1 s1) (b:PostE K G1 so σ1 H1 s1 v H2 G2 dv s2):PostR K G so σ H sl v H2 G2 dv s2:=by
  have t:=a.trans b.toPost.s
  exact ⟨t.ex,t.rep.h,t.keep,t.frm,b.val,fun c o e q=>a.back (b.new c o e q),b.rep.mus⟩
theorem PostS.thenR (a:PostS K G so σ H sl σ1 H1 G1 s1) (b:PostR K G1 so σ1 H1 s1 v H2 G2 dv s2):PostR K G so σ H sl v H2 G2 dv s2:=
  ⟨a.ex.trans b.ex,b.hrep,fun c o e s w=>b.keep c o (a.keep c o e s w) s (a.sub c (by rw [e];simp) s w),fun c n g s w=>by
    obtain ⟨o,e⟩:=Option.ne_none_iff_exists'.mp n
    exact b.frm c (by rw [a.keep c o e s w];simp) (a.frm c n g s w) s (a.sub c n s w),b.val,fun c o e q=>a.back (b.new c o e q),b.mus⟩
theorem XOkS.ex (h:XOkS K W G so σ H sl E):XOk K W G so σ H sl E:=fun cls d H' G' fs sl' q a b=>h cls d σ H' G' fs sl' q.s a b
theorem XOkS.step (h:XOkS K W G so σ H sl E) (p:PostS K G so σ H sl σ1 H1 G1 s1):XOkS K W G1 so σ1 H1 s1 E:=fun cls d σ' H' G' fs sl' q a b=>h cls d σ' H' G' fs sl' (p.trans q) a b
end
structure EOk (K:PySem.W.Frag) (W:WX) (G:Hp) (so:So) (σ:L2.St) (H:Hp) (sl:DSt) (E:EndsD) (D:Ends):Prop where
  nx:∀ σ' H' G' sl',PostS K G so σ H sl σ' H' G' sl'→E.nx sl'→D.nx σ' H'
  bk:∀ σ' H' G' sl',PostS K G so σ H sl σ' H' G' sl'→E.bk sl'→D.bk σ' H'
  ct:∀ σ' H' G' sl',PostS K G so σ H sl σ' H' G' sl'→E.ct sl'→D.ct σ' H'
  rt:∀ v H' G' dv sl',PostR K G so σ H sl v H' G' dv sl'→E.rt dv sl'→D.rt v H'
  xc:XOkS K W G so σ H sl E.xc
theorem EOk.step {K:PySem.W.Frag} {W:WX} {G G1:Hp} {so:So} {σ σ1:L2.St} {H H1:Hp} {sl s1:DSt} {E:EndsD} {D:Ends} (h:EOk K W G so σ H sl E D) (p:PostS K G so σ H sl σ1 H1 G1 s1):EOk K W G1 so σ1 H1 s1 E D:=
  ⟨fun a b c d q=>h.nx a b c d (p.trans q),fun a b c d q=>h.bk a b c d (p.trans q),fun a b c d q=>h.ct a b c d (p.trans q),fun a b c d z q=>h.rt a b c d z (p.thenR q),h.xc.step p⟩
def upS (K:PySem.W.Frag) (W:WX) (t:TDS):TS:=fun D σ H=>∃ G so sl E,Rep K G so σ H sl∧t E sl∧EOk K W G so σ H sl E D
def DS (X:Cx) (W:WX) (st:Stmt) (t:TDS):Prop:=PS X st (upS X.K W t)
def DSs (X:Cx) (W:WX) (sts:List Stmt) (t:TDS):Prop:=PSs X sts (upS X.K W t)
def dNext:TDS:=fun E sl=>E.nx sl
def dSeq (t u:TDS):TDS:=fun E sl=>t { E with nx:=u E } sl
def dSet (te:TD) (i:Nat):TDS:=fun E sl=>te sl (fun x s1=>match x with
  | .see _=>False
  | y=>E.nx (s1.set i (some y))) E.xc
def dRet (te:TD):TDS:=fun E sl=>te sl (fun x s1=>E.rt x s1) E.xc
def dIf (c:TDT) (t u:TDS):TDS:=fun E sl=>c sl (fun b s1=>Br b (t E s1) (u E s1)) E.xc
section
variable {X:Cx} {W:WX} {st:Stmt} {rest body orelse:List Stmt} {t u:TDS} {e c a b:Expr} {te ta tb:TD} {tc td:TDT} {pos:Pos}
theorem ds_nil:DSs X W [] dNext:=pss_imp pss_nil fun D σ H ⟨G,so,sl,E,rep,q,ok⟩=>ok.nx σ H G sl (.refl rep) q
theorem ds_cons (h1:DS X W st t) (h2:DSs X W rest u):DSs X W (st::rest) (dSeq t u):=pss_imp (pss_cons h1 h2) fun D σ H ⟨G,so,sl,E,rep,q,ok⟩=>
  ⟨G,so,sl,_,rep,q,⟨fun σ1 H1 G1 s1 p q1=>⟨G1,so,s1,E,p.rep,q1,ok.step p⟩,ok.bk,ok.ct,ok.rt,ok.xc⟩⟩
theorem ds_one (h1:DS X W st t):DSs X W [st] t:=pss_one h1
theorem ds_ret (h:DE X W e te):DS X W (.Return (some e) pos) (dRet te):=ps_imp (ps_ret h) fun D σ H ⟨G,so,sl,E,rep,q,ok⟩=>
  ⟨G,so,sl,_,E.xc,rep,q,fun v H1 G1 dv s1 p q1=>ok.rt v H1 G1 dv s1 ((PostS.refl rep).thenE p) q1,ok.xc.ex⟩
theorem ds_if (hc:DT X W c tc) (h1:DSs X W body t) (h2:DSs X W orelse u):DS X W (.If c body orelse pos) (dIf tc t u):=ps_imp (ps_if hc h1 h2) fun D σ H ⟨G,so,sl,E,rep,q,ok⟩=>by
  refine ⟨G,so,sl,_,E.xc,rep,q,fun k H1 G1 s1 p q1=>?_,ok.xc.ex⟩
  cases k with
  | true=>rw [if_pos rfl];exact ⟨G1,so,s1,E,p.rep,(brt q1),ok.step p.s⟩
  | false=>rw [if_neg Bool.false_ne_true];exact ⟨G1,so,s1,E,p.rep,(brf q1),ok.step p.s⟩
end
section
variable {K:PySem.W.Frag} {W:WX} {G G1 G2:Hp} {so:So} {σ σ1 σ2:L2.St} {H H1 H2:Hp} {sl s1 s2:DSt} {v x y:V} {dv dx dy:DV} {E:XP}
theorem get_set {α:Type} {l:List α} {i j:Nat} {x y:α} (h:(l.set i x)[j]?=some y):(j=i∧y=x)∨(j≠i∧l[j]?=some y):=by
  by_cases ji:j=i
  · subst ji
    rw [List.getElem?_set] at h
    split at h
    · split at h
      · cases h;exact .inl ⟨rfl,rfl⟩
      · cases h
    · rename_i k;exact absurd rfl k
  · rw [List.getElem?_set_ne (Ne.symm ji)] at h
    exact .inr ⟨ji,h⟩
theorem set_slot {i:Nat} (hi:i < σ.length) (ns:∀ o,dv≠.see o) (rep:Rep K G so σ H sl) (w:VOk K G so H v dv) (n:∀ a o,dv=.own o∨dv=.bor o→v=.ref a→¬ Own sl σ a) (nb:∀ (a:Addr) (o:OO) (i':Nat) (o':OO),dv=.own o→v=.ref a→sl[i']?=some (some (.bor o'))→σ[i']?=some (some (.ref a))→False) (new:∀ a o,dv=.own o→v=.ref a→H1 a=none∨Own s1 σ1 a)
    (sub:∀ a,H1 a≠none→so.Nt a→¬ Own s1 σ1 a→¬ Own sl σ a) :
    Rep K G so (σ.set i (some v)) H (sl.set i (some dv))∧∀ a,H1 a≠none→so.Nt a→¬ Own s1 σ1 a→¬ Own (sl.set i (some dv)) (σ.set i (some v)) a:=by
  have hl:i < sl.length:=by rw [rep.len];exact hi
  have self:(σ.set i (some v))[i]?=some (some v):=List.getElem?_set_self hi
  have other:∀ {j:Nat},j≠i→(σ.set i (some v))[j]?=σ[j]?:=fun ne=>List.getElem?_set_ne (Ne.symm ne)
  refine ⟨⟨rep.h,by rw [List.length_set,List.length_set];exact rep.len,fun j d q=>?_,fun j k o o' a q1 q2 q3 q4=>?_,fun j o a q1 q2 z=>?_,fun j o z=>?_⟩,fun a n1 sa w1 z=>?_⟩
  · rcases get_set q with ⟨rfl,e⟩ | ⟨ne,e⟩
    · cases e;exact ⟨v,self,VOk.slot w⟩
    · obtain ⟨w',e1,e2⟩:=rep.slots j d e
      exact ⟨w',by rw [other ne];exact e1,e2⟩
  · rcases get_set q1 with ⟨rfl,e1⟩ | ⟨ne1,e1⟩
    · cases e1
      rw [self] at q3;cases q3
      rcases get_set q2 with ⟨rfl,e2⟩ | ⟨ne2,e2⟩
      · rfl
      · rw [other ne2] at q4
        exact absurd ⟨k,o',e2,q4⟩ (n a o (.inl rfl) rfl)
    · rw [other ne1] at q3
      rcases get_set q2 with ⟨rfl,e2⟩ | ⟨ne2,e2⟩
      · cases e2
        rw [self] at q4;cases q4
        exact absurd ⟨j,o,e1,q3⟩ (n a o' (.inl rfl) rfl)
      · rw [other ne2] at q4
        exact rep.sep j k o o' a e1 e2 q3 q4
  · obtain ⟨m,o',e1,e2⟩:=z
    rcases get_set q1 with ⟨rfl,f1⟩ | ⟨ne1,f1⟩
    · cases f1
      rw [self] at q2;cases q2
      rcases get_set e1 with ⟨rfl,f2⟩ | ⟨ne2,f2⟩
      · cases f2
      · rw [other ne2] at e2
        exact n a o (.inr rfl) rfl ⟨m,o',f2,e2⟩
    · rw [other ne1] at q2
      rcases get_set e1 with ⟨rfl,f2⟩ | ⟨ne2,f2⟩
      · cases f2
        rw [self] at e2;cases e2
        exact nb a o' j o rfl rfl f1 q2
      · rw [other ne2] at e2
        exact rep.bor j o a f1 q2 ⟨m,o',f2,e2⟩
  · rcases get_set z with ⟨rfl,e⟩ | ⟨ne,e⟩
    · cases e;exact ns o rfl
    · exact rep.nse j o e
  · obtain ⟨j,o,e1,e2⟩:=z
    rcases get_set e1 with ⟨rfl,e⟩ | ⟨ne,e⟩
    · cases e
      rw [self] at e2;cases e2
      rcases new a o rfl rfl with k | k
      · exact n1 k
      · exact w1 k
    · rw [other ne] at e2
      exact sub a n1 sa w1 ⟨j,o,e,e2⟩
theorem PostE.set {i:Nat} (hi:i < σ.length) (ns:∀ o,dv≠.see o) (p:PostE K G so σ H sl v H1 G1 dv s1):PostS K G so σ H sl (σ.set i (some v)) H1 G1 (s1.set i (some dv)):=by
  have bf:∀ (a:Addr) (o:OO) (i':Nat) (o':OO),dv=.own o→v=.ref a→s1[i']?=some (some (.bor o'))→σ[i']?=some (some (.ref a))→False:=fun a o i' o' e q e1 e2=>p.nbs a o i' o' e q e1 e2
  obtain ⟨r,s⟩:=set_slot (H1:=H) (s1:=sl) (σ1:=σ) hi ns p.rep p.val (fun a o e q=>p.sepv a o e q) bf (fun a o e q=>p.new a o e q) fun a _ _ w z=>w (p.sub a z)
  exact ⟨p.ex,r,fun a o e sa _=>p.keep a o e sa,p.frm,s,List.length_set⟩
end
section
variable {X:Cx} {W:WX} {e:Expr} {te:TD} {pos pos':Pos} {i:Nat} {x:Str}
theorem up_set {K:PySem.W.Frag} {D:Ends} {σ:L2.St} {H:Hp} (hi:∀ {G so sl},Rep K G so σ H sl→i < σ.length) (h:upS K W (dSet te i) D σ H):tAsg (up K W te) (gName i) D σ H:=by
  obtain ⟨G,so,sl,E,rep,q,ok⟩:=h
  refine ⟨G,so,sl,_,E.xc,rep,q,fun v H1 G1 dv s1 p q1=>?_,ok.xc.ex⟩
  split at q1
  · exact q1.elim
  · rename_i ns
    exact ok.nx _ H1 G1 _ (p.set (hi rep) fun o z=>ns o z) q1
theorem ps_len {st:Stmt} {t t':TS} (h:PS X st t) (f:∀ D σ H,σ.length=X.N.length→t' D σ H→t D σ H):PS X st t':=⟨fun pins s σ H Q I q=>h.run pins s σ H Q I (f _ _ _ I.len q)⟩
theorem ds_set (hN:X.N.Nodup) (hi:X.N[i]?=some x) (hx:Loc X.env.scope x) (he:DE X W e te) (hs:swapsWith e (some (.Name x pos')) pos.line X.env=pure false:=by rfl) (hf:X.fn x=true∨X.env.scope.names.lookup x=some .local:=by first | exact .inl rfl | exact .inr rfl | assumption) :
    DS X W (.Assign [.Name x pos'] e pos) (dSet te i):=ps_len (ps_set hN hi hx he hs hf) fun D σ H hl h=>up_set (fun _=>by rw [hl];exact (List.getElem?_eq_some_iff.mp hi).1) h
end
@[irreducible] def truR:DV→(Bool→Prop)→Prop
  | .d (.bl b),Q=>Q b
  | .d .non,Q=>Q false
  | .d (.int i),Q=>Q (i != 0)
  | .d (.str x),Q=>x.length≤szl∧Q ((x.length:Int) != 0)
  | .d (.tup ds),Q=>Q (!ds.isEmpty)
  | v,Q=>match v.items with
    | some ds=>Q (!ds.isEmpty)
    | none=>False
def dTru (te:TD):TDT:=fun sl Q E=>te sl (fun x s1=>truR x fun b=>Q b s1) E
def dTest (te:TD):TDT:=fun sl Q E=>te sl (fun x s1=>match x with
  | .d (.bl b)=>Q b s1
  | _=>False) E
def dOr (t u:TDT):TDT:=fun sl Q E=>t sl (fun b s1=>Br b (Q true s1) (u s1 Q E)) E
def dNot (t:TDT):TDT:=fun sl Q E=>t sl (fun b s1=>Q (!b) s1) E
def dIfE (t:TDT) (ta tb:TD):TD:=fun sl Q E=>t sl (fun b s1=>Br b (ta s1 Q E) (tb s1 Q E)) E
def dAndV (ta tb:TD):TD:=fun sl Q E=>ta sl (fun x s1=>match x with
  | .d (.bl b)=>Br b (tb s1 Q E) (Q (.d (.bl false)) s1)
  | _=>False) E
def dOrV (ta tb:TD):TD:=fun sl Q E=>ta sl (fun x s1=>match x with
  | .d (.bl b)=>Br b (Q (.d (.bl true)) s1) (tb s1 Q E)
  | _=>False) E
def dNotV (ta:TD):TD:=fun sl Q E=>ta sl (fun x s1=>truR x fun b=>Q (.d (.bl (!b))) s1) E
theorem isEmpty_all {K:PySem.W.Frag} {G:Hp} {vs:List V} {ds:List D} (a:DAll K G vs ds):vs.isEmpty=ds.isEmpty:=by
  cases a<;>rfl
theorem tru_ok {K:PySem.W.Frag} {G:Hp} {so:So} {H:Hp} {v:V} {dv:DV} {Q:Bool→Prop} (h:HRep K G so H) (w:VOk K G so H v dv) (q:truR dv Q):∃ k,TruV K v H k∧Q k:=by
  unfold truR at q
  split at q
  · cases w;exact ⟨_,rfl,q⟩
  · cases w;exact ⟨_,rfl,q⟩
  · cases w;exact ⟨_,rfl,q⟩
  · cases w;exact ⟨_,⟨by rw [← szl_eq];exact q.1,rfl⟩,q.2⟩
  · obtain ⟨a,vs,rfl,g1,a1⟩:=VOk.tup h w
    exact ⟨_,.inr (.inl ⟨vs,g1,rfl⟩),by rw [isEmpty_all a1];exact q⟩
  · split at q
    · rename_i e
      obtain ⟨a,vs,rfl,g1,a1⟩:=VOk.list h w e
      exact ⟨_,.inl ⟨vs,SqL.of g1,rfl⟩,by rw [isEmpty_all a1];exact q⟩
    · exact q.elim
section
variable {X:Cx} {W:WX} {e c a b:Expr} {rest:List Expr} {te ta tb tc:TD} {t u:TDT} {pos:Pos} {K:PySem.W.Frag} {σ:L2.St} {H:Hp}
theorem dt_val (h:DE X W e te) (he:∀ whole,isTrue e X.env whole=(do let v ← whole;standAt e.pos;holding [v] (truthy v)):=by intro _;rfl):DT X W e (dTru te):=
  pt_imp (pt_truth h he) fun σ H R ⟨G,so,sl,Q,E,rep,q,hq,hx⟩=>⟨G,so,sl,_,E,rep,q,fun v H1 G1 dv s1 p q1=>by
    obtain ⟨k,tv,qk⟩:=tru_ok p.rep.h p.val q1
    exact ⟨k,tv,hq k H1 G1 s1 p.toPost qk⟩,hx⟩
theorem up_test {te:TD} {R:Bool→Hp→Prop} (h:upT K W (dTest te) σ H R):tTest (up K W te) σ H R:=by
  obtain ⟨G,so,sl,Q,E,rep,q,hq,hx⟩:=h
  refine ⟨G,so,sl,_,E,rep,q,fun v H1 G1 dv s1 p q1=>?_,hx⟩
  split at q1
  · have w:=p.val
    cases w
    exact ⟨_,rfl,hq _ H1 G1 s1 p.toPost q1⟩
  · exact q1.elim
theorem up_test' {tE:TE} {te:TD} {R:Bool→Hp→Prop} (f:∀ R,up K W te σ H R→tE σ H R) (h:upT K W (dTest te) σ H R):tTest tE σ H R:=f _ (up_test h)
theorem dt_cmp {op:CmpOp} {r:R2} {rd:DV→DV→(DV→Prop)→Prop} (ho:OpR X (compareOp op) r) (hr:OpSem X.K r rd) (ha:DE X W a ta) (hb:DE X W b tb) (hm:behindInMarks op b=false):DT X W (.Compare a [op] [b] pos) (dTest (dOp rd ta tb)):=
  pt_imp (pt_cmpR ho ha hb hm) fun _ _ _ h=>up_test' (fun _ h=>up_op hr h) h
def dChain (rd rd':DV→DV→(DV→Prop)→Prop) (ta tb tc:TD):TD:=fun sl Q E=>ta sl (fun x s1=>tb s1 (fun y s2=>rd x y fun z=>match z with
  | .d (.bl b)=>Br b (tc s2 (fun w s3=>rd' y w fun z'=>Q z' s3) E) (Q (.d (.bl false)) s2)
  | _=>False) E) E
theorem PostV.nop {G G1 H1:Hp} {so:So} {v:V} {dv:DV} {sl:DSt} (p:PostV K G so H v H1 G1 dv) (rep:Rep K G so σ H sl):Post K G so σ H sl H1 G1 sl:=(p.slots rep).toPost
theorem up_chain {r r':R2} {rd rd':DV→DV→(DV→Prop)→Prop} {R:VK} (hr:OpSem K r rd) (hr':OpSem K r' rd') (h:up K W (dChain rd rd' ta tb tc) σ H R):tChain r r' (up K W ta) (up K W tb) (up K W tc) σ H R:=by
  obtain ⟨G,so,sl,Q,E,rep,q,hq,hx⟩:=h
  refine ⟨G,so,sl,_,E,rep,q,fun x H1 G1 dx s1 p1 h1=>?_,hx⟩
  refine ⟨G1,so,s1,_,E,p1.rep,h1,fun y H2 G2 dy s2 p2 h2=>?_,hx.step p1.toPost⟩
  have p12:=p1.toPost.trans p2.toPost
  refine hr G2 so H2 x y dx dy _ _ p2.rep.h (p1.over p2.toPost) p2.val h2 fun v H3 G3 dv pv hz=>?_
  split at hz
  · have w:=pv.val
    cases w
    rename_i b
    have p3:=pv.nop p2.rep
    refine ⟨_,rfl,?_⟩
    cases b with
    | true=>
      rw [if_pos rfl]
      refine ⟨G3,so,s2,_,E,p3.rep,(brt hz),fun w H4 G4 dw s4 p4 h4=>?_,(hx.step p12).step p3⟩
      exact hr' G4 so H4 y w dy dw _ R p4.rep.h (p2.over (p3.trans p4.toPost)) p4.val h4 fun v' H' G' dv' pv' hz'=>hq v' H' G' dv' s4 ((p12.trans (p3.trans p4.toPost)).thenV pv') hz'
    | false=>
      rw [if_neg Bool.false_ne_true]
      exact hq _ H3 G3 _ s2 (p12.thenV pv) ((brf hz))
  · exact hz.elim
theorem de_chain {op op':CmpOp} {r r':R2} {rd rd':DV→DV→(DV→Prop)→Prop} (ho:OpR X (compareOp op) r) (hr:OpSem X.K r rd) (ho':OpR X (compareOp op') r') (hr':OpSem X.K r' rd') (ha:DE X W a ta) (hb:DE X W b tb) (hc:DE X W c tc)
    (hm:lastMarks [op,op'] [b,c]=false:=by with_unfolding_all rfl):DE X W (.Compare a [op,op'] [b,c] pos) (dChain rd rd' ta tb tc):=pe_imp (pe_chain ho ho' ha hb hc hm) fun _ _ _ h=>up_chain hr hr' h
def DW (X:Cx) (W:WX) (e:Expr) (t:TDT):Prop:=PW X e (upT X.K W t)
theorem DW.dt (h:DW X W e t):DT X W e t:=PW.pt h
theorem dw_or1 (h:DT X W a t):DW X W (.BoolOp .Or [a] pos) t:=pw_or1 h
theorem dw_or (h:DT X W a t) (h2:DW X W (.BoolOp .Or (b::rest) pos) u):DW X W (.BoolOp .Or (a::b::rest) pos) (dOr t u):=pw_imp (pw_or h h2) fun σ H R ⟨G,so,sl,Q,E,rep,q,hq,hx⟩=>
  ⟨G,so,sl,_,E,rep,q,fun k H1 G1 s1 p q1=>by
    cases k with
    | true=>rw [if_pos rfl];exact hq true H1 G1 s1 p ((brt q1))
    | false=>rw [if_neg Bool.false_ne_true];exact ⟨G1,so,s1,Q,E,p.rep,(brf q1),fun k' H2 G2 s2 p2 q2=>hq k' H2 G2 s2 (p.trans p2) q2,hx.step p⟩,hx⟩
theorem dt_not (h:DT X W a t):DT X W (.UnaryOp .Not a pos) (dNot t):=pt_imp (pt_not h) fun σ H R ⟨G,so,sl,Q,E,rep,q,hq,hx⟩=>⟨G,so,sl,_,E,rep,q,fun k H1 G1 s1 p q1=>hq (!k) H1 G1 s1 p q1,hx⟩
theorem de_ifE (hc:DT X W c t) (ha:DE X W a ta) (hb:DE X W b tb):DE X W (.IfExp c a b pos) (dIfE t ta tb):=pe_imp (pe_ifExp hc ha hb) fun σ H R ⟨G,so,sl,Q,E,rep,q,hq,hx⟩=>
  ⟨G,so,sl,_,E,rep,q,fun k H1 G1 s1 p q1=>by
    cases k with
    | true=>rw [if_pos rfl];exact ⟨G1,so,s1,Q,E,p.rep,(brt q1),fun v H2 G2 dv s2 p2 q2=>hq v H2 G2 dv s2 (p.thenE p2) q2,hx.step p⟩
    | false=>rw [if_neg Bool.false_ne_true];exact ⟨G1,so,s1,Q,E,p.rep,(brf q1),fun v H2 G2 dv s2 p2 q2=>hq v H2 G2 dv s2 (p.thenE p2) q2,hx.step p⟩,hx⟩
theorem de_one {op:BoolOp} (h:DE X W a ta):DE X W (.BoolOp op [a] pos) ta:=pe_one h
theorem de_and (ha:DE X W a ta) (hb:DE X W (.BoolOp .And (b::rest) pos) tb):DE X W (.BoolOp .And (a::b::rest) pos) (dAndV ta tb):=pe_imp (pe_and ha hb) fun σ H R ⟨G,so,sl,Q,E,rep,q,hq,hx⟩=>
  ⟨G,so,sl,_,E,rep,q,fun v H1 G1 dv s1 p q1=>by
    split at q1
    · have w:=p.val
      cases w
      rename_i k
      refine ⟨_,rfl,?_⟩
      cases k with
      | true=>rw [if_pos rfl];exact ⟨G1,so,s1,Q,E,p.rep,(brt q1),fun v H2 G2 dv s2 p2 q2=>hq v H2 G2 dv s2 (p.toPost.thenE p2) q2,hx.step p.toPost⟩
      | false=>rw [if_neg Bool.false_ne_true];exact hq _ H1 G1 _ s1 p ((brf q1))
    · exact q1.elim,hx⟩
theorem de_or (ha:DE X W a ta) (hb:DE X W (.BoolOp .Or (b::rest) pos) tb):DE X W (.BoolOp .Or (a::b::rest) pos) (dOrV ta tb):=pe_imp (pe_or ha hb) fun σ H R ⟨G,so,sl,Q,E,rep,q,hq,hx⟩=>
  ⟨G,so,sl,_,E,rep,q,fun v H1 G1 dv s1 p q1=>by
    split at q1
    · have w:=p.val
      cases w
      rename_i k
      refine ⟨_,rfl,?_⟩
      cases k with
      | true=>rw [if_pos rfl];exact hq _ H1 G1 _ s1 p ((brt q1))
      | false=>rw [if_neg Bool.false_ne_true];exact ⟨G1,so,s1,Q,E,p.rep,(brf q1),fun v H2 G2 dv s2 p2 q2=>hq v H2 G2 dv s2 (p.toPost.thenE p2) q2,hx.step p.toPost⟩
    · exact q1.elim,hx⟩
theorem de_not (ha:DE X W a ta):DE X W (.UnaryOp .Not a pos) (dNotV ta):=pe_imp (pe_notT ha) fun σ H R ⟨G,so,sl,Q,E,rep,q,hq,hx⟩=>⟨G,so,sl,_,E,rep,q,fun v H1 G1 dv s1 p q1=>by
    obtain ⟨k,tv,qk⟩:=tru_ok p.rep.h p.val q1
    exact ⟨k,tv,hq _ H1 G1 _ s1 (p.toPost.thenV (.dat p.rep.h (.bl _))) qk⟩,hx⟩
def dats:List DV→Option (List D)
  | []=>some []
  | .d x::r=>(dats r).map (x::·)
  | _=>none
theorem dats_all {G:Hp} {so:So}:∀ {vs:List V} {ds:List DV} {xs:List D},VsOk K G so H vs ds→dats ds=some xs→DAll K G vs xs
  | _,_,_,.nil,e=>by cases e;exact .nil
  | _,_,_,.cons (d:=.d x) h n t,e=>by
    unfold dats at e
    rename_i ds0
    cases z:dats ds0 with
    | none=>rw [z] at e;cases e
    | some ys=>rw [z] at e;cases e;exact .cons h (dats_all t z)
  | _,_,_,.cons (d:=.src) h n t,e=>by cases e
  | _,_,_,.cons (d:=.own o) h n t,e=>by cases e
  | _,_,_,.cons (d:=.bor o) h n t,e=>by cases e
  | _,_,_,.cons (d:=.see o) h n t,e=>by cases e
@[irreducible] def tupR (xs:List DV) (Q:DV→Prop):Prop:=match dats xs with
  | some ds=>ds.length≤szl∧Q (.d (.tup ds))
  | none=>False
@[irreducible] def lstR (xs:List DV) (Q:DV→Prop):Prop:=match dats xs with
  | some ds=>ds.length≤szl∧Q (.own (.lst ds))
  | none=>False
theorem de_tup {es:List Expr} {ta:TDA} {k:Nat} (h:DA X W es ta):DE X W (.Tuple es k pos) (dCB tupR ta):=pe_imp (pe_tup h) fun σ H R ⟨G,so,sl,Q,E,rep,q,hq,hx⟩=>
  ⟨G,so,sl,_,E,rep,q,fun vs H1 G1 ds s1 p w q1=>by
    unfold tupR at q1
    split at q1
    · rename_i xs e
      have a:=dats_all w e
      exact ⟨by rw [a.length,← szl_eq];exact q1.1,fun l n=>hq _ _ _ _ s1 (p.thenV (.tuple p.rep.h n a)) q1.2⟩
    · exact q1.elim,hx⟩
theorem de_lst {es:List Expr} {ta:TDA} (h:DA X W es ta):DE X W (.List es pos) (dCB lstR ta):=pe_imp (pe_lst h) fun σ H R ⟨G,so,sl,Q,E,rep,q,hq,hx⟩=>
  ⟨G,so,sl,_,E,rep,q,fun vs H1 G1 ds s1 p w q1=>by
    unfold lstR at q1
    split at q1
    · rename_i xs e
      have a:=dats_all w e
      exact ⟨by rw [a.length,← szl_eq];exact q1.1,fun l n=>hq _ _ _ _ s1 (p.thenV (.list p.rep.h n a)) q1.2⟩
    · exact q1.elim,hx⟩
end
abbrev TDG:=D→DSt→(DSt→Prop)→Prop
abbrev TDGs:=List D→DSt→(DSt→Prop)→Prop
def GSem (K:PySem.W.Frag) (n:Nat) (ix:List Nat) (g:TG) (gd:TDG):Prop:=∀ (G:Hp) (so:So) (σ:L2.St) (H:Hp) (sl:DSt) (v:V) (d:D) (Q:DSt→Prop) (R:L2.St→Hp→Prop),σ.length=n→Rep K G so σ H sl→DOk K G v d→gd d sl Q→
  (∀ σ' sl',PostS K G so σ H sl σ' H G sl'→(∀ j,j∉ix→σ'[j]?=σ[j]?∧sl'[j]?=sl[j]?)→Q sl'→R σ' H)→g v σ H R
def GsSem (K:PySem.W.Frag) (n:Nat) (ix:List Nat) (g:TGs) (gd:TDGs):Prop:=∀ (G:Hp) (so:So) (σ:L2.St) (H:Hp) (sl:DSt) (vs:List V) (ds:List D) (Q:DSt→Prop) (R:L2.St→Hp→Prop),σ.length=n→Rep K G so σ H sl→DAll K G vs ds→gd ds sl Q→
  (∀ σ' sl',PostS K G so σ H sl σ' H G sl'→(∀ j,j∉ix→σ'[j]?=σ[j]?∧sl'[j]?=sl[j]?)→Q sl'→R σ' H)→g vs σ H R
structure DG (X:Cx) (ix:List Nat) (tg:Expr) (g:TG) (gd:TDG):Prop where
  pg:PG X tg g
  sem:GSem X.K X.N.length ix g gd
structure DGs (X:Cx) (ix:List Nat) (tg:List Expr) (g:TGs) (gd:TDGs):Prop where
  pg:PGs X tg g
  sem:GsSem X.K X.N.length ix g gd
def gD (i:Nat):TDG:=fun d sl Q=>Q (sl.set i (some (.d d)))
def gNilD:TDGs:=fun ds sl Q=>match ds with
  | []=>Q sl
  | _=>False
def gConsD (g:TDG) (r:TDGs):TDGs:=fun ds sl Q=>match ds with
  | d::ds'=>g d sl fun s1=>r ds' s1 Q
  | []=>False
def gTupD (n:Nat) (r:TDGs):TDG:=fun d sl Q=>match d with
  | .tup ds=>ds.length=n∧r ds sl Q
  | _=>False
section
variable {X:Cx} {pos:Pos} {i:Nat} {x:Str} {ix iy:List Nat} {e:Expr} {es:List Expr} {gd:TDG} {gs:TDGs} {g1:TG} {g2:TGs}
theorem gsem_name {K:PySem.W.Frag} {n:Nat} (hi:i < n):GSem K n [i] (gName i) (gD i):=by
  intro G so σ H sl v d Q R hl rep w q k
  have h0:i < σ.length:=by rw [hl];exact hi
  refine k _ _ ((PostE.here rep (dv:=.d d) w (fun _ z=>(nomatch z)) fun _ _ z=>(nomatch z)).set h0 fun _ z=>by cases z) (fun j hj=>?_) q
  exact ⟨List.getElem?_set_ne fun z=>hj (by simp [z]),List.getElem?_set_ne fun z=>hj (by simp [z])⟩
theorem dg_name (hN:X.N.Nodup) (hi:X.N[i]?=some x) (hx:Loc X.env.scope x) (hf:X.fn x=true∨X.env.scope.names.lookup x=some .local:=by first | exact .inl rfl | exact .inr rfl | assumption):DG X [i] (.Name x pos) (gName i) (gD i):=
  ⟨pg_name hN hi hx hf,gsem_name (List.getElem?_eq_some_iff.mp hi).1⟩
theorem dgs_nil:DGs X [] [] gNil gNilD:=⟨pgs_nil,fun G so σ H sl vs ds Q R hl rep w q k=>by
  unfold gNilD at q
  split at q
  · cases w;exact ⟨rfl,k σ sl (.refl rep) (fun _ _=>⟨rfl,rfl⟩) q⟩
  · exact q.elim⟩
theorem dgs_cons (h1:DG X ix e g1 gd) (h2:DGs X iy es g2 gs) (hs:(assignEach (e::es) X.env).map (·.2)=assign e X.env::(assignEach es X.env).map (·.2):=by rfl):DGs X (ix++iy) (e::es) (gCons g1 g2) (gConsD gd gs):=by
  obtain ⟨p1,s1⟩:=h1
  obtain ⟨p2,s2⟩:=h2
  refine ⟨pgs_cons p1 p2 hs,fun G so σ H sl vs ds Q R hl rep w q k=>?_⟩
  unfold gConsD at q
  split at q
  · cases w with
    | cons w1 w2=>
      refine ⟨_,_,rfl,s1 G so σ H sl _ _ _ _ hl rep w1 q fun σ1 sl1 t1 u1 q1=>?_⟩
      refine s2 G so σ1 H sl1 _ _ _ _ (t1.ln.trans hl) t1.rep w2 q1 fun σ2 sl2 t2 u2 q2=>k σ2 sl2 (t1.trans t2) (fun j hj=>?_) q2
      have v2:=u2 j fun z=>hj (List.mem_append_right _ z)
      have v1:=u1 j fun z=>hj (List.mem_append_left _ z)
      exact ⟨v2.1.trans v1.1,v2.2.trans v1.2⟩
  · exact q.elim
theorem dg_tup {k:Nat} {n:Nat} {K:PySem.W.Frag} (hc:X.calm=true) (h:DGs X ix es g2 gs) (hK:X.K=K:=by rfl) (hn:(assignEach es X.env).length=n:=by rfl) (hst:(assignEach es X.env).findIdx? (·.1)=none:=by rfl):DG X ix (.Tuple es k pos) (gTup K n g2) (gTupD n gs):=by
  subst hK
  obtain ⟨p,s⟩:=h
  refine ⟨pg_tup hc p hn hst,fun G so σ H sl v d Q R hl rep w q k=>?_⟩
  unfold gTupD at q
  split at q
  · obtain ⟨a,vs,rfl,g1,a1⟩:=VOk.tup rep.h w
    exact ⟨a,vs,rfl,g1,a1.length.trans q.1,s G so σ H sl vs _ Q R hl rep a1 q.2 k⟩
  · exact q.elim
end
abbrev TDI:=DSt→(List D→DSt→Prop)→XP→Prop
def ItD (K:PySem.W.Frag) (G:Hp) (so:So) (σ:L2.St) (H:Hp) (sl:DSt) (J:It) (ds:List D):Prop:=∃ ps:List Addr,(∀ a∈ps,H a≠none∧so.Nt a∧¬ Own sl σ a)∧
  (∀ (i:Nat) H1,i < ds.length→(∀ a∈ps,H1 a=H a)→J.go i H1)∧(∀ H1,(∀ a∈ps,H1 a=H a)→J.stop ds.length H1)∧
  (∀ (i:Nat) H1 x H2 G1,(∀ a∈ps,H1 a=H a)→Ex G G1→HRep K G1 so H1→J.yld i H1 x H2→i < ds.length→∃ d G2,ds[i]?=some d∧PostV K G1 so H1 x H2 G2 (.d d))
def upI (K:PySem.W.Frag) (W:WX) (t:TDI):TI:=fun σ H R=>∃ G so sl Q E,Rep K G so σ H sl∧t sl Q E∧(∀ J H' G' ds sl',Post K G so σ H sl H' G' sl'→ItD K G' so σ H' sl' J ds→Q ds sl'→R J H')∧XOk K W G so σ H sl E
def DI (X:Cx) (W:WX) (tg iter:Expr) (t:TDI):Prop:=PI X tg iter (upI X.K W t)
theorem pi_imp {X:Cx} {tg e:Expr} {t t':TI} (h:PI X tg e t) (f:∀ σ H R,t' σ H R→t σ H R):PI X tg e t':=⟨fun pins s σ H Q I q=>h.run pins s σ H Q I (f _ _ _ q)⟩
def signs (z:Str):List D:=z.cps.toList.map fun c=>.str ⟨#[c]⟩
@[irreducible] def iterR:DV→(List D→Prop)→Prop
  | .d (.tup ds),Q=>Q ds
  | .d (.str z),Q=>Q (signs z)
  | .see _,_=>False
  | v,Q=>match v.items with
    | some ds=>Q ds
    | none=>False
def dIter (te:TD):TDI:=fun sl Q E=>te sl (fun x s1=>iterR (pubV x) fun ds=>Q ds s1) E
def intsFrom (lo:Int):Nat→List D
  | 0=>[]
  | n + 1=>.int lo::intsFrom (lo + 1) n
theorem intsFrom_len (lo:Int) (n:Nat):(intsFrom lo n).length=n:=by
  induction n generalizing lo with
  | zero=>rfl
  | succ n ih=>show (intsFrom (lo + 1) n).length + 1=n + 1;rw [ih]
theorem intsFrom_get (lo:Int) (n i:Nat) (h:i < n):(intsFrom lo n)[i]?=some (.int (lo + i)):=by
  induction n generalizing lo i with
  | zero=>omega
  | succ n ih=>
    cases i with
    | zero=>show some (D.int lo)=_;rw [show lo + ((0:Nat):Int)=lo by omega]
    | succ i=>show (intsFrom (lo + 1) n)[i]?=_;rw [ih (lo + 1) i (by omega)];congr 2;omega
def dItA (rd:List DV→(List D→Prop)→Prop) (ta:TDA):TDI:=fun sl Q E=>ta sl (fun xs s1=>rd xs fun ds=>Q ds s1) E
@[irreducible] def rngR1:List DV→(List D→Prop)→Prop
  | [.d (.int j)],Q=>-(2 ^ 62)≤j∧j < 2 ^ 62∧Q (intsFrom 0 j.toNat)
  | _,_=>False
def enumFrom (i:Int):List D→List D
  | []=>[]
  | d::r=>.tup [.int i,d]::enumFrom (i + 1) r
theorem enum_len (i:Int) (ds:List D):(enumFrom i ds).length=ds.length:=by
  induction ds generalizing i with
  | nil=>rfl
  | cons d r ih=>show (enumFrom (i + 1) r).length + 1=r.length + 1;rw [ih]
theorem enum_get (i:Int) (ds:List D) (j:Nat) (d:D) (h:ds[j]?=some d):(enumFrom i ds)[j]?=some (.tup [.int (i + j),d]):=by
  induction ds generalizing i j with
  | nil=>simp at h
  | cons e r ih=>
    cases j with
    | zero=>cases h;show some (D.tup [.int i,d])=_;rw [show i + ((0:Nat):Int)=i by omega]
    | succ j=>show (enumFrom (i + 1) r)[j]?=_;rw [ih (i + 1) j (by simpa using h)];congr 4;omega
section
variable {X:Cx} {W:WX} {tg e e2 a b:Expr} {te:TD} {ta:TDA} {pos p:Pos}
def iAny (K:PySem.W.Frag) (tl:TE):TI:=fun σ H R=>tl σ H fun x H1=>(∃ a,x=.ref a∧(∃ xs,SqL K H1 a xs)∧R (Itl K a) H1)∨(∃ a,x=.ref a∧(∃ xs,SqT K H1 a xs)∧R (Itt K a) H1)∨∃ z,x=.str z∧R (Its z) H1
theorem pi_any {tl:TE} (hl:PE X e tl):PI X tg e (iAny X.K tl):=by
  refine ⟨fun pins s σ H R I h=>thn (hl.run pins s σ H _ I h) fun v s1 ⟨x,H1,I1,r1,q1⟩=>?_⟩
  rcases q1 with ⟨a,ex,⟨xs,hq⟩,q⟩ | ⟨a,ex,⟨xs,hq⟩,q⟩ | ⟨z,ex,q⟩
  · subst ex;cases r1
    obtain ⟨its,rv,pl,_⟩:=I1.list hq
    exact wpAny_pyIter_list pl.isList (pi_one (tk:=s1.toks) I1 _ (turn_list a _) ⟨_,Heap.get?_push_size _ rfl,rfl,rfl⟩ q)
  · subst ex;cases r1
    obtain ⟨its,rv,pt,_⟩:=I1.tuple hq
    exact wpAny_pyIter_tuple (show s1.heap.IsTuple a its.toArray from pt) (pi_one (tk:=s1.toks) I1 _ (turn_tuple a _) ⟨_,Heap.get?_push_size _ rfl,rfl,rfl⟩ q)
  · subst ex
    obtain ⟨t,rfl⟩:=r1
    cases ha:z.cps.all (· < 128)
    · exact wpAny_pyIter_wide ha (pi_one (tk:=s1.toks) I1 _ (turn_str _ z t "str_iterator" (.inr rfl)) ⟨_,Heap.get?_push_size _ rfl,rfl,rfl⟩ q)
    · exact wpAny_pyIter_ascii ha (pi_one (tk:=s1.toks) I1 _ (turn_str _ z t "str_ascii_iterator" (.inl rfl)) ⟨_,Heap.get?_push_size _ rfl,rfl,rfl⟩ q)
section
variable {K:PySem.W.Frag} {G H:Hp} {so:So} {σ:L2.St} {sl:DSt} {v w:V} {dv dw:DV}
theorem VOk.listS {ds:List D} (rep:Rep K G so σ H sl) (w:VOk K G so H v dv) (n:∀ o a,dv=.own o∨dv=.bor o→v=.ref a→¬ Own sl σ a) (m:∀ o,dv≠.see o) (e:dv.items=some ds) :
    ∃ a vs,v=.ref a∧H a=some (.lst vs)∧DAll K G vs ds∧H a≠none∧so.Nt a∧¬ Own sl σ a:=by
  unfold DV.items at e
  split at e
  · cases e
    cases w with
    | lst g al=>exact ⟨_,_,rfl,rep.h.ex _ _ g,al,by rw [rep.h.ex _ _ g];simp,rep.h.nsrc g,fun z=>by have:=(rep.nown z).2.1;rw [g] at this;cases this⟩
  · cases e
    obtain ⟨c,rfl,g,s,vs,e1,al⟩:=w
    exact ⟨c,vs,rfl,e1,al,by rw [e1];simp,s,n _ c (.inl rfl) rfl⟩
  · cases e
    obtain ⟨c,rfl,s,vs,e1,al⟩:=w
    exact ⟨c,vs,rfl,e1,al,by rw [e1];simp,s,n _ c (.inr rfl) rfl⟩
  · exact absurd rfl (m _)
  · cases e
theorem it_list {c:Addr} {vs:List V} {ds:List D} (e:H c=some (.lst vs)) (al:DAll K G vs ds) (s:so.Nt c) (n:¬ Own sl σ c):ItD K G so σ H sl (Itl K c) ds:=by
  refine ⟨[c],fun a ha=>?_,fun i H1 hi k=>?_,fun H1 k=>?_,fun i H1 x H2 G1 k g h1 y hi=>?_⟩
  · obtain rfl:a=c:=by simpa using ha
    exact ⟨by rw [e];simp,s,n⟩
  · have q:H1 c=some (.lst vs):=by rw [k c (by simp)];exact e
    have hl:i < vs.length:=by rw [al.length];exact hi
    exact ⟨vs,vs[i],SqL.of q,by simp [hl]⟩
  · have q:H1 c=some (.lst vs):=by rw [k c (by simp)];exact e
    exact ⟨vs,SqL.of q,by rw [al.length];exact Nat.le_refl _⟩
  · have q:H1 c=some (.lst vs):=by rw [k c (by simp)];exact e
    obtain ⟨rfl,y⟩:=y
    obtain ⟨d,e1,e2⟩:=al.getV (y vs (SqL.of q))
    exact ⟨d,G1,e1,.dat h1 (e2.mono g)⟩
theorem it_tup {c:Addr} {vs:List V} {ds:List D} (rep:Rep K G so σ H sl) (e:SqT K G c vs) (al:DAll K G vs ds):ItD K G so σ H sl (Itt K c) ds:=by
  have kp:∀ (H1:Hp),(∀ a∈(if G c=none then [] else [c]),H1 a=H a)→SqT K H1 c vs:=fun H1 k=>by
    rcases e with (e | ⟨o,e⟩) | e
    · refine .inl (.inl ?_)
      rw [k c (by rw [if_neg (by rw [e];simp)];simp)];exact rep.h.ex _ _ e
    · refine .inl (.inr ⟨o,?_⟩)
      rw [k c (by rw [if_neg (by rw [e];simp)];simp)];exact rep.h.ex _ _ e
    · exact .inr e
  refine ⟨if G c=none then [] else [c],fun a ha=>?_,fun i H1 hi k=>?_,fun H1 k=>?_,fun i H1 x H2 G1 k g h1 y hi=>?_⟩
  · split at ha
    · simp at ha
    · rename_i z
      obtain rfl:a=c:=by simpa using ha
      obtain ⟨o,eo⟩:=Option.ne_none_iff_exists'.mp z
      exact ⟨by rw [rep.h.ex _ _ eo];simp,rep.h.nsrc eo,fun q=>z (rep.nown q).2.1⟩
  · have hl:i < vs.length:=by rw [al.length];exact hi
    exact ⟨vs,vs[i],kp H1 k,by simp [hl]⟩
  · exact ⟨vs,kp H1 k,by rw [al.length];exact Nat.le_refl _⟩
  · obtain ⟨rfl,y⟩:=y
    obtain ⟨d,e1,e2⟩:=al.getV (y vs (kp _ k))
    exact ⟨d,G1,e1,.dat h1 (e2.mono g)⟩
theorem it_str {z:Str}:ItD K G so σ H sl (Its z) (signs z):=by
  have hl:(signs z).length=z.cps.size:=by unfold signs;simp
  refine ⟨[],fun a ha=>by simp at ha,fun i H1 hi k=>by rw [hl] at hi;exact hi,fun H1 k=>Nat.le_of_eq hl.symm,fun i H1 x H2 G1 k g h1 y hi=>?_⟩
  obtain ⟨rfl,c,e,rfl⟩:=y
  refine ⟨.str ⟨#[c]⟩,G1,?_,.dat h1 (.str _)⟩
  unfold signs
  rw [List.getElem?_map,Array.getElem?_toList,e];rfl
theorem it_rng {lo:Int} {n:Nat}:ItD K G so σ H sl (Itr lo n) (intsFrom lo n):=by
  have hl:=intsFrom_len lo n
  refine ⟨[],fun a ha=>by simp at ha,fun i H1 hi k=>by rw [hl] at hi;exact hi,fun H1 k=>Nat.le_of_eq hl.symm,fun i H1 x H2 G1 k g h1 y hi=>?_⟩
  obtain ⟨rfl,rfl⟩:=y
  rw [hl] at hi
  exact ⟨_,G1,intsFrom_get lo n i hi,.dat h1 (.int _)⟩
theorem it_enum {c:Addr} {vs:List V} {ds:List D} (e:H c=some (.lst vs)) (al:DAll K G vs ds) (s:so.Nt c) (n:¬ Own sl σ c):ItD K G so σ H sl (Ite K c) (enumFrom 0 ds):=by
  have hl:=enum_len 0 ds
  have W:=walk_enum (K:=K) (a:=c) (xs:=vs)
  refine ⟨[c],fun a ha=>?_,fun i H1 hi k=>?_,fun H1 k=>?_,fun i H1 x H2 G1 k g h1 y hi=>?_⟩
  · obtain rfl:a=c:=by simpa using ha
    exact ⟨by rw [e];simp,s,n⟩
  · exact W.goes i H1 (by rw [al.length,← hl];exact hi) (SqL.of (by rw [k c (by simp)];exact e))
  · rw [hl,← al.length];exact W.stops H1 (SqL.of (by rw [k c (by simp)];exact e))
  · obtain ⟨T,x1,x2,rfl,nT,rfl,f1,f2⟩:=W.yields i H1 x H2 (by rw [al.length,← hl];exact hi) (SqL.of (by rw [k c (by simp)];exact e)) y
    cases f1
    obtain ⟨d,e1,e2⟩:=al.getV f2
    refine ⟨_,_,enum_get 0 ds i d e1,.tuple h1 nT (.cons ?_ (.cons (e2.mono g) .nil))⟩
    rw [show (0:Int) + (i:Nat)=(i:Nat) by omega];exact .int _
end
end
section
variable {X:Cx} {W:WX} {tg e e2 a b:Expr} {te:TD} {ta:TDA} {pos p:Pos}
theorem di_any (h:DE X W e te):DI X W tg e (dIter te):=pi_imp (pi_any h) fun σ H R ⟨G,so,sl,Q,E,rep,q,hq,hx⟩=>by
  refine ⟨G,so,sl,_,E,rep,q,fun x H1 G0 dx s1 p0 q1=>?_,hx⟩
  obtain ⟨G1,p⟩:=p0.pub
  have w:=p.val
  have sv:=p.sepv
  have rp:=p.rep
  have pp:=p.toPost
  generalize hz:pubV dx=dz at w q1 sv
  unfold iterR at q1
  split at q1
  · cases w with
    | tup g al=>exact .inr (.inl ⟨_,rfl,⟨_,ex_t rp.h.ex g⟩,hq _ H1 G1 _ s1 pp (it_tup rp g al) q1⟩)
  · cases w;exact .inr (.inr ⟨_,rfl,hq _ H1 G1 _ s1 pp it_str q1⟩)
  · exact q1.elim
  · split at q1
    · rename_i ns _o ds e1
      obtain ⟨c,vs,rfl,e2,al,_,s,n⟩:=VOk.listS rp w (fun o c e' q'=>sv c o e' q') (fun o z=>ns o z) e1
      exact .inl ⟨c,rfl,⟨_,SqL.of e2⟩,hq _ H1 G1 _ s1 pp (it_list e2 al s n) q1⟩
    · exact q1.elim
theorem VsOk.v1 {K:PySem.W.Frag} {G H:Hp} {so:So} {vs:List V} {d:DV} (h:VsOk K G so H vs [d]):∃ v,vs=[v]∧VOk K G so H v d∧∀ o,d≠.own o:=by
  cases h with
  | cons w n t=>cases t;exact ⟨_,rfl,w,n⟩
theorem VsOk.v2 {K:PySem.W.Frag} {G H:Hp} {so:So} {vs:List V} {d e:DV} (h:VsOk K G so H vs [d,e]):∃ v w,vs=[v,w]∧VOk K G so H v d∧VOk K G so H w e∧(∀ o,d≠.own o)∧∀ o,e≠.own o:=by
  cases h with
  | cons w n t=>
    obtain ⟨v,rfl,w2,n2⟩:=t.v1
    exact ⟨_,v,rfl,w,w2,n,n2⟩
theorem rep_own {K:PySem.W.Frag} {G H:Hp} {so:So} {σ:L2.St} {sl:DSt} (rep:Rep K G so σ H sl) {c:Addr} {o:HO} (g:G c=some o):¬ Own sl σ c:=fun z=>by
  have:=(rep.nown z).2.1
  rw [g] at this;cases this
theorem di_rng1 (hg:Gl X "range") (hm:X.mg "range"=none) (h:DA X W [a] ta) (hs:starEach [a] X.env=[(false,eval a X.env)]:=by rfl):DI X W tg (.Call (.Name "range" p) [a] [] pos) (dItA rngR1 ta):=pi_imp (pi_range1 hg hm h hs) fun σ H R ⟨G,so,sl,Q,E,rep,q,hq,hx⟩=>by
  refine ⟨G,so,sl,_,E,rep,q,fun vs H1 G1 ds s1 pp w q1=>?_,hx⟩
  unfold rngR1 at q1
  split at q1
  · obtain ⟨v,rfl,w1,_⟩:=w.v1
    cases w1
    exact ⟨_,rfl,q1.1,q1.2.1,hq _ H1 G1 _ s1 pp it_rng q1.2.2⟩
  · exact q1.elim
end
section
variable {X:Cx} {W:WX} {e e2:Expr} {ta:TDA} {pos p:Pos}
end
def dForL0 (g:TDG) (tb:TDS) (E:EndsD):List D→DSt→Prop
  | [],sl=>E.nx sl
  | d::r,sl=>g d sl fun s1=>tb { nx:=dForL0 g tb E r,ct:=dForL0 g tb E r,bk:=E.nx,rt:=E.rt,xc:=E.xc } s1
@[irreducible] def dForL (g:TDG) (tb:TDS) (E:EndsD) (ds:List D) (sl:DSt):Prop:=dForL0 g tb E ds sl
theorem forL_nil {g:TDG} {tb:TDS} {E:EndsD} {sl:DSt}:dForL g tb E [] sl=E.nx sl:=by unfold dForL;rfl
theorem forL_cons {g:TDG} {tb:TDS} {E:EndsD} {sl:DSt} {d:D} {r:List D}:dForL g tb E (d::r) sl=g d sl fun s1=>tb { nx:=dForL g tb E r,ct:=dForL g tb E r,bk:=E.nx,rt:=E.rt,xc:=E.xc } s1:=by unfold dForL;rfl
def dFor (ti:TDI) (g:TDG) (tb:TDS):TDS:=fun E sl=>ti sl (fun ds s1=>dForL g tb E ds s1) E.xc
section
variable {X:Cx} {W:WX} {tg iter:Expr} {body:List Stmt} {ti:TDI} {g:TDG} {tb:TDS} {pos:Pos} {ix:List Nat} {g':TG}
theorem ds_for (hp:PassesOwn (model X.prog X.w) X.A X.env X.xe) (hc:X.calm=true) (hi:DI X W tg iter ti) (hg:DG X ix tg g' g) (hb:DSs X W body tb) (hs:∀ x,foldedSetIterable iter X.env x=pure x:=by intro _;rfl):DS X W (.For tg iter body [] pos) (dFor ti g tb):=by
  obtain ⟨pg,sg⟩:=hg
  refine ps_len (ps_for hp hc hi pg hb hs) fun D σ H hl ⟨G,so,sl,E,rep,q,ok⟩=>?_
  refine ⟨G,so,sl,_,E.xc,rep,q,fun J H1 G1 ds s1 p0 it q1=>?_,ok.xc.ex⟩
  obtain ⟨ps,prot,goes,stops,yields⟩:=it
  have same:∀ {σ':L2.St} {H' G':Hp} {sl':DSt},PostS X.K G1 so σ H1 s1 σ' H' G' sl'→∀ a∈ps,H' a=H1 a:=fun {σ' H' G' sl'} t a ha=>by
    obtain ⟨n,s,w⟩:=prot a ha
    obtain ⟨o,eo⟩:=Option.ne_none_iff_exists'.mp n
    rw [t.keep a o eo s w,eo]
  have ok1:=ok.step p0.s
  refine ⟨fun i m σ' H'=>m=ds.length - i∧i≤ds.length∧∃ G' sl',PostS X.K G1 so σ H1 s1 σ' H' G' sl'∧dForL g tb E (ds.drop i) sl',⟨ds.length,by simp,Nat.zero_le _,G1,s1,.refl p0.rep,q1⟩,?_⟩
  rintro i m σ' H' ⟨rfl,hi,G',sl',t,q2⟩
  by_cases hlt:i < ds.length
  · refine .inr ⟨goes i H' hlt (same t),fun σ'' H''=>∃ G'' sl'',PostS X.K G1 so σ H1 s1 σ'' H'' G'' sl''∧dForL g tb E (ds.drop (i + 1)) sl'',fun σ'' H'' ⟨G'',sl'',t2,q3⟩=>⟨ds.length - (i + 1),by omega,rfl,hlt,G'',sl'',t2,q3⟩,fun x H2 y=>?_⟩
    obtain ⟨d,G2,ed,pv⟩:=yields i H' x H2 G' (same t) t.ex t.rep.h y hlt
    have pe:=pv.slots t.rep
    have t2:=t.trans pe.toPost.s
    rw [List.drop_eq_getElem_cons hlt] at q2
    have ed':ds[i]=d:=by rw [List.getElem?_eq_getElem hlt] at ed;exact Option.some.inj ed
    rw [ed',forL_cons] at q2
    refine sg G2 so σ' H2 sl' x d _ _ (t.ln.trans hl) pe.rep pe.val q2 fun σ3 sl3 t3 _ q3=>?_
    have t13:=t2.trans t3
    refine ⟨G2,so,sl3,_,t3.rep,q3,⟨fun σ4 H4 G4 s4 t4 q4=>⟨G4,s4,t13.trans t4,q4⟩,fun σ4 H4 G4 s4 t4 q4=>ok1.nx σ4 H4 G4 s4 (t13.trans t4) q4,fun σ4 H4 G4 s4 t4 q4=>⟨G4,s4,t13.trans t4,q4⟩,fun v H4 G4 dv z4 t4 q4=>ok1.rt v H4 G4 dv z4 (t13.thenR t4) q4,ok1.xc.step t13⟩⟩
  · have e:i=ds.length:=by omega
    subst e
    rw [List.drop_length,forL_nil] at q2
    exact .inl ⟨stops H' (same t),ok1.nx σ' H' G' sl' t q2⟩
end
def dWhile (c:TDT) (tb:TDS):TDS:=fun E sl=>∃ I:Nat→DSt→Prop,(∃ m,I m sl)∧∀ m s,I m s→c s (fun b s1=>Br b (tb { nx:=fun s2=>∃ m',m' < m∧I m' s2,ct:=fun s2=>∃ m',m' < m∧I m' s2,bk:=E.nx,rt:=E.rt,xc:=E.xc } s1) (E.nx s1)) E.xc
section
variable {X:Cx} {W:WX} {c:Expr} {body:List Stmt} {tc:TDT} {tb:TDS} {pos:Pos}
theorem ds_while (hp:PassesOwn (model X.prog X.w) X.A X.env X.xe) (hc:DT X W c tc) (hb:DSs X W body tb):DS X W (.While c body [] pos) (dWhile tc tb):=by
  refine ps_imp (ps_while hp hc hb) fun D σ H ⟨G,so,sl,E,rep,⟨I,⟨m0,i0⟩,turn⟩,ok⟩=>?_
  refine ⟨fun m σ' H'=>∃ G' sl',PostS X.K G so σ H sl σ' H' G' sl'∧I m sl',⟨m0,G,sl,.refl rep,i0⟩,?_⟩
  rintro m σ' H' ⟨G',sl',t,im⟩
  have okt:=ok.step t
  refine ⟨G',so,sl',_,E.xc,t.rep,turn m sl' im,fun b H1 G1 s1 p q=>?_,okt.xc.ex⟩
  have t1:=t.trans p.s
  cases b with
  | true=>
    refine iteT ?_
    refine ⟨fun σ2 H2=>∃ m',m' < m∧∃ G2 s2,PostS X.K G so σ H sl σ2 H2 G2 s2∧I m' s2,fun σ2 H2 h=>h,?_⟩
    exact ⟨G1,so,s1,_,p.rep,(brt q),⟨fun σ4 H4 G4 s4 t4 ⟨m',hm,q4⟩=>⟨m',hm,G4,s4,t1.trans t4,q4⟩,fun σ4 H4 G4 s4 t4 q4=>ok.nx σ4 H4 G4 s4 (t1.trans t4) q4,fun σ4 H4 G4 s4 t4 ⟨m',hm,q4⟩=>⟨m',hm,G4,s4,t1.trans t4,q4⟩,fun v H4 G4 dv z4 t4 q4=>ok.rt v H4 G4 dv z4 (t1.thenR t4) q4,ok.xc.step t1⟩⟩
  | false=>
    refine iteF ?_
    exact ok.nx σ' H1 G1 s1 t1 ((brf q))
end
def wipeD (sl:DSt):List Nat→DSt
  | []=>sl
  | v::vs=>(wipeD sl vs).set v none
def dLcL0 (g:TDG) (tt:TDT) (te:TD) (vs:List Nat) (Q:DV→DSt→Prop):List D→List D→DSt→Prop
  | [],acc,sl=>Q (.own (.lst acc)) sl
  | d::r,acc,sl=>g d sl fun s1=>tt s1 (fun b s2=>Br b (te s2 (fun x s3=>match pubV x with
    | .d y=>acc.length < szl∧dLcL0 g tt te vs Q r (acc++[y]) (wipeD s3 vs)
    | _=>False) fun _ _ _=>False) (dLcL0 g tt te vs Q r acc (wipeD s2 vs))) fun _ _ _=>False
@[irreducible] def dLcL (g:TDG) (tt:TDT) (te:TD) (vs:List Nat) (Q:DV→DSt→Prop) (ds acc:List D) (sl:DSt):Prop:=dLcL0 g tt te vs Q ds acc sl
theorem lcL_nil {g:TDG} {tt:TDT} {te:TD} {vs:List Nat} {Q:DV→DSt→Prop} {acc:List D} {sl:DSt}:dLcL g tt te vs Q [] acc sl=Q (.own (.lst acc)) sl:=by unfold dLcL;rfl
theorem lcL_cons {g:TDG} {tt:TDT} {te:TD} {vs:List Nat} {Q:DV→DSt→Prop} {d:D} {r acc:List D} {sl:DSt}:dLcL g tt te vs Q (d::r) acc sl=g d sl fun s1=>tt s1 (fun b s2=>Br b (te s2 (fun x s3=>match pubV x with
    | .d y=>acc.length < szl∧dLcL g tt te vs Q r (acc++[y]) (wipeD s3 vs)
    | _=>False) fun _ _ _=>False) (dLcL g tt te vs Q r acc (wipeD s2 vs))) fun _ _ _=>False:=by unfold dLcL;rfl
def dLc (ti:TDI) (g:TDG) (tt:TDT) (te:TD) (vs:List Nat):TD:=fun sl Q E=>ti sl (fun ds s1=>dLcL g tt te vs Q ds [] (wipeD s1 vs)) E
def dYes:TDT:=fun sl Q _=>Q true sl
def DTs (X:Cx) (W:WX) (ifs:List Expr) (t:TDT):Prop:=PTs X ifs (upT X.K W t)
abbrev W0:WX:=fun _ _ _ _=>False
section
variable {X:Cx} {W:WX}
theorem dts_nil:DTs X W [] dYes:=⟨fun pins s σ H Q I ⟨G,so,sl,Q',E,rep,q,hq,hx⟩=>pts_nil.run pins s σ H Q I (hq true H G sl (.refl rep) q)⟩
section
variable {K:PySem.W.Frag} {G:Hp} {so:So} {σ:L2.St} {H:Hp} {sl:DSt} {vs:List Nat}
theorem wipeD_some {i:Nat} {x:DV}:∀ {vs:List Nat},(wipeD sl vs)[i]?=some (some x)→sl[i]?=some (some x)∧i∉vs
  | [],h=>⟨h,by simp⟩
  | v::vs,h=>by
    unfold wipeD at h
    rcases get_set h with ⟨rfl,e⟩ | ⟨ne,e⟩
    · cases e
    · obtain ⟨q1,q2⟩:=wipeD_some e
      exact ⟨q1,fun z=>(List.mem_cons.mp z).elim ne q2⟩
theorem wipeD_len:∀ (vs:List Nat),(wipeD sl vs).length=sl.length
  | []=>rfl
  | v::vs=>by unfold wipeD;rw [List.length_set,wipeD_len vs]
theorem own_wipe {c:Addr} (h:Own (wipeD sl vs) (wipe σ vs) c):Own sl σ c:=by
  obtain ⟨i,o,e1,e2⟩:=h
  exact ⟨i,o,(wipeD_some e1).1,(wipe_some e2).1⟩
theorem Rep.wipe (r:Rep K G so σ H sl) (vs:List Nat):Rep K G so (L2.wipe σ vs) H (wipeD sl vs):=
  ⟨r.h,by rw [wipeD_len,wipe_length];exact r.len,fun i d e=>by
    obtain ⟨e1,n⟩:=wipeD_some e
    obtain ⟨v,f1,f2⟩:=r.slots i d e1
    exact ⟨v,by rw [wipe_out n];exact f1,f2⟩,
    fun i j o o' a e1 e2 e3 e4=>r.sep i j o o' a (wipeD_some e1).1 (wipeD_some e2).1 (wipe_some e3).1 (wipe_some e4).1,
    fun i o a e1 e2 z=>r.bor i o a (wipeD_some e1).1 (wipe_some e2).1 (own_wipe z),fun i o e=>r.nse i o (wipeD_some e).1⟩
theorem wipe_eq {σ1 σ2:L2.St} (hl:σ1.length=σ2.length) (h:∀ j,j∉vs→σ1[j]?=σ2[j]?):wipe σ1 vs=wipe σ2 vs:=by
  have z:∀ (σ:L2.St) (j:Nat) (vs:List Nat),j∈vs→j < σ.length→(wipe σ vs)[j]?=some none:=by
    intro σ j vs
    induction vs with
    | nil=>intro h;simp at h
    | cons v r ih=>
      intro hm hj
      unfold wipe
      by_cases e:v=j
      · subst e;rw [List.getElem?_set_self (by rw [wipe_length];exact hj)]
      · rw [List.getElem?_set_ne e]
        rcases List.mem_cons.mp hm with q | q
        · exact absurd q.symm e
        · exact ih q hj
  refine List.ext_getElem? fun j=>?_
  by_cases m:j∈vs
  · by_cases hj:j < σ1.length
    · rw [z σ1 j vs m hj,z σ2 j vs m (by rw [← hl];exact hj)]
    · rw [List.getElem?_eq_none (by rw [wipe_length];omega),List.getElem?_eq_none (by rw [wipe_length];omega)]
  · rw [wipe_out m,wipe_out m];exact h j m
theorem wipe_twice (vs:List Nat):L2.wipe (L2.wipe σ vs) vs=L2.wipe σ vs:=wipe_eq (wipe_length σ vs) fun j m=>wipe_out m
theorem Post.unwipe {H1 G1:Hp} {s1:DSt} (r:Rep K G so σ H sl) (p:Post K G so (L2.wipe σ vs) H (wipeD sl vs) H1 G1 s1):Post K G so σ H sl H1 G1 s1:=by
  have lk:∀ (i:Nat) (dv:DV),s1[i]?=some (some dv)→(L2.wipe σ vs)[i]?=σ[i]?:=fun i dv e=>by
    obtain ⟨v,f1,_⟩:=p.rep.slots i dv e
    rw [f1,(wipe_some f1).1]
  have ow:∀ c,Own s1 σ c→Own s1 (L2.wipe σ vs) c:=fun c ⟨i,o,e1,e2⟩=>⟨i,o,e1,by rw [lk i _ e1];exact e2⟩
  refine ⟨p.ex,⟨p.rep.h,by rw [p.rep.len,wipe_length],fun i dv e=>?_,fun i j o o' a e1 e2 e3 e4=>?_,fun i o a e1 e2 z=>?_,p.rep.nse⟩,p.keep,fun a n g s w=>p.frm a n g s fun z=>w (own_wipe z),fun a z=>own_wipe (p.sub a (ow a z)),fun i o e=>let ⟨o1,e1⟩:=p.bsub i o e;⟨o1,(wipeD_some e1).1⟩⟩
  · obtain ⟨v,f1,f2⟩:=p.rep.slots i dv e
    exact ⟨v,(wipe_some f1).1,f2⟩
  · exact p.rep.sep i j o o' a e1 e2 (by rw [lk i _ e1];exact e3) (by rw [lk j _ e2];exact e4)
  · exact p.rep.bor i o a e1 (by rw [lk i _ e1];exact e2) (ow a z)
end
variable {elt tg iter:Expr} {ifs:List Expr} {scope:Scope} {own:List (Str × Nat)} {pos spos:Pos} {ti:TDI} {g:TDG} {tt:TDT} {te:TD} {ix:List Nat}
theorem up_lc {K:PySem.W.Frag} {n:Nat} {g':TG} {σ:L2.St} {H:Hp} {R:VK} (vs:List Nat) (hl:σ.length=n) (sg:GSem K n ix g' g) (hix:∀ j,j∈ix→j∈vs) (h:up K W (dLc ti g tt te vs) σ H R):tLc (upI K W ti) g' (upT K W0 tt) (up K W0 te) vs σ H R:=by
  obtain ⟨G,so,sl,Q,E,rep,q,hq,hx⟩:=h
  refine ⟨G,so,sl,_,E,rep,q,fun J H1 G1 ds s1 p0 it q1=>?_,hx⟩
  obtain ⟨ps,prot,goes,stops,yields⟩:=it
  intro C hC
  have nsC:so.Nt C:=p0.rep.h.there hC
  have rw1:=p0.rep.wipe vs
  have psC:∀ a∈ps,a≠C:=fun a ha z=>(prot a ha).1 (z ▸ hC)
  refine ⟨fun i m H'=>m=ds.length - i∧i≤ds.length∧∃ G' sl' us acc,Post K G1 so (L2.wipe σ vs) H1 (wipeD s1 vs) H' G' sl'∧H' C=some (.lst us)∧G' C=none∧DAll K G' us acc∧dLcL g tt te vs Q (ds.drop i) acc sl',
    ⟨ds.length,by simp,Nat.zero_le _,G1,_,[],[],?_,upd_same,p0.rep.h.ex.free hC,.nil,q1⟩,?_⟩
  · have pv:=PostV.list (K:=K) (G:=G1) (so:=so) (ds:=[]) rw1.h hC .nil
    exact (pv.slots rw1).toPost
  rintro i m H' ⟨rfl,hi,G',sl',us,acc,t,hCl,gC,al,q2⟩
  have same:∀ a∈ps,H' a=H1 a:=fun a ha=>by
    obtain ⟨n1,s,w⟩:=prot a ha
    exact keep_ne t.keep n1 s
  have noC:∀ {sl'':DSt} {σ'':L2.St},(∀ a,Own sl'' σ'' a→Own (wipeD s1 vs) (L2.wipe σ vs) a)→¬ Own sl'' σ'' C:=fun f z=>(p0.rep.nown (own_wipe (f C z))).1 hC
  have borC:∀ (j:Nat) (o:OO),(wipeD s1 vs)[j]?=some (some (.bor o))→(L2.wipe σ vs)[j]?=some (some (.ref C))→False:=fun j o e1 e2=>by
    obtain ⟨v,f1,f2⟩:=rw1.slots j _ e1
    rw [e2] at f1;cases f1
    obtain ⟨b,z,_,k⟩:=f2
    cases z
    exact k.there hC
  by_cases hlt:i < ds.length
  · refine .inr ⟨goes i H' hlt same,fun H''=>∃ G'' sl'' us' acc',Post K G1 so (L2.wipe σ vs) H1 (wipeD s1 vs) H'' G'' sl''∧H'' C=some (.lst us')∧G'' C=none∧DAll K G'' us' acc'∧dLcL g tt te vs Q (ds.drop (i + 1)) acc' sl'',
      fun H'' ⟨G'',sl'',us',acc',h1,h2,h3,h4,h5⟩=>⟨ds.length - (i + 1),by omega,rfl,hlt,G'',sl'',us',acc',h1,h2,h3,h4,h5⟩,fun x H2 y=>?_⟩
    obtain ⟨d,G2,ed,pv⟩:=yields i H' x H2 G' same t.ex t.rep.h y hlt
    have pe:=pv.slots t.rep
    have C2:H2 C=some (.lst us):=pe.keep C _ hCl nsC
    have g2:G2 C=none:=pe.frm C (by rw [hCl];simp) gC nsC (noC t.sub)
    rw [List.drop_eq_getElem_cons hlt] at q2
    have ed':ds[i]=d:=by rw [List.getElem?_eq_getElem hlt] at ed;exact Option.some.inj ed
    rw [ed',lcL_cons] at q2
    refine sg G2 so _ H2 sl' x d _ _ ((wipe_length σ vs).trans hl) pe.rep pe.val q2 fun σ3 sl3 t3 u3 q3=>?_
    have e3:L2.wipe σ3 vs=L2.wipe σ vs:=by
      rw [← wipe_twice (σ:=σ) vs]
      exact wipe_eq t3.ln fun j hj=>(u3 j fun z=>hj (hix j z)).1
    have sub3:∀ a,Own (wipeD sl3 vs) (L2.wipe σ3 vs) a→Own (wipeD s1 vs) (L2.wipe σ vs) a:=fun a z=>by
      rw [e3] at z
      by_cases w:Own sl' (L2.wipe σ vs) a
      · exact t.sub a w
      · obtain ⟨j,o,z1,z2⟩:=z
        have z2':σ3[j]?=some (some (.ref a)):=by
          rw [← e3] at z2;exact (wipe_some z2).1
        have ow3:Own sl3 σ3 a:=⟨j,o,(wipeD_some z1).1,z2'⟩
        obtain ⟨n1,g1,s1'⟩:=t3.rep.nown ow3
        exact absurd ow3 (t3.sub a n1 s1' w)
    have sub3':∀ a,Own sl3 σ3 a→Own sl' (L2.wipe σ vs) a:=fun a z=>by
      by_cases w:Own sl' (L2.wipe σ vs) a
      · exact w
      · obtain ⟨n1,g1,s1'⟩:=t3.rep.nown z
        exact absurd z (t3.sub a n1 s1' w)
    have bs3:∀ (j:Nat) (o:OO),sl3[j]?=some (some (.bor o))→j∉vs→∃ o',(wipeD s1 vs)[j]?=some (some (.bor o')):=fun j o e n=>by
      rw [(u3 j fun z=>n (hix j z)).2] at e
      exact t.bsub j o e
    refine ⟨e3,G2,so,sl3,_,fun _ _ _=>False,t3.rep,q3,fun b H4 G4 s4 p4 q4=>?_,fun _ _ _ _ _ _ _ _ z=>z⟩
    have C4:H4 C=some (.lst us):=p4.keep C _ C2 nsC
    have n3C:¬ Own sl3 σ3 C:=fun z=>noC t.sub (sub3' C z)
    have g4:G4 C=none:=p4.frm C (by rw [C2];simp) g2 nsC n3C
    have k4:∀ a o,H1 a=some o→so.Nt a→H4 a=some o:=fun a o e s=>p4.keep a o (pe.keep a o (t.keep a o e s) s) s
    have f4:∀ a,H1 a≠none→G1 a=none→so.Nt a→¬ Own (wipeD s1 vs) (L2.wipe σ vs) a→G4 a=none:=fun a n1 g1 s w=>by
      have n2:¬ Own sl' (L2.wipe σ vs) a:=fun z=>w (t.sub a z)
      have h':H' a≠none:=by rw [keep_ne t.keep n1 s];exact n1
      have h2:H2 a≠none:=by rw [keep_ne pe.keep h' s];exact h'
      exact p4.frm a h2 (pe.frm a h' (t.frm a n1 g1 s w) s n2) s fun z=>n2 (sub3' a z)
    have bs4:∀ (j:Nat) (o:OO),s4[j]?=some (some (.bor o))→j∉vs→∃ o',(wipeD s1 vs)[j]?=some (some (.bor o')):=fun j o e n=>by
      obtain ⟨o1,e1⟩:=p4.bsub j o e
      exact bs3 j o1 e1 n
    cases b with
    | false=>
      refine iteF ⟨G4,wipeD s4 vs,us,acc,⟨t.ex.trans (pe.ex.trans p4.ex),?_,k4,f4,fun a z=>?_,fun j o e=>bs4 j o (wipeD_some e).1 (wipeD_some e).2⟩,C4,g4,al.mono (pe.ex.trans p4.ex),(brf q4)⟩
      · have r:=p4.rep.wipe vs;rw [e3] at r;exact r
      · refine t.sub a (sub3' a (p4.sub a (own_wipe (vs:=vs) ?_)))
        rw [e3];exact z
    | true=>
      refine iteT ⟨G4,so,s4,_,fun _ _ _=>False,p4.rep,(brt q4),fun y H5 G5 dy s5 p5' q5=>?_,fun _ _ _ _ _ _ _ _ z=>z⟩
      obtain ⟨G6,p5⟩:=p5'.pub
      have wv:=p5.val
      split at q5
      · rename_i yd ey
        rw [ey] at wv
        have n4C:¬ Own s4 σ3 C:=fun z=>n3C (p4.sub C z)
        have C5:H5 C=some (.lst us):=p5.keep C _ C4 nsC
        have g5:G6 C=none:=p5.frm C (by rw [C4];simp) g4 nsC n4C
        have k5:∀ a o,H1 a=some o→so.Nt a→H5 a=some o:=fun a o e s=>p5.keep a o (k4 a o e s) s
        have f5:∀ a,H1 a≠none→G1 a=none→so.Nt a→¬ Own (wipeD s1 vs) (L2.wipe σ vs) a→G6 a=none:=fun a n1 g1 s w=>by
          have n2:¬ Own sl' (L2.wipe σ vs) a:=fun z=>w (t.sub a z)
          have h4:H4 a≠none:=by rw [keep_ne k4 n1 s];exact n1
          exact p5.frm a h4 (f4 a n1 g1 s w) s fun z=>n2 (sub3' a (p4.sub a z))
        have bs5:∀ (j:Nat) (o:OO),s5[j]?=some (some (.bor o))→j∉vs→∃ o',(wipeD s1 vs)[j]?=some (some (.bor o')):=fun j o e n=>by
          obtain ⟨o1,e1⟩:=p5.bsub j o e
          exact bs4 j o1 e1 n
        have al5:DAll K G6 us acc:=al.mono (pe.ex.trans (p4.ex.trans p5.ex))
        have lu:us.length=acc.length:=al5.length
        refine ⟨us,C5,by rw [lu,← szl_eq];exact q5.1,G6,wipeD s5 vs,us++[y],acc++[yd],⟨t.ex.trans (pe.ex.trans (p4.ex.trans p5.ex)),?_,fun a o e s=>?_,f5,fun a z=>?_,fun j o e=>bs5 j o (wipeD_some e).1 (wipeD_some e).2⟩,upd_same,g5,al5.append (.cons wv .nil),q5.2⟩
        · have r:=p5.rep.wipe vs
          rw [e3] at r
          refine ⟨⟨fun a o e=>?_,fun a k e=>?_,r.h.ok,tp_upd r.h.tp (by intro _ z;cases z)⟩,r.len,fun j dv e=>?_,r.sep,r.bor,r.nse⟩
          · rw [upd_ne (ne_of_none e g5)];exact r.h.ex a o e
          · exact (r.h.vol a k e).keep (Ex.refl _) (r.h.vol a k e).g (upd_ne fun z=>nsC (z ▸ ⟨k,e⟩))
          · obtain ⟨v,f1,f2⟩:=r.slots j dv e
            refine ⟨v,f1,?_⟩
            have key:∀ a:Addr,a≠C→(upd H5 C (.lst (us++[y]))) a=H5 a:=fun a z=>upd_ne z
            cases dv with
            | d z=>exact f2
            | src=>exact f2
            | own o=>
              obtain ⟨a,r1,r2,r3,r4⟩:=f2
              subst r1
              have z:a≠C:=fun z=>by
                subst z
                exact noC (fun a z=>t.sub a (sub3' a (p4.sub a (p5.sub a (own_wipe (vs:=vs) (by rw [e3];exact z)))))) ⟨j,o,e,f1⟩
              exact ⟨a,rfl,r2,r3,r4.keep (Ex.refl _) (key a z)⟩
            | bor o=>
              obtain ⟨a,r1,r3,r4⟩:=f2
              subst r1
              have z:a≠C:=fun z=>by
                subst z
                obtain ⟨o1,z1⟩:=bs5 j o (wipeD_some e).1 (wipeD_some e).2
                exact borC j o1 z1 f1
              exact ⟨a,rfl,r3,r4.keep (Ex.refl _) (key a z)⟩
            | see o=>exact absurd e (r.nse j o)
            | mu y D gs=>exact SlOk.muU f2 (Ex.refl _) nsC
            | gh _ _=>exact SlOk.ghU f2 (Ex.refl _) nsC
        · rw [upd_ne (fun z=>by subst z;rw [hC] at e;cases e)];exact k5 a o e s
        · exact t.sub a (sub3' a (p4.sub a (p5.sub a (own_wipe (vs:=vs) (by rw [e3];exact z)))))
      · exact q5.elim
  · have e:i=ds.length:=by omega
    subst e
    rw [List.drop_length,lcL_nil] at q2
    refine .inl ⟨stops H' same,hq _ H' G' _ sl' ?_ q2⟩
    have pu:=t.unwipe p0.rep
    refine (p0.thenE { pu with val:=⟨C,rfl,gC,nsC,us,hCl,al⟩,new:=fun a o _ z=>?_,sepv:=fun a o _ z w=>?_,nbs:=fun a o j o' _ z e1 e2=>?_ })
    · cases z;exact .inl hC
    · cases z;exact (p0.rep.nown (pu.sub _ w)).1 hC
    · cases z
      obtain ⟨o1,z1⟩:=t.bsub j o' e1
      have lkj:(L2.wipe σ vs)[j]?=some (some (.ref C)):=by rw [wipe_out (wipeD_some z1).2];exact e2
      exact borC j o1 z1 lkj
theorem de_lc {g':TG} (hc:X.calm=true) (hN:X.N.Nodup) (hi:DI X W tg iter ti) (ok:BlkOk X.N X.env.scope scope own)
    (hg:∀ s H C cl fp,DG (X.blk s H scope (compEnvC scope cl C X.env) fp) ix tg g' g) (ht:∀ s H C cl fp,DTs (X.blk s H scope (compEnvC scope cl C X.env) fp) W0 ifs tt)
    (he:∀ s H C cl fp,DE (X.blk s H scope (compEnvC scope cl C X.env) fp) W0 elt te) (hix:∀ j,j∈ix→j∈own.map (·.2):=by decide) (hs:∀ x,foldedSetIterable iter X.env x=pure x:=by intro _;rfl) :
    DE X W (.ListComp elt [⟨tg,iter,ifs,0⟩] scope pos) (dLc ti g tt te (own.map (·.2))):=by
  have b:=pe_lc (tt:=upT X.K W0 tt) (te:=up X.K W0 te) (ifs:=ifs) (elt:=elt) (pos:=pos) hc hN hi ok (fun s H C cl fp=>(hg s H C cl fp).pg) ht he hs
  exact ⟨fun pins s σ H Q I q=>b.run pins s σ H Q I (up_lc _ I.len (hg s H 0 [] []).sem hix q)⟩
theorem ds_setLc {g':TG} {i:Nat} {y:Str} {py:Pos} (hc:X.calm=true) (hN:X.N.Nodup) (hy:X.N[i]?=some y) (hyl:X.env.scope.names.lookup y=some .local) (hsw:swapsWith (.ListComp elt [⟨tg,iter,ifs,0⟩] scope pos) (some (.Name y py)) spos.line X.env=pure true)
    (hi:DI X W tg iter ti) (ok:BlkOk X.N X.env.scope scope own)
    (hg:∀ s H C cl fp,DG (X.blk s H scope (compEnvC scope cl C X.env) fp) ix tg g' g) (ht:∀ s H C cl fp,DTs (X.blk s H scope (compEnvC scope cl C X.env) fp) W0 ifs tt)
    (he:∀ s H C cl fp,DE (X.blk s H scope (compEnvC scope cl C X.env) fp) W0 elt te) (hix:∀ j,j∈ix→j∈own.map (·.2):=by decide) (hs:∀ x,foldedSetIterable iter X.env x=pure x:=by intro _;rfl) :
    DS X W (.Assign [.Name y py] (.ListComp elt [⟨tg,iter,ifs,0⟩] scope pos) spos) (dSet (dLc ti g tt te (own.map (·.2))) i):=by
  have b:=ps_setLc (tt:=upT X.K W0 tt) (te:=up X.K W0 te) (pos:=pos) (spos:=spos) (py:=py) hc hN hy hyl hsw hi ok (fun s H C cl fp=>(hg s H C cl fp).pg) ht he hs
  refine ⟨fun pins s σ H D I q=>b.run pins s σ H D I ?_⟩
  have q2:=up_set (K:=X.K) (W:=W) (te:=dLc ti g tt te (own.map (·.2))) (i:=i) (D:=D) (σ:=σ) (H:=H) (fun _=>by rw [I.len];exact (List.getElem?_eq_some_iff.mp hy).1) q
  exact up_lc _ I.len (hg s H 0 [] []).sem hix q2
end
theorem takes0 {X:Cx}:L2N.Takes X (fun _ _ _ _=>False):=fun _ _ ⟨_,_,_,_,_,_,_,_,_,_,_,_,_,_,_,_,z⟩=>z.elim
theorem tkOf {X:Cx} {E:XK} (hs:X.stack=X.env::X.outer) (hf:X.env.frame=some X.env.locals) (hex:X.ex=[]) {E₁:Value→Shared→Prop}
    (hx:X.xe=fun e s'=>wpAny (model X.prog X.w) X.A (leaving X.env e) (fun _ s''=>L2N.CX X.prog X.w X.outer X.H_0 X.s_0 E e s'') E₁ s'):L2N.Takes X (fun cls d _ H=>E cls d H):=L2N.takes_of hs hf hex hx
abbrev XE':=Value→List (Str × D)→Prop
abbrev SpD:=List DV→(DV→Prop)→XE'→Prop
structure PostH (K:PySem.W.Frag) (G:Hp) (so:So) (H:Hp) (H' G':Hp):Prop where
  ex:Ex G G'
  hrep:HRep K G' so H'
  keep:∀ a o,H a=some o→so.Nq a→H' a=some o
  frm:∀ a,H a≠none→G a=none→so.Nt a→G' a=none
def upSp (K:PySem.W.Frag) (sp:SpD):Sp:=fun vs H Q E=>∃ G so args QD ED,HRep K G so H∧VsOk K G so H vs args∧sp args QD ED∧(∀ v H' G' dv,PostV K G so H v H' G' dv→QD dv→Q v H')∧
  (∀ cls d H' G' fs,PostH K G so H H' G'→XdOk K G' H' d fs→ED cls fs→E cls d H')
def So.drop (so:So):So:=so.filter fun p=>match p.2 with
  | .mt _=>false
  | _=>true
theorem So.drop_sub {so:So} {p:Addr × Kd} (h:p∈so.drop):p∈so:=(List.mem_filter.mp h).1
theorem So.drop_nt {so:So} {a:Addr} (h:so.Nt a):so.drop.Nt a:=fun ⟨k,e⟩=>h ⟨k,So.drop_sub e⟩
theorem So.drop_nq {so:So} {a:Addr} (h:so.Nq a):so.drop.Nt a:=fun ⟨k,e⟩=>by
  obtain ⟨C,rfl⟩:=h k (So.drop_sub e)
  exact absurd (List.mem_filter.mp e).2 (by simp)
theorem So.drop_mt {K:PySem.W.Frag} {so:So} {a C:Addr} (ok:SoOk K so) (h:(a,Kd.mt C)∈so):so.Nq a:=fun k e=>⟨C,ok.uq a k (.mt C) e h⟩
theorem So.drop_in {so:So} {a:Addr} {k:Kd} (h:(a,k)∈so) (n:∀ C,k≠.mt C):(a,k)∈so.drop:=List.mem_filter.mpr ⟨h,by cases k<;>first | rfl | exact absurd rfl (n _)⟩
section
variable {K:PySem.W.Frag} {G G' H H':Hp} {so:So}
theorem SoOk.drop (h:SoOk K so):SoOk K so.drop:=⟨fun q hq=>So.drop_in (h.tb q hq) (fun _ e=>by cases e),fun a k k' e e'=>h.uq a k k' (So.drop_sub e) (So.drop_sub e')⟩
theorem HRep.drop (h:HRep K G so H):HRep K G so.drop H:=⟨h.ex,fun a k e=>h.vol a k (So.drop_sub e),h.ok.drop,h.tp⟩
theorem VOk.drop {v:V} {dv:DV} (h:VOk K G so H v dv):VOk K G so.drop H v dv:=by
  cases dv with
  | d x=>exact h
  | src=>obtain ⟨a,⟨c,e⟩,q⟩:=h;exact ⟨a,⟨c,So.drop_in e (fun _ z=>by cases z)⟩,q⟩
  | own o=>obtain ⟨a,q,g,s,k⟩:=h;exact ⟨a,q,g,So.drop_nt s,k⟩
  | bor o=>obtain ⟨a,q,s,k⟩:=h;exact ⟨a,q,So.drop_nt s,k⟩
  | see o=>obtain ⟨a,q,s,k⟩:=h;exact ⟨a,q,So.drop_nt s,k⟩
  | mu _ _ _=>exact h
  | gh _ _=>exact h
theorem VsOk.drop:∀ {vs:List V} {ds:List DV},VsOk K G so H vs ds→VsOk K G so.drop H vs ds
  | _,_,.nil=>.nil
  | _,_,.cons h n t=>.cons h.drop n (VsOk.drop t)
structure PostU (K:PySem.W.Frag) (G:Hp) (so:So) (H:Hp) (v:V) (H' G':Hp) (dv:DV):Prop where
  ex:Ex G G'
  hrep:HRep K G' so H'
  keep:∀ a o,H a=some o→so.Nt a→H' a=some o
  frm:∀ a,H a≠none→G a=none→so.Nt a→G' a=none
  val:VOk K G' so H' v dv
  new:∀ a o,dv=.own o→v=.ref a→H a=none
  nob:∀ o,dv≠.bor o
structure PostHU (K:PySem.W.Frag) (G:Hp) (so:So) (H:Hp) (H' G':Hp):Prop where
  ex:Ex G G'
  hrep:HRep K G' so H'
  keep:∀ a o,H a=some o→so.Nt a→H' a=some o
  frm:∀ a,H a≠none→G a=none→so.Nt a→G' a=none
theorem HRep.back (h:HRep K G so H) (ex:Ex G G') (p:HRep K G' so.drop H') (kp:∀ a C o,(a,Kd.mt C)∈so→so.drop.Nt a→H a=some o→H' a=some o) (f:∀ a C,(a,Kd.mt C)∈so→so.drop.Nt a→H a≠none→G a=none→G' a=none):HRep K G' so H':=by
  refine ⟨p.ex,fun a k e=>?_,h.ok,p.tp⟩
  by_cases c:∃ C,k=.mt C
  · obtain ⟨C,rfl⟩:=c
    have v:=h.vol a _ e
    have nt:=So.drop_nq (So.drop_mt h.ok e)
    obtain ⟨o,ho⟩:=Option.ne_none_iff_exists'.mp v.there
    exact v.keep ex (f a C e nt v.there v.g) (by rw [kp a C o e nt ho,ho])
  · exact p.vol a k (So.drop_in e fun C z=>c ⟨C,z⟩)
theorem PostHU.back (h:HRep K G so H) (p:PostHU K G so.drop H H' G'):PostH K G so H H' G':=by
  refine ⟨p.ex,⟨p.hrep.ex,fun a k e=>?_,h.ok,p.hrep.tp⟩,fun a o e s=>p.keep a o e (So.drop_nq s),fun a n g s=>p.frm a n g (So.drop_nt s)⟩
  by_cases c:∃ C,k=.mt C
  · obtain ⟨C,rfl⟩:=c
    have v:=h.vol a _ e
    have nt:=So.drop_nq (So.drop_mt h.ok e)
    exact v.keep p.ex (p.frm a v.there v.g nt) (keep_ne p.keep v.there nt)
  · exact p.hrep.vol a k (So.drop_in e fun C z=>c ⟨C,z⟩)
theorem PostU.h {v:V} {dv:DV} (p:PostU K G so H v H' G' dv):PostHU K G so H H' G':=⟨p.ex,p.hrep,p.keep,p.frm⟩
theorem PostU.back {v:V} {dv:DV} (h:HRep K G so H) (p:PostU K G so.drop H v H' G' dv) (ns:∀ o,dv≠.see o):PostV K G so H v H' G' dv:=by
  have b:=p.h.back h
  refine ⟨b.ex,b.hrep,b.keep,b.frm,?_,p.new,p.nob⟩
  have w:=p.val
  cases dv with
  | d x=>exact w
  | src=>obtain ⟨a,⟨c,e⟩,q⟩:=w;exact ⟨a,⟨c,So.drop_sub e⟩,q⟩
  | own o=>obtain ⟨a,q,g,s,k⟩:=w;exact ⟨a,q,g,h.there (p.new a o rfl q),k⟩
  | bor o=>exact absurd rfl (p.nob o)
  | see o=>exact absurd rfl (ns o)
  | mu _ _ _=>exact w
  | gh _ _=>exact w
end
theorem PostU.trans {K:PySem.W.Frag} {G H:Hp} {so:So} {v1 v2:V} {d1 d2:DV} {H1 H2 G1 G2:Hp} (a:PostU K G so H v1 H1 G1 d1) (b:PostU K G1 so H1 v2 H2 G2 d2):PostU K G so H v2 H2 G2 d2:=
  ⟨a.ex.trans b.ex,b.hrep,fun c o e s=>b.keep c o (a.keep c o e s) s,fun c n g s=>b.frm c (by rw [keep_ne a.keep n s];exact n) (a.frm c n g s) s,b.val,fun c o e q=>by
    cases z:H c with
    | none=>rfl
    | some u=>
      have n:=b.new c o e q
      by_cases s:so.Vol c
      · exact absurd n (a.hrep.vth s)
      · rw [a.keep c u z s] at n
        exact (nomatch n),b.nob⟩
theorem upSp_low {K:PySem.W.Frag} {sp:SpD} {vs:List V} {H:Hp} {Q:VK} {E:XK} (h:upSp K sp vs H Q E):∃ G so args QD ED,HRep K G so H∧VsOk K G so H vs args∧sp args QD ED∧(∀ v H' G' dv,PostU K G so H v H' G' dv→(∀ o,dv≠.see o)→QD dv→Q v H')∧
    (∀ cls d H' G' fs,PostHU K G so H H' G'→XdOk K G' H' d fs→ED cls fs→E cls d H'):=by
  obtain ⟨G,so,as,QD,ED,hrep,wv,q,hq,hx⟩:=h
  exact ⟨G,so.drop,as,QD,ED,hrep.drop,wv.drop,q,fun v H' G' dv p n z=>hq v H' G' dv (p.back hrep n) z,fun cls d H' G' fs p z1 z2=>hx cls d H' G' fs (p.back hrep) z1 z2⟩
structure FnG (P:Program) (w:World) (K:PySem.W.Frag) (mg:Str→Option Value) (base:Heap) (k:Nat) (f:Addr) (fd:FuncData) (ps:List Str) (sp:SpD):Prop where
  len:∀ args Q E,sp args Q E→args.length=ps.length
  run:∀ (A:Around) (outer:List Env) (s:Shared) (H:Hp) (args:Args) (us:List Value) (vs:List V) (Q:VK) (E:XK),Room k A→A.guards=some []→Env0 P w K mg base A outer s H→BindsTo s fd args (ps.zip us)→Vals vs us→upSp K sp vs H Q E→
    codeAny (model P w) A (.call (.ref f) args) (CR (L2N.CX P w) outer P w H s Q E) s
theorem FnG.mono {P:Program} {w:World} {K:PySem.W.Frag} {mg:Str→Option Value} {base:Heap} {j k:Nat} {f:Addr} {fd:FuncData} {ps:List Str} {sp:SpD} (F:FnG P w K mg base j f fd ps sp) (h:j≤k):FnG P w K mg base k f fd ps sp:=
  ⟨F.len,fun A outer s H args us vs Q E hr=>F.run A outer s H args us vs Q E (hr.mono h)⟩
def startD (N:List Str) (args:List DV):DSt:=args.map some++List.replicate (N.length - args.length) none
theorem VsOk.get {K:PySem.W.Frag} {G:Hp} {so:So} {H:Hp}:∀ {vs:List V} {ds:List DV} {i:Nat} {d:DV},VsOk K G so H vs ds→ds[i]?=some d→∃ v,vs[i]?=some v∧VOk K G so H v d∧∀ o,d≠.own o
  | _,_,_,_,.nil,e=>by simp at e
  | _,_,0,_,.cons h n _,e=>by simp at e;subst e;exact ⟨_,rfl,h,n⟩
  | _,_,i + 1,_,.cons _ _ t,e=>by
    obtain ⟨v,h1,h2⟩:=VsOk.get (i:=i) t (by simpa using e)
    exact ⟨v,by simpa using h1,h2⟩
theorem start_get {N:List Str} {args:List DV} {i:Nat} {d:DV} (h:(startD N args)[i]?=some (some d)):args[i]?=some d:=by
  unfold startD at h
  by_cases hi:i < args.length
  · rw [List.getElem?_append_left (by simpa using hi),List.getElem?_map] at h
    cases e:args[i]? with
    | none=>rw [e] at h;cases h
    | some a=>rw [e] at h;cases h;rfl
  · rw [List.getElem?_append_right (by simpa using hi),List.getElem?_replicate] at h
    split at h<;>cases h
theorem rep_start {K:PySem.W.Frag} {G:Hp} {so:So} {H:Hp} {N:List Str} {vs:List V} {args:List DV} (h:HRep K G so H) (w:VsOk K G so H vs args) (ns:∀ (i:Nat) (o:OO),args[i]?≠some (.see o)):Rep K G so (L2.start N vs) H (startD N args):=by
  have lv:=w.length
  have no:∀ a,¬ Own (startD N args) (L2.start N vs) a:=fun a ⟨i,o,e,_⟩=>by
    obtain ⟨_,_,_,n⟩:=w.get (start_get e)
    exact n o rfl
  refine ⟨h,by unfold startD L2.start;simp [lv],fun i d e=>?_,fun i j o o' a e1 _ _ _=>?_,fun i o a _ _=>no a,fun i o e=>ns i o (start_get e)⟩
  · obtain ⟨v,e1,e2,_⟩:=w.get (start_get e)
    refine ⟨v,?_,VOk.slot e2⟩
    unfold L2.start
    have hi:i < vs.length:=(List.getElem?_eq_some_iff.mp e1).1
    rw [List.getElem?_append_left (by simpa using hi),List.getElem?_map,e1];rfl
  · obtain ⟨_,_,_,n⟩:=w.get (start_get e1)
    exact absurd rfl (n o)
def retQ (Q:DV→Prop):DV→Prop
  | .see _=>False
  | .bor _=>False
  | .mu _ _ _=>False
  | .gh _ _=>False
  | v=>Q v
theorem retQ_of {Q:DV→Prop} {v:DV} (h:retQ Q v):(∀ o,v≠.bor o)∧Q v:=by
  cases v with
  | d x=>exact ⟨fun _ z=>(nomatch z),h⟩
  | src=>exact ⟨fun _ z=>(nomatch z),h⟩
  | own o=>exact ⟨fun _ z=>(nomatch z),h⟩
  | bor o=>exact h.elim
  | see o=>exact h.elim
  | mu _ _ _=>exact h.elim
  | gh _ _=>exact h.elim
theorem retQ_ns {Q:DV→Prop} {v:DV} (h:retQ Q v):∀ o,v≠.see o:=by
  cases v with
  | see o=>exact h.elim
  | _=>exact fun _ z=>(nomatch z)
theorem fnG_of {P:Program} {w:World} {K:PySem.W.Frag} {mg:Str→Option Value} {base:Heap} {x qual:Str} {params:Arguments} {body:List Stmt} {scope:Scope} {dvs:List V} {kws:List (Str × V)} {f:Addr} {fd:FuncData} {N ps:List Str} {k:Nat} {sp:SpD} {t:TDS}
    (F:FunD K x qual params body scope dvs kws f fd) (S:FnScope N ps scope) (len:∀ args Q E,sp args Q E→args.length=ps.length) (nsee:∀ args Q E,sp args Q E→∀ (i:Nat) (o:OO),args[i]?≠some (.see o))
    (hd:∀ (cdv:Value) (A:Around) (outer:List Env) (s:Shared) (H:Hp) (E:XK),Room k (A.deeper (envOfC qual scope s.heap.objs.size f cdv))→(cxOf (L2N.CX P w) P w K mg base N qual scope f cdv A outer s H E).A.guards=some []→
      DSs (cxOf (L2N.CX P w) P w K mg base N qual scope f cdv A outer s H E) (fun cls d _ H'=>E cls d H') body t)
    (hr:∀ args Q E,sp args Q E→t { nx:=fun _=>Q (.d .non),rt:=fun v _=>retQ Q v,bk:=fun _=>False,ct:=fun _=>False,xc:=fun cls fs _=>E cls fs } (startD N args)):FnG P w K mg base (k + 1) f fd ps sp:=by
  obtain ⟨oc,od,dV,kV,doc,pm,an,cdv,ct,osl,rfl,lk,hcd,_,_⟩:=F.ex
  refine ⟨len,fun A outer s H args us vs Q E hroom hg e0 hb r hsp=>?_⟩
  obtain ⟨G,so,as,QD,ED,hrep,wv,q,hq,hx⟩:=upSp_low hsp
  have hl:vs.length=ps.length:=wv.length.trans (len _ _ _ q)
  have KX:K.In s.heap:=e0.mod.kin.keeps fun b o e=>(e0.bs b o e).1
  have lim:s.heap.NoLimit:=e0.mod.nolimit.keeps fun b o e=>(e0.bs b o e).1
  have hkind:((ps.zip us).all fun y=>scope.names.lookup y.1 == some .local || scope.names.lookup y.1 == some .cell)=true:=by
    rw [List.all_eq_true]
    rintro ⟨n,u⟩ hy
    rcases S.par n (List.of_mem_zip hy).1 with z | z
    · show (scope.names.lookup n == some .local || _)=true
      rw [z];rfl
    · show (scope.names.lookup n == some .local || scope.names.lookup n == some .cell)=true
      rw [z];rfl
  refine Att.call_fn KX lim lk hcd hroom.depth hb hkind (fun s1 x=>?_) S.co S.gen S.kind
  have I:=inv_start (CX:=L2N.CX P w) (E:=E) S hroom.hd e0 hl r x
  have rep:Rep K G so (L2.start N vs) H (startD N as):=rep_start hrep wv (nsee _ _ _ q)
  have no:∀ a,¬ Own (startD N as) (L2.start N vs) a:=fun a ⟨i,o,e,_⟩=>by
    obtain ⟨_,_,_,n⟩:=wv.get (start_get e)
    exact n o rfl
  have body:=(hd cdv A outer s H E (hroom.deeper _) hg).run [] s1 (L2.start N vs) H { nx:=fun _ H'=>Q .non H',rt:=Q } I ⟨G,so,startD N as,_,rep,hr as QD ED q,
    ⟨fun σ' H' G' sl' p z=>hq .non H' G' (.d .non) ⟨p.ex,p.rep.h,fun a o e sa=>p.keep a o e sa (no a),fun a n g sa=>p.frm a n g sa (no a),.non,fun _ _ e=>(nomatch e),fun _ e=>(nomatch e)⟩ (fun _ e=>(nomatch e)) z,
     fun _ _ _ _ _ z=>z.elim,fun _ _ _ _ _ z=>z.elim,
     fun v H' G' dv _ p z=>hq v H' G' dv ⟨p.ex,p.hrep,fun a o e sa=>p.keep a o e sa (no a),fun a n g sa=>p.frm a n g sa (no a),p.val,fun a o e e2=>(p.new a o e e2).elim (fun k=>k) fun k=>absurd k (no a),(retQ_of z).1⟩ (retQ_ns z) (retQ_of z).2,
     fun cls d σ' H' G' fs sl' p z1 z2=>hx cls d H' G' fs ⟨p.ex,p.rep.h,fun a o e sa=>p.keep a o e sa (no a),fun a n g sa=>p.frm a n g sa (no a)⟩ z1 z2⟩⟩
  refine wpAny_mono body (fun fl s' hs=>?_) fun e s' hs=>hs
  cases fl with
  | ret u=>
    obtain ⟨v,σ',H',J,rv,z⟩:=hs
    exact ⟨v,H',J.os,J.bare,J.base,J.hok,rv,z⟩
  | next=>
    obtain ⟨σ',H',J,z⟩:=hs
    exact ⟨.non,H',J.os,J.bare,J.base,J.hok,rfl,z⟩
  | brk=>
    obtain ⟨_,_,_,z⟩:=hs
    exact False.elim z
  | cont=>
    obtain ⟨_,_,_,z⟩:=hs
    exact False.elim z
inductive Sel where
  | pos (i:Nat) | kw (j:Nat) | dfl (v:V) (d:D)
def pickV (vs qs:List V):Sel→V
  | .pos i=>vs.getD i .non
  | .kw j=>qs.getD j .non
  | .dfl v _=>v
def pickD (vs qs:List DV):Sel→DV
  | .pos i=>vs.getD i (.d .non)
  | .kw j=>qs.getD j (.d .non)
  | .dfl _ d=>.d d
structure Bd (K:PySem.W.Frag) (fd:FuncData) (ps:List Str) (n:Nat) (ks:List Str) (sel:List Sel):Prop where
  to:∀ (s:Shared) (us ws:List Value) (vs qs:List V),K.In s.heap→us.length=n→ws.length=ks.length→Vals vs us→Vals qs ws→∃ zs,BindsTo s fd ⟨us,ks.zip ws⟩ (ps.zip zs)∧Vals (sel.map (pickV vs qs)) zs
  dok:∀ s∈sel,∀ (v:V) (d:D),s=.dfl v d→∀ G,DOk K G v d
theorem VsOk.getD {K:PySem.W.Frag} {G:Hp} {so:So} {H:Hp}:∀ {vs:List V} {ds:List DV} (i:Nat),VsOk K G so H vs ds→VOk K G so H (vs.getD i .non) (ds.getD i (.d .non))∧∀ o,ds.getD i (.d .non)≠.own o
  | _,_,_,.nil=>⟨.non,fun _ e=>(nomatch e)⟩
  | _,_,0,.cons h n _=>⟨h,n⟩
  | _,_,i + 1,.cons _ _ t=>VsOk.getD i t
theorem VsOk.pick {K:PySem.W.Frag} {G:Hp} {so:So} {H:Hp} {vs qs:List V} {ds es:List DV} (h:VsOk K G so H vs ds) (h2:VsOk K G so H qs es):∀ (sel:List Sel),(∀ s∈sel,∀ (v:V) (d:D),s=.dfl v d→∀ G,DOk K G v d)→VsOk K G so H (sel.map (pickV vs qs)) (sel.map (pickD ds es))
  | [],_=>.nil
  | .pos i::r,k=>.cons (h.getD i).1 (h.getD i).2 (VsOk.pick h h2 r fun s hs=>k s (List.mem_cons_of_mem _ hs))
  | .kw j::r,k=>.cons (h2.getD j).1 (h2.getD j).2 (VsOk.pick h h2 r fun s hs=>k s (List.mem_cons_of_mem _ hs))
  | .dfl v d::r,k=>.cons (k _ (List.mem_cons_self ..) v d rfl G) (fun _ e=>(nomatch e)) (VsOk.pick h h2 r fun s hs=>k s (List.mem_cons_of_mem _ hs))
def dCall (sp:SpD) (n m:Nat) (sel:List Sel) (ta tk:TDA):TD:=fun sl Q E=>ta sl (fun xs s1=>tk s1 (fun ys s2=>xs.length=n∧ys.length=m∧sp (sel.map (pickD xs ys)) (fun v=>Q v s2) fun cls fs=>E cls fs s2) E) E
def DK (X:Cx) (W:WX) (kws:List Keyword) (t:TDA):Prop:=PK X kws (upA X.K W t)
section
variable {X:Cx} {W:WX} {k n:Nat} {f:Addr} {fd:FuncData} {ps ks:List Str} {sp:SpD} {sel:List Sel} {x nm:Str} {p pos kpos:Pos} {e:Expr} {es:List Expr} {kws:List Keyword} {ta tk tk':TDA} {te:TD}
theorem pk_imp {t t':TA} (h:PK X kws t) (g:∀ σ H R,t' σ H R→t σ H R):PK X kws t':=⟨fun pos pins s σ H Q I q=>h.run pos pins s σ H Q I (g _ _ _ q)⟩
theorem dk_nil:DK X W [] dNil:=pk_imp pk_nil fun σ H R ⟨G,so,sl,Q,E,rep,q,hq,_⟩=>hq [] H G [] sl (.refl rep) .nil q
theorem dk_cons (ha:DE X W e te) (hr:DK X W kws tk):DK X W (⟨nm,e,kpos⟩::kws) (dCons te tk):=by
  refine pk_imp (pk_cons ha hr) fun σ H R ⟨G,so,sl,Q,E,rep,q,hq,hx⟩=>?_
  refine ⟨G,so,sl,_,E,rep,q,fun x H1 G1 dx s1 p1 h1=>?_,hx⟩
  obtain ⟨G1',p1'⟩:=p1.pub
  refine ⟨G1',so,s1,_,E,p1'.rep,h1,fun vs H2 G2 ds s2 p2 w h2=>?_,hx.step p1'.toPost⟩
  exact hq (x::vs) H2 G2 (pubV dx::ds) s2 (p1'.toPost.trans p2) (.cons (p1'.over p2) (pubV_not dx) w) h2
theorem run_fnG {pins:List (Addr × Obj)} {σ:L2.St} {H G:Hp} {so:So} {sl:DSt} {s:Shared} {Q:VK} {us ws:List Value} {vs qs:List V} {ds es:List DV} {Q':DV→DSt→Prop} {E:XP} (F:FnG X.prog X.w X.K X.mg X.base k f fd ps sp) (hr:Room k X.A) (hg:X.A.guards=some []) (tk:L2N.Takes X W) (hb:Bd X.K fd ps n ks sel)
    (I:Inv X pins σ H s) (rep:Rep X.K G so σ H sl) (r:Vals vs us) (r2:Vals qs ws) (w:VsOk X.K G so H vs ds) (w2:VsOk X.K G so H qs es) (l1:ds.length=n) (l2:es.length=ks.length)
    (q:sp (sel.map (pickD ds es)) (fun v=>Q' v sl) fun cls fs=>E cls fs sl) (hq:∀ v H' G' dv sl',PostE X.K G so σ H sl v H' G' dv sl'→Q' dv sl'→Q v H') (hx:XOk X.K W G so σ H sl E) :
    wpAny (model X.prog X.w) X.A (call (.ref f) us (ks.zip ws)) (EP X pins σ Q) X.xe s:=by
  obtain ⟨zs,bt,rz⟩:=hb.to s us ws vs qs I.kIn (by rw [← r.length,w.length,l1]) (by rw [← r2.length,w2.length,l2]) r r2
  have pk:=w.pick w2 sel hb.dok
  refine wpAny_call (codeAny_mono (F.run X.A X.stack s H ⟨us,ks.zip ws⟩ zs (sel.map (pickV vs qs)) Q (fun cls d H'=>W cls d σ H') hr hg I.env0 bt rz ⟨G,so,_,_,_,rep.h,pk,q,fun v H' G' dv pv z=>hq v H' G' dv sl (pv.slots rep) z,fun cls d H' G' fs ph z1 z2=>?_⟩) fun r s' hz=>?_)
  · have pn:PostV X.K G so H .non H' G' (.d .non):=⟨ph.ex,ph.hrep,ph.keep,ph.frm,.non,fun _ _ e=>(nomatch e),fun _ e=>(nomatch e)⟩
    exact hx cls d H' G' fs sl (pn.slots rep).toPost z1 z2
  · cases r with
    | error e=>exact tk e s' (L2N.XE.of_call I (fun _ _ _ z=>z) hz)
    | ok fl=>
      cases fl with
      | ret u=>exact I.after hz
      | next=>exact False.elim hz
      | brk=>exact False.elim hz
      | cont=>exact False.elim hz
theorem de_call (F:FnG X.prog X.w X.K X.mg X.base k f fd ps sp) (hr:Room k X.A) (hgd:X.A.guards=some []) (tk:L2N.Takes X W) (hb:Bd X.K fd ps n [] sel) (hg:Gl X x) (hm:X.mg x=some (.ref f)) (hk:PySem.W.keepIn X.K (.ref f)=true)
    (ha:DA X W (e::es) ta) (hdb:(x == ("__debug__":Str))=false:=by decide) (he:starEach (e::es) X.env=(false,eval e X.env)::starEach es X.env:=by rfl) (hpl:(backTo pos (starEach es X.env)).any (·.1)=false:=by rfl) :
    DE X W (.Call (.Name x p) (e::es) [] pos) (dCall sp n 0 sel ta dNil):=by
  refine ⟨fun pins s σ H Q I ⟨G,so,sl,Q',E,rep,q,hq,hx⟩=>wpAny_Call_Name_kw (ld_glob I hg hm ?_ hdb)⟩
  refine PySem.W.callWith_K (h₀:=X.base) I.ok.mod.kin hk (thn (ha.run pos pins s σ H (fun vs H1=>∃ G1 ds s1,Post X.K G so σ H sl H1 G1 s1∧VsOk X.K G1 so H1 vs ds∧ds.length=n∧sp (sel.map (pickD ds [])) (fun v=>Q' v s1) fun cls fs=>E cls fs s1) I
    ⟨G,so,sl,_,E,rep,q,fun vs H1 G1 ds s1 p1 w z=>⟨G1,ds,s1,p1,w,z.1,z.2.2⟩,hx⟩) fun us s1 ⟨vs,H1,I1,r,G1,ds,sl1,p1,w,l1,z⟩=>⟨I1.kIn,?_⟩) he hpl
  exact run_fnG (ws:=[]) (qs:=[]) (es:=[]) F hr hgd tk hb I1 p1.rep r .nil w .nil l1 rfl z (fun v H' G' dv sl' pe z'=>hq v H' G' dv sl' (p1.thenE pe) z') (hx.step p1)
end
section
variable {X:Cx} {W:WX} {x:Str} {p pos:Pos} {e:Expr} {es:List Expr} {ta:TDA} {id T:String} {r:List V→Hp→VK→Prop} {rd:List DV→(DV→Prop)→Prop}
theorem de_callB (hc:CallR X (.builtin id) r) (hr:CallSem X.K r rd) (hg:Gl X x) (hm:X.mg x=none) (hv:bootBuiltins x=some (.builtin id)) (ha:DA X W (e::es) ta) (hn:x≠"__name__":=by decide) (hdb:(x == ("__debug__":Str))=false:=by decide)
    (he:starEach (e::es) X.env=(false,eval e X.env)::starEach es X.env:=by rfl) (hpl:(backTo pos (starEach es X.env)).any (·.1)=false:=by rfl):DE X W (.Call (.Name x p) (e::es) [] pos) (dCB rd ta):=pe_imp (pe_callB hc hg hm hv ha hn hdb he hpl) fun _ _ _ h=>up_cb hr h
theorem de_callT (hc:CallR X (.type T) r) (hr:CallSem X.K r rd) (hg:Gl X x) (hm:X.mg x=none) (hv:bootBuiltins x=some (.type T)) (ha:DA X W (e::es) ta) (hn:x≠"__name__":=by decide) (hdb:(x == ("__debug__":Str))=false:=by decide)
    (he:starEach (e::es) X.env=(false,eval e X.env)::starEach es X.env:=by rfl) (hpl:(backTo pos (starEach es X.env)).any (·.1)=false:=by rfl):DE X W (.Call (.Name x p) (e::es) [] pos) (dCB rd ta):=pe_imp (pe_callTy hc hg hm hv ha hn hdb he hpl) fun _ _ _ h=>up_cb hr h
theorem de_callF (hc:CallR X (.builtin id) r) (hr:CallSem X.K r rd) (hg:Gl X x) (hm:X.mg x=some (.builtin id)) (ha:DA X W (e::es) ta) (hdb:(x == ("__debug__":Str))=false:=by decide)
    (he:starEach (e::es) X.env=(false,eval e X.env)::starEach es X.env:=by rfl) (hpl:(backTo pos (starEach es X.env)).any (·.1)=false:=by rfl):DE X W (.Call (.Name x p) (e::es) [] pos) (dCB rd ta):=pe_imp (pe_callBfun hc hg hm ha hdb he hpl) fun _ _ _ h=>up_cb hr h
theorem de_ty {T:String} (hg:Gl X x) (hm:X.mg x=none) (hv:bootBuiltins x=some (.type T)) (hn:x≠"__name__":=by decide) (hdb:(x == ("__debug__":Str))=false:=by decide):DE X W (.Name x pos) (dC (.raw (.ty T))):=de_c (pe_bltn (v:=.ty T) hg hm hv rfl hn hdb) fun _=>.raw _
theorem de_glob {v:V} {u:Value} {d:D} (hg:Gl X x) (hm:X.mg x=some u) (r:RelV v u) (hd:∀ G,DOk X.K G v d) (hdb:(x == ("__debug__":Str))=false:=by decide):DE X W (.Name x pos) (dC d):=de_c (pe_glob hg hm r hdb) hd
end
@[irreducible] def lenR:List DV→(DV→Prop)→Prop
  | [.d (.str z)],Q=>z.length≤szl∧Q (.d (.int z.length))
  | [.d (.tup ds)],Q=>Q (.d (.int ds.length))
  | [v],Q=>match v.items with
    | some ds=>Q (.d (.int ds.length))
    | none=>False
  | _,_=>False
@[irreducible] def intC:List DV→(DV→Prop)→Prop
  | [.d (.int i)],Q=>Q (.d (.int i))
  | _,_=>False
@[irreducible] def absR:List DV→(DV→Prop)→Prop
  | [.d (.int i)],Q=>Q (.d (.int (if i < 0 then -i else i)))
  | _,_=>False
@[irreducible] def strR:List DV→(DV→Prop)→Prop
  | [.d (.int i)],Q=>i.natAbs.log2 < 1920∧Q (.d (.str (toString i)))
  | _,_=>False
@[irreducible] def tupleR:List DV→(DV→Prop)→Prop
  | [.d (.tup ds)],Q=>Q (.d (.tup ds))
  | [v],Q=>match v.items with
    | some ds=>Q (.d (.tup ds))
    | none=>False
  | _,_=>False
def bools:List D→Option (List Bool)
  | []=>some []
  | .bl b::r=>(bools r).map (b::·)
  | _=>none
@[irreducible] def allR:List DV→(DV→Prop)→Prop
  | [v],Q=>match v.items with
    | some ds=>match bools ds with
      | some bs=>Q (.d (.bl (bs.all id)))
      | none=>False
    | none=>False
  | _,_=>False
@[irreducible] def gcdR:List DV→(DV→Prop)→Prop
  | [.d (.int i),.d (.int j)],Q=>Q (.d (.int (Int.gcd i j)))
  | _,_=>False
section
variable {K:PySem.W.Frag} {X:Cx}
def rLen1 (K:PySem.W.Frag):List V→Hp→VK→Prop:=fun xs H Q=>∃ x n,xs=[x]∧LenV K x H n∧Q (.int n) H
theorem sem_len:CallSem K (rLen1 K) lenR:=by
  intro G so H xs dxs Q R h w q k
  unfold lenR at q
  split at q
  · obtain ⟨v,rfl,w1,_⟩:=w.v1
    cases w1
    exact ⟨_,_,rfl,⟨by rw [← szl_eq];exact q.1,rfl⟩,k _ H G _ (.dat h (.int _)) q.2⟩
  · obtain ⟨v,rfl,w1,_⟩:=w.v1
    obtain ⟨a,vs,rfl,g1,a1⟩:=VOk.tup h w1
    exact ⟨_,_,rfl,.inr ⟨vs,g1,rfl⟩,k _ H G _ (.dat h (by rw [a1.length];exact .int _)) q⟩
  · obtain ⟨v,rfl,w1,_⟩:=w.v1
    split at q
    · rename_i e
      obtain ⟨a,vs,rfl,g1,a1⟩:=VOk.list h w1 e
      exact ⟨_,_,rfl,.inl ⟨vs,SqL.of g1,rfl⟩,k _ H G _ (.dat h (by rw [a1.length];exact .int _)) q⟩
    · exact q.elim
  · exact q.elim
theorem sem_int:CallSem K (fun xs H Q=>(∃ i,xs=[.int i]∧Q (.int i) H)∨∃ k,xs=[.bl k]∧Q (.int (if k then 1 else 0)) H) intC:=by
  intro G so H xs dxs Q R h w q k
  unfold intC at q
  split at q
  · obtain ⟨v,rfl,w1,_⟩:=w.v1
    cases w1
    exact .inl ⟨_,rfl,k _ H G _ (.dat h (.int _)) q⟩
  · exact q.elim
theorem sem_abs:CallSem K (fun xs H Q=>∃ i,xs=[.int i]∧Q (.int (if i < 0 then -i else i)) H) absR:=by
  intro G so H xs dxs Q R h w q k
  unfold absR at q
  split at q
  · obtain ⟨v,rfl,w1,_⟩:=w.v1
    cases w1
    exact ⟨_,rfl,k _ H G _ (.dat h (.int _)) q⟩
  · exact q.elim
theorem sem_str:CallSem K (fun xs H Q=>∃ i,xs=[.int i]∧i.natAbs.log2 < 1920∧Q (.str (toString i)) H) strR:=by
  intro G so H xs dxs Q R h w q k
  unfold strR at q
  split at q
  · obtain ⟨v,rfl,w1,_⟩:=w.v1
    cases w1
    exact ⟨_,rfl,q.1,k _ H G _ (.dat h (.str _)) q.2⟩
  · exact q.elim
theorem sem_tuple:CallSem K (fun xs H Q=>∃ p ys,xs=[.ref p]∧((SqL K H p ys∧∀ l,H l=none→Q (.ref l) (upd H l (.tup ys)))∨(SqT K H p ys∧Q (.ref p) H))) tupleR:=by
  intro G so H xs dxs Q R h w q k
  unfold tupleR at q
  split at q
  · obtain ⟨v,rfl,w1,_⟩:=w.v1
    obtain ⟨a,vs,rfl,g1,a1⟩:=VOk.tup h w1
    exact ⟨a,vs,rfl,.inr ⟨g1,k _ _ G _ (.dat h w1) q⟩⟩
  · obtain ⟨v,rfl,w1,_⟩:=w.v1
    split at q
    · rename_i e
      obtain ⟨a,vs,rfl,g1,a1⟩:=VOk.list h w1 e
      exact ⟨a,vs,rfl,.inl ⟨SqL.of g1,fun l n=>k _ _ _ _ (.tuple h n a1) q⟩⟩
    · exact q.elim
  · exact q.elim
theorem bools_ok {G:Hp}:∀ {vs:List V} {ds:List D} {bs:List Bool},DAll K G vs ds→bools ds=some bs→vs=bs.map V.bl
  | _,_,_,.nil,e=>by cases e;rfl
  | _,_,_,.cons (d:=.bl b) h t,e=>by
    unfold bools at e
    rename_i ds0
    cases z:bools ds0 with
    | none=>rw [z] at e;cases e
    | some ys=>rw [z] at e;cases e;cases h;rw [bools_ok t z];rfl
  | _,_,_,.cons (d:=.non) h t,e=>by cases e
  | _,_,_,.cons (d:=.int _) h t,e=>by cases e
  | _,_,_,.cons (d:=.str _) h t,e=>by cases e
  | _,_,_,.cons (d:=.lst _) h t,e=>by cases e
  | _,_,_,.cons (d:=.tup _) h t,e=>by cases e
  | _,_,_,.cons (d:=.ins _ _) h t,e=>by cases e
  | _,_,_,.cons (d:=.raw _) h t,e=>by cases e
  | _,_,_,.cons (d:=.kt _) h t,e=>by cases e
theorem sem_all:CallSem K (rAll K) allR:=by
  intro G so H xs dxs Q R h w q k
  unfold allR at q
  split at q
  · obtain ⟨v,rfl,w1,_⟩:=w.v1
    split at q
    · rename_i e
      obtain ⟨a,vs,rfl,g1,a1⟩:=VOk.list h w1 e
      split at q
      · rename_i bs eb
        exact ⟨a,bs,rfl,by rw [← bools_ok a1 eb];exact SqL.of g1,k _ H G _ (.dat h (.bl _)) q⟩
      · exact q.elim
    · exact q.elim
  · exact q.elim
theorem sem_gcd:CallSem K rGcd gcdR:=by
  intro G so H xs dxs Q R h w q k
  unfold gcdR at q
  split at q
  · obtain ⟨v,v',rfl,w1,w2,_⟩:=w.v2
    cases w1;cases w2
    exact ⟨_,_,rfl,k _ H G _ (.dat h (.int _)) q⟩
  · exact q.elim
def tyD:D→Option String
  | .non=>some "NoneType"
  | .bl _=>some "bool"
  | .int _=>some "int"
  | .str _=>some "str"
  | .lst _=>some "list"
  | .tup _=>some "tuple"
  | .kt _=>some "tuple"
  | _=>none
@[irreducible] def isiR:List DV→(DV→Prop)→Prop
  | [v,.d (.raw (.ty T))],Q=>match v.dat with
    | some d=>match tyD d with
      | some t=>match kitB t T with
        | some b=>Q (.d (.bl b))
        | none=>False
      | none=>False
    | none=>False
  | _,_=>False
theorem ty_ok {G H:Hp} {so:So} {v:V} {dv:DV} {d:D} {t:String} (h:HRep K G so H) (w:VOk K G so H v dv) (e:dv.dat=some d) (q:tyD d=some t):TyX K H v (.type t):=by
  have own:∀ {a:Addr} {o:OO},OwnOk K G H a o→tyD (pubO o)=some t→TyX K H (.ref a) (.type t):=fun {a o} k q=>by
    cases o with
    | lst ds=>obtain ⟨vs,e1,_⟩:=k;cases q;exact .base (.lst e1)
    | ins x C fs=>cases q
    | dk _=>cases q
    | dt _=>cases q
  cases dv with
  | src=>cases e
  | mu _ _ _=>cases e
  | gh _ _=>cases e
  | own o=>cases e;obtain ⟨a,rfl,_,_,k⟩:=w;exact own k q
  | bor o=>
    cases e;obtain ⟨a,rfl,_,k⟩:=w
    cases o with
    | lst ds=>exact own (o:=.lst ds) k q
    | ins x C fs=>cases q
    | dk _=>cases q
    | dt _=>cases q
  | see o=>cases e;obtain ⟨a,rfl,_,k⟩:=w;exact own k q
  | d x=>
    cases e
    cases w with
    | non=>cases q;exact .base .non
    | bl b=>cases q;exact .base (.bl b)
    | int i=>cases q;exact .base (.int i)
    | str z=>cases q;exact .base (.str z)
    | lst g _=>cases q;exact .base (.lst (h.ex _ _ g))
    | tup g _=>
      cases q
      rcases g with (g | ⟨o,g⟩) | ⟨o,its,n,g,c,_⟩
      · exact .base (.tup (h.ex _ _ g))
      · exact .fTuple (h.ex _ _ g)
      · exact .kTuple g c
    | ins _ _ _=>cases q
    | dk _=>cases q
    | dt _=>cases q
    | any _=>cases q
    | raw _=>cases q
    | kt g=>cases q;exact .base (.tup (h.ex _ _ g))
theorem sem_isi:CallSem K (rIsi K) isiR:=by
  intro G so H xs dxs Q R h w q k
  unfold isiR at q
  split at q
  · obtain ⟨v,v',rfl,w1,w2,_⟩:=w.v2
    cases w2
    split at q
    · rename_i d e
      split at q
      · rename_i t et
        split at q
        · rename_i b eb
          exact ⟨_,_,_,_,b,rfl,.ty _,ty_ok h w1 e et,kit_ty eb,k _ H G _ (.dat h (.bl _)) q⟩
        · exact q.elim
      · exact q.elim
    · exact q.elim
  · exact q.elim
def flatD:D→Bool
  | .non=>true
  | .bl _=>true
  | .int _=>true
  | .str _=>true
  | _=>false
def eqF:D→D→Bool
  | .non,.non=>true
  | .bl a,.bl b=>a == b
  | .bl a,.int b=>(if a then 1 else 0) == b
  | .int a,.bl b=>a == (if b then 1 else 0)
  | .int a,.int b=>a == b
  | .str a,.str b=>a == b
  | _,_=>false
def inF (x:D) (ds:List D):Bool:=ds.any fun y=>eqF y x
@[irreducible] def inSeqR (neg:Bool):DV→DV→(DV→Prop)→Prop
  | .d x,.d (.tup ds),Q=>flatD x=true∧ds.all flatD=true∧Q (.d (.bl (if neg then !inF x ds else inF x ds)))
  | .d x,y,Q=>match y.items with
    | some ds=>flatD x=true∧ds.all flatD=true∧Q (.d (.bl (if neg then !inF x ds else inF x ds)))
    | none=>False
  | _,_,_=>False
@[irreducible] def inR (neg:Bool):DV→DV→(DV→Prop)→Prop
  | .d (.str w),.d (.str z),Q=>match w.cps.toList with
    | [c]=>Q (.d (.bl (if neg then !decide (c∈z.cps.toList) else decide (c∈z.cps.toList))))
    | _=>False
  | x,y,Q=>inSeqR neg x y Q
theorem flat_ok {G:Hp} {v:V} {d:D} (w:DOk K G v d) (f:flatD d=true):flatV v=true:=by
  cases w<;>first | rfl | (exact absurd f (by simp [flatD]))
theorem eqF_ok {G:Hp} {v u:V} {d e:D} (w:DOk K G v d) (w2:DOk K G u e) (f:flatD d=true) (f2:flatD e=true):eqV v u=eqF d e:=by
  cases w<;>cases w2<;>first | rfl | (exfalso;revert f f2;simp [flatD];done)
theorem flat_all {G:Hp}:∀ {vs:List V} {ds:List D},DAll K G vs ds→ds.all flatD=true→vs.all flatV=true
  | _,_,.nil,_=>rfl
  | _,_,.cons h t,f=>by
    rw [List.all_cons,Bool.and_eq_true] at f
    rw [List.all_cons,flat_ok h f.1,flat_all t f.2];rfl
theorem in_ok {G:Hp} {v:V} {x:D} (w:DOk K G v x) (f:flatD x=true):∀ {vs:List V} {ds:List D},DAll K G vs ds→ds.all flatD=true→inV v vs=inF x ds
  | _,_,.nil,_=>rfl
  | _,_,.cons h t,g=>by
    rw [List.all_cons,Bool.and_eq_true] at g
    have ih:=in_ok w f t g.2
    unfold inV inF at ih ⊢
    rw [List.any_cons,List.any_cons,eqF_ok h w g.1 f,ih]
theorem sem_inSeq (neg:Bool):OpSem K (rIn K neg) (inSeqR neg):=by
  intro G so H x y dx dy Q R h wx wy q k
  unfold inSeqR at q
  split at q
  · obtain ⟨a,vs,rfl,g1,a1⟩:=VOk.tup h wy
    exact ⟨a,vs,rfl,.inr g1,flat_ok wx q.1,flat_all a1 q.2.1,by rw [in_ok wx q.1 a1 q.2.1];exact k _ H G _ (.dat h (.bl _)) q.2.2⟩
  · split at q
    · rename_i e
      obtain ⟨a,vs,rfl,g1,a1⟩:=VOk.list h wy e
      exact ⟨a,vs,rfl,.inl (SqL.of g1),flat_ok wx q.1,flat_all a1 q.2.1,by rw [in_ok wx q.1 a1 q.2.1];exact k _ H G _ (.dat h (.bl _)) q.2.2⟩
    · exact q.elim
  · exact q.elim
def rInAll (K:PySem.W.Frag):R2:=fun x y H Q=>(∃ (c:Nat) (z:Str),x=.str ⟨#[c]⟩∧y=.str z∧Q (.bl (decide (c∈z.cps.toList))) H)∨rIn K false x y H Q
theorem op_inAll:OpR X (compareOp .In) (rInAll X.K):=OpR.or op_in_sign op_in_seq
theorem one_sign {w:Str} {c:Nat} (e:w.cps.toList=[c]):w=⟨#[c]⟩:=by
  obtain ⟨a⟩:=w
  have:a=#[c]:=by
    apply Array.toList_inj.mp
    exact e
  rw [this]
theorem sem_in:OpSem K (rInAll K) (inR false):=by
  intro G so H x y dx dy Q R h wx wy q k
  unfold inR at q
  split at q
  · split at q
    · rename_i c e
      cases wx;cases wy
      exact .inl ⟨c,_,by rw [one_sign e],rfl,k _ H G _ (.dat h (.bl _)) q⟩
    · exact q.elim
  · exact .inr (sem_inSeq false G so H x y dx dy Q R h wx wy q k)
@[irreducible] def ixR:DV→DV→(DV→Prop)→Prop
  | .d (.tup ds),.d (.int i),Q=>match atI ds i with
    | some d=>Q (.d d)
    | none=>False
  | .d (.str z),.d (.int i),Q=>z.length≤szl∧match atI z.cps.toList i with
    | some c=>Q (.d (.str ⟨#[c]⟩))
    | none=>False
  | v,.d (.int i),Q=>match v.items with
    | some ds=>match atI ds i with
      | some d=>Q (.d d)
      | none=>False
    | none=>False
  | _,_,_=>False
theorem at_all {G:Hp} {vs:List V} {ds:List D} {i:Int} {d:D} (a:DAll K G vs ds) (e:atI ds i=some d):∃ v,atI vs i=some v∧DOk K G v d:=by
  unfold atI at e ⊢
  rw [a.length]
  cases z:ixN ds.length i with
  | none=>rw [z] at e;cases e
  | some j=>rw [z] at e;exact a.get e
theorem sem_ix:OpSem K (rIx K) ixR:=by
  intro G so H x y dx dy Q R h wx wy q k
  unfold ixR at q
  split at q
  · split at q
    · rename_i e
      obtain ⟨a,vs,rfl,g1,a1⟩:=VOk.tup h wx
      cases wy
      obtain ⟨v,e1,e2⟩:=at_all a1 e
      exact .inr (.inl ⟨a,vs,_,v,rfl,rfl,g1,e1,k _ H G _ (.dat h e2) q⟩)
    · exact q.elim
  · cases wx;cases wy
    obtain ⟨q1,q⟩:=q
    split at q
    · rename_i e
      exact .inr (.inr ⟨_,_,_,rfl,rfl,by rw [← szl_eq];exact q1,e,k _ H G _ (.dat h (.str _)) q⟩)
    · exact q.elim
  · split at q
    · rename_i e
      split at q
      · rename_i e0
        obtain ⟨a,vs,rfl,g1,a1⟩:=VOk.list h wx e
        cases wy
        obtain ⟨v,e1,e2⟩:=at_all a1 e0
        exact .inl ⟨a,vs,_,v,rfl,rfl,SqL.of g1,e1,k _ H G _ (.dat h e2) q⟩
      · exact q.elim
    · exact q.elim
  · exact q.elim
end
abbrev TDO:=DSt→(Option Int→DSt→Prop)→XP→Prop
def dNoPart:TDO:=fun sl Q _=>Q none sl
def dPart (te:TD):TDO:=fun sl Q E=>te sl (fun x s1=>match x with
  | .d (.int i)=>Q (some i) s1
  | _=>False) E
def upO (K:PySem.W.Frag) (W:WX) (t:TDO):TO:=fun σ H R=>∃ G so sl Q E,Rep K G so σ H sl∧t sl Q E∧(∀ o H' G' sl',Post K G so σ H sl H' G' sl'→Q o sl'→R o H')∧XOk K W G so σ H sl E
def DO' (X:Cx) (W:WX) (e:Option Expr) (t:TDO):Prop:=PO X e (upO X.K W t)
def cut {α:Type} (xs:List α) (lo hi:Option Int):List α:=(xs.drop (HT.sIx xs.length 0 lo)).take (HT.sIx xs.length xs.length hi - HT.sIx xs.length 0 lo)
@[irreducible] def slR (v:DV) (lo hi:Option Int) (Q:DV→Prop):Prop:=match v with
  | .d (.tup ds)=>Q (.d (.tup (cut ds lo hi)))
  | .d (.str z)=>z.length≤szl∧Q (.d (.str (cutS z lo hi)))
  | v=>match v.items with
    | some ds=>Q (.own (.lst (cut ds lo hi)))
    | none=>False
def dSl (te:TD) (tl th:TDO):TD:=fun sl Q E=>te sl (fun x s1=>tl s1 (fun lo s2=>th s2 (fun hi s3=>slR x lo hi fun z=>Q z s3) E) E) E
section
variable {X:Cx} {W:WX} {e:Expr} {te:TD} {tl th:TDO} {pos p2:Pos} {lo hi:Option Expr} {K:PySem.W.Frag}
theorem po_imp {o:Option Expr} {t t':TO} (h:PO X o t) (f:∀ σ H R,t' σ H R→t σ H R):PO X o t':=⟨fun pins s σ H Q I q=>h.run pins s σ H Q I (f _ _ _ q)⟩
theorem do_none:DO' X W none dNoPart:=po_imp po_none fun σ H R ⟨G,so,sl,Q,E,rep,q,hq,hx⟩=>hq none H G sl (.refl rep) q
theorem do_some (h:DE X W e te):DO' X W (some e) (dPart te):=po_imp (po_some h) fun σ H R ⟨G,so,sl,Q,E,rep,q,hq,hx⟩=>⟨G,so,sl,_,E,rep,q,fun v H1 G1 dv s1 p q1=>by
    split at q1
    · have w:=p.val
      cases w
      exact ⟨_,rfl,hq _ H1 G1 s1 p.toPost q1⟩
    · exact q1.elim,hx⟩
theorem cut_all {G:Hp} {vs:List V} {ds:List D} {lo hi:Option Int} (a:DAll K G vs ds):DAll K G (cutV vs lo hi) (cut ds lo hi):=by
  unfold cutV cut
  rw [a.length]
  exact (a.drop _).take _
def rSlAll (K:PySem.W.Frag):V→Option Int→Option Int→Hp→VK→Prop:=fun x lo hi H Q=>rSlA K x lo hi H Q∨(rSlS x lo hi H Q∨rSlL K x lo hi H Q)
theorem sl_all:SlR X (rSlAll X.K):=SlR.or sl_tupA (SlR.or sl_str sl_list)
theorem cut_whole {α:Type} {xs:List α} {lo hi:Option Int} (h:HT.sIx xs.length 0 lo=0∧HT.sIx xs.length xs.length hi=xs.length):cut xs lo hi=xs:=by
  unfold cut
  rw [h.1,h.2]
  simp
theorem sem_sl {G:Hp} {so:So} {H:Hp} {x:V} {dx:DV} {lo hi:Option Int} {Q:DV→Prop} {R:VK} (h:HRep K G so H) (w:VOk K G so H x dx) (q:slR dx lo hi Q) (k:∀ v H' G' dv,PostV K G so H v H' G' dv→Q dv→R v H'):rSlAll K x lo hi H R:=by
  unfold slR at q
  split at q
  · obtain ⟨a,vs,rfl,g1,a1⟩:=VOk.tup h w
    refine .inl ⟨a,vs,rfl,g1,fun z=>?_,fun _ p n=>k _ _ _ _ (.tuple h n (cut_all a1)) q⟩
    rw [a1.length] at z
    rw [cut_whole z] at q
    exact k _ H G _ (.dat h w) q
  · cases w
    exact .inr (.inl ⟨_,rfl,by rw [← szl_eq];exact q.1,k _ H G _ (.dat h (.str _)) q.2⟩)
  · split at q
    · rename_i e
      obtain ⟨a,vs,rfl,g1,a1⟩:=VOk.list h w e
      exact .inr (.inr ⟨a,vs,rfl,SqL.of g1,fun p n=>k _ _ _ _ (.list h n (cut_all a1)) q⟩)
    · exact q.elim
theorem de_sl (he:DE X W e te) (hl:DO' X W lo tl) (hh:DO' X W hi th):DE X W (.Subscript e (.Slice lo hi none p2) pos) (dSl te tl th):=pe_imp (pe_slice sl_all he hl hh) fun σ H R ⟨G,so,sl,Q,E,rep,q,hq,hx⟩=>by
  refine ⟨G,so,sl,_,E,rep,q,fun x H1 G1 dx s1 p1 q1=>?_,hx⟩
  refine ⟨G1,so,s1,_,E,p1.rep,q1,fun o1 H2 G2 s2 p2 q2=>?_,hx.step p1.toPost⟩
  refine ⟨G2,so,s2,_,E,p2.rep,q2,fun o2 H3 G3 s3 p3 q3=>?_,hx.step (p1.toPost.trans p2)⟩
  have p23:=p2.trans p3
  exact sem_sl p3.rep.h (p1.over p23) q3 fun v H' G' dv pv hz=>hq v H' G' dv s3 ((p1.toPost.trans p23).thenV pv) hz
end
section
variable {X:Cx} {W:WX} {o e:Expr} {to te:TD} {apos pos:Pos}
end
def rReprD (K:PySem.W.Frag):List V→Hp→VK→Prop:=fun xs H Q=>∃ (a:Addr) (d:PyData),xs=[.ref a]∧Dp K H (.ref a) d∧SeqAt.shaped d=true∧d.showable=true∧d.shown.length≤sizeLine∧Q (.str d.shown) H
theorem call_reprD {X:Cx} (hg:X.A.guards=some []) (hu:X.A.units + 65 < cLine):CallR X (.builtin "repr") (rReprD X.K):=by
  intro pins s σ H xs us Q I r h
  obtain ⟨a,d,rfl,hd,hs,hw,hz,q⟩:=h
  obtain ⟨u,rfl,ru⟩:=vals1 r
  cases ru
  obtain ⟨as,rd⟩:=Dp.reads I d _ _ hd (show RelV (.ref a) (.ref a) from rfl)
  have dd:=SeqAt.depth_of_shaped hs
  exact repr_of_reads' rd hw (PyData.noDict_hsm (PyData.hasDict_of_canLay _ (SeqAt.canLay_of_shaped hs))) hg (by omega) (fun _ _ e=>e) (fun h' u tk hk=>⟨.str d.shown,H,I.kept hk,⟨_,rfl⟩,q⟩) hz
@[irreducible] def reprR:List DV→(DV→Prop)→Prop
  | [v],Q=>match v.dat with
    | some (.lst ds)=>match (D.lst ds).py with
      | some p=>SeqAt.shaped p=true∧p.showable=true∧p.shown.length≤szl∧Q (.d (.str p.shown))
      | none=>False
    | some (.tup ds)=>match (D.tup ds).py with
      | some p=>SeqAt.shaped p=true∧p.showable=true∧p.shown.length≤szl∧Q (.d (.str p.shown))
      | none=>False
    | _=>False
  | _,_=>False
theorem dp_ref {K:PySem.W.Frag} {G H:Hp} {so:So} {v:V} {dv:DV} {d:D} (w:VOk K G so H v dv) (e:dv.dat=some d) (h:(∃ ds,d=.lst ds)∨∃ ds,d=.tup ds):∃ a,v=.ref a:=by
  cases dv with
  | src=>cases e
  | mu _ _ _=>cases e
  | gh _ _=>cases e
  | own o=>obtain ⟨a,q,_⟩:=w;exact ⟨a,q⟩
  | bor o=>obtain ⟨a,q,_⟩:=w;exact ⟨a,q⟩
  | see o=>obtain ⟨a,q,_⟩:=w;exact ⟨a,q⟩
  | d x=>
    cases e
    rcases h with ⟨ds,rfl⟩ | ⟨ds,rfl⟩
    · cases w;exact ⟨_,rfl⟩
    · cases w;exact ⟨_,rfl⟩
theorem sem_repr {K:PySem.W.Frag}:CallSem K (rReprD K) reprR:=by
  intro G so H xs dxs Q R h w q k
  unfold reprR at q
  split at q
  · obtain ⟨v,rfl,w1,_⟩:=w.v1
    split at q
    · rename_i ds e
      split at q
      · rename_i p ep
        obtain ⟨a,rfl⟩:=dp_ref w1 e (.inl ⟨ds,rfl⟩)
        exact ⟨a,p,rfl,w1.dp h e ep,q.1,q.2.1,by rw [← szl_eq];exact q.2.2.1,k _ H G _ (.dat h (.str _)) q.2.2.2⟩
      · exact q.elim
    · rename_i ds e
      split at q
      · rename_i p ep
        obtain ⟨a,rfl⟩:=dp_ref w1 e (.inr ⟨ds,rfl⟩)
        exact ⟨a,p,rfl,w1.dp h e ep,q.1,q.2.1,by rw [← szl_eq];exact q.2.2.1,k _ H G _ (.dat h (.str _)) q.2.2.2⟩
      · exact q.elim
    · exact q.elim
  · exact q.elim
structure FnR (P:Program) (w:World) (K:PySem.W.Frag) (mg:Str→Option Value) (base:Heap) (k:Nat) (f:Addr) (fd:FuncData) (ps:List Str) (sp:Sp):Prop where
  len:∀ vs H Q E,sp vs H Q E→vs.length=ps.length
  run:∀ (A:Around) (outer:List Env) (s:Shared) (H:Hp) (args:Args) (us:List Value) (vs:List V) (Q:VK) (E:XK),Room k A→A.guards=some []→Env0 P w K mg base A outer s H→BindsTo s fd args (ps.zip us)→Vals vs us→sp vs H Q E→
    codeAny (model P w) A (.call (.ref f) args) (CR (L2N.CX P w) outer P w H s Q E) s
theorem fnR_of {P:Program} {w:World} {K:PySem.W.Frag} {mg:Str→Option Value} {base:Heap} {x qual:Str} {params:Arguments} {body:List Stmt} {scope:Scope} {dvs:List V} {kws:List (Str × V)} {f:Addr} {fd:FuncData} {N ps:List Str} {k:Nat} {sp:Sp}
    (F:FunD K x qual params body scope dvs kws f fd) (S:FnScope N ps scope) (len:∀ vs H Q E,sp vs H Q E→vs.length=ps.length)
    (hd:∀ (cdv:Value) (A:Around) (outer:List Env) (s:Shared) (H:Hp) (vs:List V) (Q:VK) (E:XK),Room k (A.deeper (envOfC qual scope s.heap.objs.size f cdv))→(cxOf (L2N.CX P w) P w K mg base N qual scope f cdv A outer s H E).A.guards=some []→sp vs H Q E→
      ∃ t,PSs (cxOf (L2N.CX P w) P w K mg base N qual scope f cdv A outer s H E) body t∧t { nx:=fun _ H'=>Q .non H',rt:=Q } (L2.start N vs) H):FnR P w K mg base (k + 1) f fd ps sp:=by
  obtain ⟨oc,od,dV,kV,doc,pm,an,cdv,ct,osl,rfl,lk,hcd,_,_⟩:=F.ex
  refine ⟨len,fun A outer s H args us vs Q E hroom hg e0 hb r hsp=>?_⟩
  have KX:K.In s.heap:=e0.mod.kin.keeps fun b o e=>(e0.bs b o e).1
  have lim:s.heap.NoLimit:=e0.mod.nolimit.keeps fun b o e=>(e0.bs b o e).1
  have hkind:((ps.zip us).all fun y=>scope.names.lookup y.1 == some .local || scope.names.lookup y.1 == some .cell)=true:=by
    rw [List.all_eq_true]
    rintro ⟨n,u⟩ hy
    rcases S.par n (List.of_mem_zip hy).1 with z | z
    · show (scope.names.lookup n == some .local || _)=true
      rw [z];rfl
    · show (scope.names.lookup n == some .local || scope.names.lookup n == some .cell)=true
      rw [z];rfl
  refine Att.call_fn KX lim lk hcd hroom.depth hb hkind (fun s1 x=>?_) S.co S.gen S.kind
  have I:=inv_start (CX:=L2N.CX P w) (E:=E) S hroom.hd e0 (len _ _ _ _ hsp) r x
  obtain ⟨t,pt,qt⟩:=hd cdv A outer s H vs Q E (hroom.deeper _) hg hsp
  refine wpAny_mono (pt.run [] s1 (L2.start N vs) H _ I qt) (fun fl s' hs=>?_) fun e s' hs=>hs
  cases fl with
  | ret u=>
    obtain ⟨v,σ',H',J,rv,z⟩:=hs
    exact ⟨v,H',J.os,J.bare,J.base,J.hok,rv,z⟩
  | next=>
    obtain ⟨σ',H',J,z⟩:=hs
    exact ⟨.non,H',J.os,J.bare,J.base,J.hok,rfl,z⟩
  | brk=>obtain ⟨_,_,_,z⟩:=hs;exact False.elim z
  | cont=>obtain ⟨_,_,_,z⟩:=hs;exact False.elim z
theorem FnR.g {P:Program} {w:World} {K:PySem.W.Frag} {mg:Str→Option Value} {base:Heap} {k:Nat} {f:Addr} {fd:FuncData} {ps:List Str} {sp:SpD} (F:FnR P w K mg base k f fd ps (upSp K sp)) (len:∀ args Q E,sp args Q E→args.length=ps.length):FnG P w K mg base k f fd ps sp:=⟨len,F.run⟩
theorem pe_callR {X:Cx} {k:Nat} {f:Addr} {fd:FuncData} {ps:List Str} {sp:Sp} {x:Str} {p pos:Pos} {e:Expr} {es:List Expr} {t:TA} (F:FnR X.prog X.w X.K X.mg X.base k f fd ps sp) (hr:Room k X.A) (hgd:X.A.guards=some []) (hg:Gl X x) (hm:X.mg x=some (.ref f)) (hk:PySem.W.keepIn X.K (.ref f)=true) (hb:Binds X.K fd ps [])
    (ha:PA X (e::es) t) (hdb:(x == ("__debug__":Str))=false:=by decide) (he:starEach (e::es) X.env=(false,eval e X.env)::starEach es X.env:=by rfl) (hpl:(backTo pos (starEach es X.env)).any (·.1)=false:=by rfl) :
    PE X (.Call (.Name x p) (e::es) [] pos) (fun σ H Q=>t σ H fun vs H1=>sp vs H1 Q E0):=by
  refine ⟨fun pins s σ H Q I h=>wpAny_Call_Name_kw (ld_glob I hg hm ?_ hdb)⟩
  refine PySem.W.callWith_K (h₀:=X.base) I.ok.mod.kin hk (thn (ha.run pos pins s σ H _ I h) fun us s1 ⟨vs,H1,I1,r,q⟩=>⟨I1.kIn,?_⟩) he hpl
  have hl:(us++[]).length=ps.length:=by rw [List.append_nil,← r.length];exact F.len _ _ _ _ q
  have hb2:=hb s1 us I1.kIn hl
  rw [List.append_nil] at hb2
  refine wpAny_call (codeAny_mono (F.run X.A X.stack s1 H1 ⟨us,[]⟩ us vs Q E0 hr hgd I1.env0 hb2 r q) fun r s' hq=>?_)
  cases r with
  | error e=>
    obtain ⟨_,_,_,_,_,_,_,_,_,_,_,_,z⟩:=hq
    exact False.elim z
  | ok fl=>
    cases fl with
    | ret u=>exact I1.after hq
    | next=>exact False.elim hq
    | brk=>exact False.elim hq
    | cont=>exact False.elim hq
section
variable {P:Program} {w:World} {K:PySem.W.Frag} {mg mb:Str→Option Value}
def heap0 (K:PySem.W.Frag) (tb:List Addr) (a:Addr) (o:Obj) (xs:List V):Hp:=fun b=>if b∈tb then some (.tbl #[]) else if b=a∧K.lookup a=none then some (.frz o (.lst xs)) else none
theorem heap0_cases {tb:List Addr} {a b:Addr} {o:Obj} {xs:List V} {u:HO} (h:heap0 K tb a o xs b=some u):(b∈tb∧u=.tbl #[])∨(b∉tb∧b=a∧K.lookup a=none∧u=.frz o (.lst xs)):=by
  unfold heap0 at h
  by_cases q:b∈tb
  · rw [if_pos q] at h;cases h;exact .inl ⟨q,rfl⟩
  · rw [if_neg q] at h
    by_cases z:b=a∧K.lookup a=none
    · rw [if_pos z] at h;cases h;exact .inr ⟨q,z.1,z.2,rfl⟩
    · rw [if_neg z] at h;cases h
theorem law_callG {k:Nat} {fa a:Addr} {cs:List (Addr × Addr)} {fd:FuncData} {x:Str} {sp:Sp} {s1:Shared} {vs:List Value} {ns:List Int}
    (KX:K.In s1.heap) (hns:s1.heap.Ns mainGlobals mg) (hb:s1.heap.Ns builtinsNs mb) (hbb:∀ x:Str,x≠"__name__"→mb x=bootBuiltins x) (hlim:s1.heap.NoLimit) (hg:s1.gens=#[])
    (tE:∀ q∈cs,s1.heap.get? q.2=some { cls:=.none,data:=.fields #[] }) (tN:∀ q∈cs,K.lookup q.2=none) (tC:∀ q∈cs,PySem.W.CodeHd s1.heap q.1 q.2)
    (bmn:∃ (bm:Addr) (ob:Obj),mg "__builtins__"=some (.ref bm)∧bm≠builtinsNs∧s1.heap.get? bm=some ob∧ob.cls=.type "module"∧ob.dict=some builtinsNs∧ob.data=.plain)
    (ha:s1.heap.get? a=some { cls:=.type "list",data:=.seq vs.toArray }) (hi:IntsAre vs ns) (hl:ns.length≤sizeLine) (hr:Room k callerA)
    (F:∀ base:Heap,K.In base→base.Ns mainGlobals mg→(∀ q∈cs,LamX.TabB base mg q.1 q.2)→FnR P w K mg base k fa fd [x] sp) (hbind:∀ (s:Shared) (u:Value),BindsTo s fd ⟨[u],[]⟩ [(x,u)])
    (hsp:∀ H:Hp,(∀ q∈cs,H q.2=some (.tbl #[]))→SqL K H a (ns.map V.int)→sp [.ref a] H (fun v _=>v=.bl true) fun _ _ _=>False) :
    codeAny (model P w) callerA (.call (.ref fa) ⟨[.ref a],[]⟩) (fun r s'=>r=.ok (.ret (.bool true))∧OldK s1.heap s'.heap∧s'.os=s1.os∧AllBare s'.gens) s1:=by
  have rv:=vals_ints hi
  let O:Obj:={ cls:=.type "list",data:=.seq vs.toArray }
  let H:=heap0 K (cs.map Prod.snd) a O (ns.map V.int)
  have tb:∀ b∈cs.map Prod.snd,s1.heap.get? b=some { cls:=.none,data:=.fields #[] }:=fun b hm=>by
    obtain ⟨q,hq,rfl⟩:=List.mem_map.mp hm
    exact tE q hq
  have na:a∉cs.map Prod.snd:=fun z=>by
    have y:=ha.symm.trans (tb a z)
    cases y
  have inT:∀ b∈cs.map Prod.snd,H b=some (.tbl #[]):=fun b hm=>if_pos hm
  have hok:HOk P w H s1.heap:=fun b u e=>by
    rcases heap0_cases e with ⟨hm,rfl⟩ | ⟨_,rfl,_,rfl⟩
    · exact tb b hm
    · exact ⟨ha,by rw [List.length_map];exact hl,vs,_,rv,ha⟩
  have hS:SqL K H a (ns.map V.int):=by
    cases hk:K.lookup a with
    | none=>exact .inl (.inr ⟨O,(if_neg na).trans (if_pos ⟨rfl,hk⟩)⟩)
    | some o=>
      have e:=KX a o hk
      rw [ha] at e;cases e
      refine .inr ⟨_,vs.toArray,_,hk,rfl,rfl,rfl,?_,by simpa using rv⟩
      rw [List.size_toArray,hi.length];exact hl
  have free:∀ {b:Addr} {o:Obj},s1.heap.get? b=some o→(∀ xs n,o.data≠.seq xs n)→o.data≠.fields #[]→H b=none:=fun {b o} e n1 n2=>by
    cases q:H b with
    | none=>rfl
    | some u=>
      rcases heap0_cases q with ⟨hm,_⟩ | ⟨_,rfl,_,_⟩
      · have y:=(tb b hm).symm.trans e
        cases y;exact absurd rfl n2
      · have y:=ha.symm.trans e
        cases y;exact absurd rfl (n1 _ _)
  have lay:∀ {b:Addr} {o:Obj},s1.heap.get? b=some o→H b=none→(hidT s1.heap H).get? b=some o:=fun e n=>hidT_get e n
  have plain:∀ {b:Addr} {m:Str→Option Value},s1.heap.Ns b m→(hidT s1.heap H).Ns b m:=fun {b m} ⟨o,es,ep,e,d,r⟩=>
    ⟨o,es,ep,lay e (free e (fun xs n z=>by rw [d] at z;cases z) fun z=>by rw [d] at z;cases z),d,r⟩
  have hKb:K.In (hidT s1.heap H):=fun b o e=>lay (KX b o e) (by
    cases q:H b with
    | none=>rfl
    | some u=>
      rcases heap0_cases q with ⟨hm,_⟩ | ⟨_,rfl,z,_⟩
      · obtain ⟨y,hy,rfl⟩:=List.mem_map.mp hm
        rw [tN y hy] at e;cases e
      · rw [z] at e;cases e)
  have TB:∀ q∈cs,LamX.TabB (hidT s1.heap H) mg q.1 q.2:=fun q hq=>by
    refine ⟨?_,?_,fun z=>?_⟩
    · obtain ⟨o,us,f1,f2,f3,f4,f5,f6,f7,e1,r1,r2,r3,rest⟩:=tC q hq
      refine ⟨o,us,f1,f2,f3,f4,f5,f6,f7,lay e1 (free e1 (fun xs n z=>?_) fun z=>?_),r1,r2,r3,rest⟩
      · rw [r2] at z;cases z
      · rw [r2] at z;cases z;simp at r3
    · obtain ⟨bm,ob,b1,b2,b3,b4,b5,b6⟩:=bmn
      refine ⟨bm,ob,b1,b2,fun z=>?_,fun z=>?_,lay b3 (free b3 (fun xs n z=>?_) fun z=>?_),b4,b5,b6⟩
      · obtain ⟨o,es,ep,e,hd,_⟩:=hns
        subst z
        have y:=e.symm.trans b3
        cases y
        rw [hd] at b6;cases b6
      · subst z
        have y:=(tE q hq).symm.trans b3
        cases y
        cases b6
      · rw [b6] at z;cases z
      · rw [b6] at z;cases z
    · obtain ⟨o,es,ep,e,hd,_⟩:=hns
      rw [z] at e
      have y:=(tE q hq).symm.trans e
      cases y
      cases hd
  have e0:Env0 P w K mg (hidT s1.heap H) callerA [] s1 H:=by
    refine ⟨rfl,⟨hKb,plain hns,⟨mb,plain hb,hbb⟩,?_⟩,fun b o e=>of_hidT e,Nat.le_of_eq (hidT_size _ _),trivial,fun b z=>absurd (show b∈([]:List Addr) from z) (by simp),hok,.of_eq hg⟩
    obtain ⟨mc,h1,h2⟩:=hlim
    exact ⟨mc,plain h1,h2⟩
  refine codeAny_mono ((F _ hKb (plain hns) TB).run callerA [] s1 H ⟨[.ref a],[]⟩ [.ref a] [.ref a] _ _ hr rfl e0 (hbind s1 (.ref a)) (.cons rfl .nil) (hsp H (fun q hq=>inT _ (List.mem_map.mpr ⟨q,hq,rfl⟩)) hS)) fun r s' h=>?_
  cases r with
  | error e=>
    obtain ⟨_,_,_,_,_,_,_,_,_,_,_,_,z⟩:=h
    exact z.elim
  | ok fl=>
    cases fl with
    | next=>exact False.elim h
    | brk=>exact False.elim h
    | cont=>exact False.elim h
    | ret u=>
      obtain ⟨v,H',os,bare,un,hok',r',q⟩:=h
      obtain rfl:v=.bl true:=q
      obtain rfl:u=Value.bool true:=r'
      have stay:∀ b o,b∉cs.map Prod.snd→s1.heap.get? b=some o→s'.heap.get? b=some o:=fun b o nb e=>by
        cases q:H b with
        | none=>exact un.keep b o e q (fun y=>absurd (show b∈([]:List Addr) from y) (by simp)) (by simp)
        | some u=>
          rcases heap0_cases q with ⟨hm,_⟩ | ⟨_,_,_,rfl⟩
          · exact absurd hm nb
          · obtain ⟨e1,_⟩:=hok b _ q
            obtain ⟨e2,_⟩:=hok' b _ (un.frzs b O _ q)
            rw [e] at e1;cases e1
            exact e2
      have grown:∀ q∈cs,∃ more:Array Value,s'.heap.get? q.2=some { cls:=.none,data:=.fields more }:=fun q hq=>by
        obtain ⟨more,z⟩:=un.tbls q.2 #[] (inT _ (List.mem_map.mpr ⟨q,hq,rfl⟩))
        exact ⟨_,hok' q.2 _ z⟩
      refine ⟨rfl,⟨fun b o e=>?_,fun b o e=>?_⟩,os,bare⟩
      · by_cases hm:b∈cs.map Prod.snd
        · obtain ⟨q,hq,rfl⟩:=List.mem_map.mp hm
          obtain ⟨more,hmo⟩:=grown q hq
          have y:=(tE q hq).symm.trans e
          cases y
          exact .inr (.inl ⟨((tC q hq).tab (tE q hq)).isCodeTable,rfl,#[],more,rfl,by rw [Array.empty_append];exact hmo⟩)
        · exact .inl (stay b o hm e)
      · by_cases hm:b∈cs.map Prod.snd
        · obtain ⟨q,hq,rfl⟩:=List.mem_map.mp hm
          obtain ⟨more,hmo⟩:=grown q hq
          exact ⟨_,hmo⟩
        · exact ⟨o,stay b o hm e⟩
end
def spSource (K:PySem.W.Frag):Sp:=fun vs H Q _=>∃ (a:Addr) (ns:List Int),vs=[.ref a]∧SqL K H a (ns.map V.int)∧ns.length≤63∧
  ∀ (H':Hp) (p c:Addr) (ms:List Int) (sd:Int),Ex H H'→c≠p→H' p=some (.lst [.ref c,.int 0,.int 0,.int sd,.int 0])→H' c=some (.lst (ms.map V.int))→ms.length≤63→0≤sd→sd < 4294967296→Q (.ref p) H'
def spDraw:SpD:=fun args Q _=>∃ m:Int,args=[.src,.d (.int m)]∧0 < m∧m < 2 ^ 64∧∀ n:Int,0≤n→n < m→Q (.d (.int n))
def spOf:SpD:=fun args Q _=>∃ x:DV,args=[.src,x]∧(∀ o,x≠.see o)∧match x with
  | .d (.str z)=>0 < z.length∧z.length≤szl∧∀ c∈z.cps.toList,Q (.d (.str ⟨#[c]⟩))
  | .d (.tup ds)=>0 < ds.length∧ds.length≤szl∧∀ d∈ds,Q (.d d)
  | x=>match x.items with
    | some ds=>0 < ds.length∧ds.length≤szl∧∀ d∈ds,Q (.d d)
    | none=>False
structure Shows (d:D) (p:PyData):Prop where
  py:d.py=some p
  seq:(∃ ds,d=.lst ds)∨∃ ds,d=.tup ds
  sh:SeqAt.shaped p=true
  sw:p.showable=true
  ln:p.shown.length≤szl
def spSame:SpD:=fun args Q _=>∃ (d e:D) (p q:PyData),args=[.d d,.d e]∧Shows d p∧Shows e q∧Q (.d (.bl (decide (p.shown=q.shown))))
theorem same_true {Q:DV→Prop} {E:XE'} {d:D} {p:PyData} (h:Shows d p) (q:Q (.d (.bl true))):spSame [.d d,.d d] Q E:=⟨d,d,p,p,rfl,h,h,by rw [decide_eq_true rfl];exact q⟩
theorem room65 {k:Nat} {A:Around} (hr:Room k A):A.units + 65 < cLine:=by have:=hr.un;omega
theorem repr_ok {d:D} {p:PyData} {Q:DV→Prop} (s:Shows d p) (q:Q (.d (.str p.shown))):reprR [.d d] Q:=by
  unfold reprR
  rcases s.seq with ⟨ds,rfl⟩ | ⟨ds,rfl⟩
  · show (match (D.lst ds).py with | some p=>SeqAt.shaped p=true∧p.showable=true∧p.shown.length≤szl∧Q (.d (.str p.shown)) | none=>False)
    rw [s.py]
    exact ⟨s.sh,s.sw,s.ln,q⟩
  · show (match (D.tup ds).py with | some p=>SeqAt.shaped p=true∧p.showable=true∧p.shown.length≤szl∧Q (.d (.str p.shown)) | none=>False)
    rw [s.py]
    exact ⟨s.sh,s.sw,s.ln,q⟩
def LamUq (K:PySem.W.Frag):Prop:=∀ q∈lamFns K,∀ q'∈lamFns K,q.2.1=q'.2.1→q.2.2=q'.2.2
def spLaw (K:PySem.W.Frag):Sp:=fun vs H Q _=>∃ (a:Addr) (ns:List Int),vs=[.ref a]∧SqL K H a (ns.map V.int)∧ns.length≤63∧(∀ q∈lamFns K,H q.2.1=some (.tbl #[]))∧LamUq K∧∀ H',Q (.bl true) H'
abbrev lawEnds:EndsD:={ nx:=fun _=>False,rt:=fun v _=>v=.d (.bl true),bk:=fun _=>False,ct:=fun _=>False,xc:=fun _ _ _=>False }
theorem law_up {K:PySem.W.Frag} {W:WX} {t:TDS} {D:Ends} {σ:L2.St} {H:Hp} {p c:Addr} {ms:List Int} {sd:Int} (n i:Nat) (hl:σ.length=n) (hi:σ[i]?=some (some (.ref p))) (hD:∀ H',D.rt (.bl true) H')
    (cp:c≠p) (hp:H p=some (.lst [.ref c,.int 0,.int 0,.int sd,.int 0])) (hc:H c=some (.lst (ms.map V.int))) (hm:ms.length≤63) (h0:0≤sd) (h1:sd < 4294967296) (ht:∀ q∈lamFns K,H q.2.1=some (.tbl #[])) (hu:LamUq K)
    (h:t lawEnds ((List.replicate n none).set i (some .src))):upS K W t D σ H:=by
  have gP:tpUp (fun b=>if b=c then H c else none) H p=none:=by
    unfold tpUp;rw [hp];exact if_neg (Ne.symm cp)
  have gC:tpUp (fun b=>if b=c then H c else none) H c=some (.lst (ms.map V.int)):=by
    unfold tpUp;rw [hc];simp
  refine ⟨tpUp (fun b=>if b=c then H c else none) H,(p,.src c)::(lamFns K).map fun q=>(q.2.1,.tab q.2.2),_,lawEnds,?_,h,⟨fun _ _ _ _ _ z=>z.elim,fun _ _ _ _ _ z=>z.elim,fun _ _ _ _ _ z=>z.elim,fun v H' G' dv _ pr z=>?_,fun _ _ _ _ _ _ _ _ _ z=>z.elim⟩⟩
  · have sl:∀ (j:Nat) (dv:DV),((List.replicate n none).set i (some DV.src))[j]?=some (some dv)→j=i∧dv=.src:=fun j dv e=>by
      rcases get_set e with ⟨z,e2⟩ | ⟨ne,e2⟩
      · exact ⟨z,Option.some.inj e2⟩
      · rw [List.getElem?_replicate] at e2
        split at e2<;>cases e2
    refine ⟨⟨fun b o e=>?_,fun b k e=>?_,⟨fun q hq=>List.mem_cons_of_mem _ (List.mem_map.mpr ⟨q,hq,rfl⟩),fun b k k' e e'=>?_⟩,fun b xs q=>by unfold tpUp;rw [q]⟩,by simp [hl],fun j dv e=>?_,fun j k o o' b e1 _ _ _=>?_,fun j o b e1 _ _=>?_,fun j o e=>?_⟩
    · unfold tpUp at e
      split at e
      · rename_i xs z;cases e;exact z
      · replace e:(if b=c then H c else none)=some o:=e
        by_cases q:b=c
        · subst q;rw [if_pos rfl] at e;exact e
        · rw [if_neg q] at e;cases e
    · rcases List.mem_cons.mp e with e | e
      · cases e
        exact ⟨gP,ms,0,0,sd,0,hp,SqL.of gC,hm,by omega,by omega,h0,h1⟩
      · obtain ⟨q,hq,e⟩:=List.mem_map.mp e
        cases e
        have hne:q.2.1≠c:=fun z=>by
          have y:=ht q hq
          rw [z,hc] at y;cases y
        exact ⟨by unfold tpUp;rw [ht q hq];exact if_neg hne,#[],ht q hq,True.intro,fun pos cv hcv=>(by have z:codeAmong pos []=some cv:=hcv;simp [codeAmong] at z)⟩
    · have np:∀ q∈lamFns K,q.2.1≠p:=fun q hq z=>by
        have y:=ht q hq
        rw [z,hp] at y;cases y
      rcases List.mem_cons.mp e with e | e<;>rcases List.mem_cons.mp e' with e' | e'
      · cases e;cases e';rfl
      · obtain ⟨q,hq,e'⟩:=List.mem_map.mp e'
        cases e;cases e'
        exact absurd rfl (np q hq)
      · obtain ⟨q,hq,e⟩:=List.mem_map.mp e
        cases e;cases e'
        exact absurd rfl (np q hq)
      · obtain ⟨q,hq,e⟩:=List.mem_map.mp e
        obtain ⟨q',hq',e'⟩:=List.mem_map.mp e'
        cases e
        injection e' with e1 e2
        rw [← e2,hu q hq q' hq' e1.symm]
    · obtain ⟨rfl,rfl⟩:=sl j dv e
      exact ⟨_,hi,p,⟨c,List.mem_cons_self ..⟩,rfl⟩
    · exact (nomatch (sl j _ e1).2)
    · exact (nomatch (sl j _ e1).2)
    · exact (nomatch (sl j _ e).2)
  · have w:=pr.val
    rw [z] at w
    cases w
    exact hD H'
theorem forL_ind {g:TDG} {tb:TDS} {E:EndsD} (I:List D→DSt→Prop) (step:∀ (N:DSt→Prop) (d:D) (r:List D) (s:DSt),(∀ s',I r s'→N s')→I (d::r) s→g d s fun s1=>tb { nx:=N,ct:=N,bk:=E.nx,rt:=E.rt,xc:=E.xc } s1) (fin:∀ s,I [] s→E.nx s):∀ (ds:List D) (sl:DSt),I ds sl→dForL g tb E ds sl
  | [],sl,h=>by rw [forL_nil];exact fin sl h
  | d::r,sl,h=>by
    rw [forL_cons]
    exact step _ d r sl (fun s' i=>forL_ind I step fin r s' i) h
def GlobD (K:PySem.W.Frag) (mg:Str→Option Value) (x:Str) (d:D):Prop:=∃ v u,mg x=some u∧RelV v u∧∀ G,DOk K G v d
theorem de_globD {X:Cx} {W:WX} {x:Str} {d:D} {pos:Pos} (hg:Gl X x) (h:GlobD X.K X.mg x d) (hdb:(x == ("__debug__":Str))=false:=by decide):DE X W (.Name x pos) (dC d):=by
  obtain ⟨v,u,h1,h2,h3⟩:=h
  exact de_c (pe_glob hg h1 h2 hdb) h3
theorem bd_of {K:PySem.W.Frag} {x qual:Str} {params:Arguments} {body:List Stmt} {scope:Scope} {kws:List (Str × V)} {f:Addr} {fd:FuncData} {ps ks:List Str} {n:Nat} {sel:List Sel} (F:FunD K x qual params body scope [] kws f fd) (g:List Value→List Value→List Value)
    (h:∀ (kV doc pm:Value) (an:Option Addr) (cdv ct:Value) (us ws:List Value),us.length=n→ws.length=ks.length→bindArgs (PySem.W.fnOf x qual params body scope .none kV doc pm an cdv ct) ⟨us,ks.zip ws⟩=pure (ps.zip (g us ws)))
    (hv:∀ (vs qs:List V) (us ws:List Value),us.length=n→ws.length=ks.length→Vals vs us→Vals qs ws→Vals (sel.map (pickV vs qs)) (g us ws)) (hs:∀ s∈sel,∀ (v:V) (d:D),s=.dfl v d→∀ G,DOk K G v d):Bd K fd ps n ks sel:=by
  obtain ⟨oc,od,dV,kV,doc,pm,an,cdv,ct,osl,rfl,lk,hcd,hD,hK⟩:=F.ex
  rcases hD with ⟨_,rfl⟩ | ⟨e,_⟩
  · exact ⟨fun s us ws vs qs _ l1 l2 r1 r2=>⟨g us ws,.of_eq (h kV doc pm an cdv ct us ws l1 l2),hv vs qs us ws l1 l2 r1 r2⟩,hs⟩
  · exact absurd rfl e
theorem bd_dfl {K:PySem.W.Frag} {x qual:Str} {params:Arguments} {body:List Stmt} {scope:Scope} {dvs:List V} {kws:List (Str × V)} {f:Addr} {fd:FuncData} {ps ks:List Str} {n:Nat} {sel:List Sel} (F:FunD K x qual params body scope dvs kws f fd) (hd:dvs≠[]) (g:List Value→List Value→List Value→List Value)
    (h:∀ (T:Addr) (kV doc pm:Value) (an:Option Addr) (cdv ct:Value) (us ws its:List Value),us.length=n→ws.length=ks.length→its.length=dvs.length→∃ k,bindArgs (PySem.W.fnOf x qual params body scope (.ref T) kV doc pm an cdv ct) ⟨us,ks.zip ws⟩=seqItems? (.ref T) >>= k∧k (some its.toArray)=pure (ps.zip (g us ws its)))
    (hv:∀ (vs qs:List V) (us ws its:List Value),us.length=n→ws.length=ks.length→Vals vs us→Vals qs ws→Vals dvs its→Vals (sel.map (pickV vs qs)) (g us ws its)) (hs:∀ s∈sel,∀ (v:V) (d:D),s=.dfl v d→∀ G,DOk K G v d):Bd K fd ps n ks sel:=by
  obtain ⟨oc,od,dV,kV,doc,pm,an,cdv,ct,osl,rfl,lk,hcd,hD,hK⟩:=F.ex
  rcases hD with ⟨e,_⟩ | ⟨_,T,o,its,m,rfl,lT,oT,rT⟩
  · exact absurd e hd
  · refine ⟨fun s us ws vs qs X l1 l2 r1 r2=>⟨g us ws its,BindsTo.of_looks fun M=>?_,hv vs qs us ws its l1 l2 r1 r2 rT⟩,hs⟩
    obtain ⟨k,e1,e2⟩:=h T kV doc pm an cdv ct us ws its l1 l2 rT.length.symm
    rw [e1]
    exact looks_items X lT oT (.of_pure e2)
theorem isi_ok {x:DV} {d:D} {t T:String} {b:Bool} {Q:DV→Prop} (hx:x.dat=some d) (ht:tyD d=some t) (hk:kitB t T=some b) (q:Q (.d (.bl b))):isiR [x,.d (.raw (.ty T))] Q:=by
  unfold isiR
  show (match x.dat with | some d=>(match tyD d with | some t=>(match kitB t T with | some b=>Q (.d (.bl b)) | none=>False) | none=>False) | none=>False)
  rw [hx]
  show (match tyD d with | some t=>(match kitB t T with | some b=>Q (.d (.bl b)) | none=>False) | none=>False)
  rw [ht]
  show (match kitB t T with | some b=>Q (.d (.bl b)) | none=>False)
  rw [hk]
  exact q
section
variable {Q:DV→Prop} {i j:Int} {a b z:Str} {ds es:List D} {d e:D} {v w:DV}
theorem l_addI (q:Q (.d (.int (i + j)))):addR (.d (.int i)) (.d (.int j)) Q:=by unfold addR;exact q
theorem l_addS (h:a.length + b.length≤szl) (q:Q (.d (.str (a++b)))):addR (.d (.str a)) (.d (.str b)) Q:=by unfold addR;exact ⟨h,q⟩
theorem l_int0 {f:Int→Int→D} (q:Q (.d (f i j))):intR0 f (.d (.int i)) (.d (.int j)) Q:=by unfold intR0;exact q
theorem l_int1 {C:Int→Int→Prop} {f:Int→Int→D} (h:C i j) (q:Q (.d (f i j))):intR C f (.d (.int i)) (.d (.int j)) Q:=by unfold intR;exact ⟨h,q⟩
theorem l_neg (q:Q (.d (.int (-i)))):negR (.d (.int i)) Q:=by unfold negR;exact q
theorem l_eqI {n:Bool} (q:Q (.d (.bl (if n then !decide (i=j) else decide (i=j))))):eqR n (.d (.int i)) (.d (.int j)) Q:=by unfold eqR;exact q
theorem l_eqS {n:Bool} (q:Q (.d (.bl (if n then !decide (a=b) else decide (a=b))))):eqR n (.d (.str a)) (.d (.str b)) Q:=by unfold eqR;exact q
theorem l_truB {P:Bool→Prop} {x:Bool} (q:P x):truR (.d (.bl x)) P:=by unfold truR;exact q
theorem l_tup {xs:List DV} (h:dats xs=some ds) (hl:Nat.ble ds.length szl=true) (q:Q (.d (.tup ds))):tupR xs Q:=by
  unfold tupR;rw [h];exact ⟨Nat.le_of_ble_eq_true hl,q⟩
theorem l_lst {xs:List DV} (h:dats xs=some ds) (hl:Nat.ble ds.length szl=true) (q:Q (.own (.lst ds))):lstR xs Q:=by
  unfold lstR;rw [h];exact ⟨Nat.le_of_ble_eq_true hl,q⟩
theorem l_iterT {P:List D→Prop} (q:P ds):iterR (.d (.tup ds)) P:=by unfold iterR;exact q
theorem l_iterL {P:List D→Prop} (q:P ds):iterR (.d (.lst ds)) P:=by unfold iterR;exact q
theorem l_iterB {P:List D→Prop} (q:P ds):iterR (.bor (.lst ds)) P:=by unfold iterR;exact q
theorem l_rng1 {P:List D→Prop} (h1:-(2 ^ 62)≤j) (h2:j < 2 ^ 62) (q:P (intsFrom 0 j.toNat)):rngR1 [.d (.int j)] P:=by unfold rngR1;exact ⟨h1,h2,q⟩
theorem l_lenS (h:z.length≤szl) (q:Q (.d (.int z.length))):lenR [.d (.str z)] Q:=by unfold lenR;exact ⟨h,q⟩
theorem l_lenT (q:Q (.d (.int ds.length))):lenR [.d (.tup ds)] Q:=by unfold lenR;exact q
theorem l_lenL (hv:v.items=some ds) (q:Q (.d (.int ds.length))):lenR [v] Q:=by
  unfold lenR
  split
  · rename_i h;cases h;cases hv
  · rename_i h;cases h;cases hv
  · rename_i h;cases h;rw [hv];exact q
  · rename_i h;exact absurd rfl (h v)
theorem l_int (q:Q (.d (.int i))):intC [.d (.int i)] Q:=by unfold intC;exact q
theorem l_abs (q:Q (.d (.int (if i < 0 then -i else i)))):absR [.d (.int i)] Q:=by unfold absR;exact q
theorem l_str (h:i.natAbs.log2 < 1920) (q:Q (.d (.str (toString i)))):strR [.d (.int i)] Q:=by unfold strR;exact ⟨h,q⟩
theorem l_tupleL (hv:v.items=some ds) (q:Q (.d (.tup ds))):tupleR [v] Q:=by
  unfold tupleR
  split
  · rename_i h;cases h;cases hv
  · rename_i h;cases h;rw [hv];exact q
  · rename_i h;exact absurd rfl (h v)
theorem l_all {bs:List Bool} (hv:v.items=some ds) (hb:bools ds=some bs) (q:Q (.d (.bl (bs.all id)))):allR [v] Q:=by
  unfold allR
  dsimp only
  rw [hv]
  dsimp only
  rw [hb]
  exact q
theorem l_gcd (q:Q (.d (.int (Int.gcd i j)))):gcdR [.d (.int i),.d (.int j)] Q:=by unfold gcdR;exact q
theorem l_inT {n:Bool} (h1:flatD d=true) (h2:ds.all flatD=true) (q:Q (.d (.bl (if n then !inF d ds else inF d ds)))):inR n (.d d) (.d (.tup ds)) Q:=by
  unfold inR
  split
  · rename_i h;cases h
  · unfold inSeqR;exact ⟨h1,h2,q⟩
theorem items_cases (h:v.items=some ds):v=.d (.lst ds)∨v=.own (.lst ds)∨v=.bor (.lst ds)∨v=.see (.lst ds):=by
  unfold DV.items at h
  split at h<;>first | (cases h;done) | (injection h with h;subst h;simp)
theorem l_ixT (h:atI ds i=some d) (q:Q (.d d)):ixR (.d (.tup ds)) (.d (.int i)) Q:=by
  unfold ixR
  dsimp only
  rw [h];exact q
theorem l_ixS {c:Nat} (hz:z.length≤szl) (h:atI z.cps.toList i=some c) (q:Q (.d (.str ⟨#[c]⟩))):ixR (.d (.str z)) (.d (.int i)) Q:=by
  unfold ixR
  refine ⟨hz,?_⟩
  rw [h];exact q
theorem l_ixL (hv:v.items=some ds) (h:atI ds i=some d) (q:Q (.d d)):ixR v (.d (.int i)) Q:=by
  rcases items_cases hv with e | e | e | e<;>subst e<;>(unfold ixR;dsimp only [DV.items];rw [h];exact q)
theorem l_slL {lo hi:Option Int} (hv:v.items=some ds) (q:Q (.own (.lst (cut ds lo hi)))):slR v lo hi Q:=by
  unfold slR
  split
  · cases hv
  · cases hv
  · rw [hv];exact q
end
section
variable {g:TDG} {tt:TDT} {te:TD} {vs:List Nat} {Q:DV→DSt→Prop}
theorem lcL_fm (p:D→Bool) (f:D→D) (S:DSt):∀ (ds acc:List D),acc.length + ds.length≤szl→
    (∀ d∈ds,∀ (M:D→DSt→Prop) (A:DSt→Prop),(p d=true→M (f d) S)→(p d=false→A S)→g d S fun s1=>tt s1 (fun b s2=>Br b (te s2 (fun x s3=>match pubV x with
      | .d y=>M y (wipeD s3 vs)
      | _=>False) fun _ _ _=>False) (A (wipeD s2 vs))) fun _ _ _=>False)→
    Q (.own (.lst (acc++(ds.filter p).map f))) S→dLcL g tt te vs Q ds acc S
  | [],acc,_,_,q=>by rw [lcL_nil];rw [List.filter_nil,List.map_nil,List.append_nil] at q;exact q
  | d::r,acc,hl,step,q=>by
    rw [lcL_cons]
    have hl2:acc.length + (r.length + 1)≤szl:=hl
    refine step d (List.mem_cons_self ..) (fun y s=>acc.length < szl∧dLcL g tt te vs Q r (acc++[y]) s) (fun s=>dLcL g tt te vs Q r acc s) (fun e=>⟨by omega,?_⟩) (fun e=>?_)
    · refine lcL_fm p f S r _ (by rw [List.length_append,List.length_singleton];omega) (fun d' h=>step d' (List.mem_cons_of_mem _ h)) ?_
      rw [List.filter_cons_of_pos e,List.map_cons] at q
      rw [List.append_assoc,List.singleton_append];exact q
    · refine lcL_fm p f S r _ (by omega) (fun d' h=>step d' (List.mem_cons_of_mem _ h)) ?_
      rw [List.filter_cons_of_neg (by simp [e])] at q
      exact q
theorem lcL_map (f:D→D) (S:DSt) {ds:List D} (hl:ds.length≤szl)
    (step:∀ d∈ds,∀ (M:D→DSt→Prop) (A:DSt→Prop),M (f d) S→g d S fun s1=>tt s1 (fun b s2=>Br b (te s2 (fun x s3=>match pubV x with
      | .d y=>M y (wipeD s3 vs)
      | _=>False) fun _ _ _=>False) (A (wipeD s2 vs))) fun _ _ _=>False) (q:Q (.own (.lst (ds.map f))) S):dLcL g tt te vs Q ds [] S:=
  lcL_fm (fun _=>true) f S ds [] (by simpa using hl) (fun d h M A m _=>step d h M A (m rfl)) (by rw [List.filter_eq_self.mpr (fun _ _=>rfl)];exact q)
end
theorem bools_map {α:Type} (f:α→Bool) (xs:List α):bools (xs.map fun x=>D.bl (f x))=some (xs.map f):=by
  induction xs with
  | nil=>rfl
  | cons x r ih=>show (bools (r.map fun x=>D.bl (f x))).map (f x::·)=_;rw [ih];rfl
theorem up_ss {X:Cx} (W:WX) {sts:List Stmt} {t:TDS} (h:DSs X W sts t):PSs X sts (upS X.K W t):=h
theorem binds_of {K:PySem.W.Frag} {x qual:Str} {params:Arguments} {body:List Stmt} {scope:Scope} {kws:List (Str × V)} {f:Addr} {fd:FuncData} {ps:List Str} (F:FunD K x qual params body scope [] kws f fd)
    (h:∀ (kV doc pm:Value) (an:Option Addr) (cdv ct:Value) (us:List Value),us.length=ps.length→bindArgs (PySem.W.fnOf x qual params body scope .none kV doc pm an cdv ct) ⟨us,[]⟩=pure (ps.zip us)):Binds K fd ps []:=by
  obtain ⟨oc,od,dV,kV,doc,pm,an,cdv,ct,osl,rfl,lk,hcd,hD,hK⟩:=F.ex
  rcases hD with ⟨_,rfl⟩ | ⟨e,_⟩
  · exact Binds.all fun us hl=>h kV doc pm an cdv ct us hl
  · exact absurd rfl e
theorem binds1_of {K:PySem.W.Frag} {x qual p:Str} {params:Arguments} {body:List Stmt} {scope:Scope} {kws:List (Str × V)} {f:Addr} {fd:FuncData} (F:FunD K x qual params body scope [] kws f fd)
    (h:∀ (kV doc pm:Value) (an:Option Addr) (cdv ct:Value) (u:Value),bindArgs (PySem.W.fnOf x qual params body scope .none kV doc pm an cdv ct) ⟨[u],[]⟩=pure [(p,u)]) (s:Shared) (u:Value):BindsTo s fd ⟨[u],[]⟩ [(p,u)]:=by
  obtain ⟨oc,od,dV,kV,doc,pm,an,cdv,ct,osl,rfl,lk,hcd,hD,hK⟩:=F.ex
  rcases hD with ⟨_,rfl⟩ | ⟨e,_⟩
  · exact .of_eq (h kV doc pm an cdv ct u)
  · exact absurd rfl e
abbrev wd (cs:List Nat):Str:=⟨cs.toArray⟩
section
variable {t u:TDS} {te:TD} {E:EndsD} {sl:DSt} {i:Nat}
theorem seq_cut (P:DSt→Prop) (h:∀ N:DSt→Prop,(∀ s,P s→N s)→t { E with nx:=N } sl) (q:∀ s,P s→u E s):dSeq t u E sl:=h _ q
end
theorem textFrom_le (L:Nat):∀ (ts:List Str) (k:Nat) (acc:Str),(∀ t∈ts,t.length≤L)→(PySem.textFrom k acc ts).length≤acc.length + ts.length * (L + 2)
  | [],k,acc,_=>by show acc.length≤_;omega
  | t::r,k,acc,h=>by
    have h1:=textFrom_le L r (k + 1) (acc++(if k > 0 then ", " else "":String)++t) fun y hy=>h y (List.mem_cons_of_mem _ hy)
    have h2:=h t (List.mem_cons_self ..)
    have e:(acc++(if k > 0 then ", " else "":String)++t).length=acc.length + (if k > 0 then 2 else 0) + t.length:=by
      rw [strLen_append,strLen_append]
      split<;>rfl
    rw [e] at h1
    show (PySem.textFrom (k + 1) (acc++(if k > 0 then ", " else "":String)++t) r).length≤_
    rw [List.length_cons,Nat.add_mul]
    have h3:(if k > 0 then 2 else 0)≤2:=by split<;>omega
    omega
theorem join_le (L:Nat):∀ ts:List Str,(∀ t∈ts,t.length≤L)→(Str.join ", " ts).length≤ts.length * (L + 2)
  | [],_=>by show 0≤_;omega
  | [x],h=>by have:=h x (List.mem_cons_self ..);show x.length≤1 * (L + 2);omega
  | x::y::r,h=>by
    have h1:=join_le L (y::r) fun t ht=>h t (List.mem_cons_of_mem _ ht)
    have h2:=h x (List.mem_cons_self ..)
    show (x++", "++Str.join ", " (y::r)).length≤(r.length + 1 + 1) * (L + 2)
    rw [strLen_append,strLen_append]
    have e2:((", ":String):Str).length=2:=rfl
    rw [List.length_cons] at h1
    rw [Nat.add_mul (r.length + 1)]
    omega
structure Shw (n L:Nat) (d:D) (p:PyData):Prop where
  py:d.py=some p
  lay:p.canLay0=true
  dp:p.depth≤n
  sw:p.showable=true
  ln:p.shown.length≤L
inductive ShwAll (n L:Nat):List D→List PyData→Prop where
  | nil:ShwAll n L [] []
  | cons {d:D} {p:PyData} {ds:List D} {ps:List PyData} (h:Shw n L d p) (t:ShwAll n L ds ps):ShwAll n L (d::ds) (p::ps)
namespace Shw
variable {n m L M:Nat} {d:D} {p:PyData}
theorem mono (h:Shw n L d p) (h1:n≤m) (h2:L≤M):Shw m M d p:=⟨h.py,h.lay,Nat.le_trans h.dp h1,h.sw,Nat.le_trans h.ln h2⟩
theorem non:Shw 0 4 .non .none:=⟨rfl,by simp [PyData.canLay0],by simp [PyData.depth],by simp [PyData.showable],by simp [PyData.shown];decide⟩
theorem bl (b:Bool):Shw 0 5 (.bl b) (.bool b):=⟨rfl,by simp [PyData.canLay0],by simp [PyData.depth],by simp [PyData.showable],by cases b<;>simp [PyData.shown]<;>decide⟩
theorem str {z:Str} (h:∀ c∈z.cps.toList,c < 0x110000) (hl:z.length≤m):Shw 0 (10 * m + 2) (.str z) (.str z):=by
  refine ⟨rfl,?_,by simp [PyData.depth],by simp [PyData.showable],?_⟩
  · simp only [PyData.canLay0,PyData.strOk]
    rw [Array.all_eq_true']
    intro c hc
    exact decide_eq_true (h c (Array.mem_def.mp hc))
  · have:=PySem.StrLaws.reprText_len z fun c hc=>Nat.lt_trans (h c hc) (by decide)
    simp only [PyData.shown]
    omega
theorem int {i:Int} {k:Nat} (hk:0 < k) (h2:k≤500) (h0:0≤i) (h:i < 10 ^ k):Shw 0 k (.int i) (.int i):=by
  refine ⟨rfl,by simp [PyData.canLay0],by simp [PyData.depth],?_,?_⟩
  · simp only [PyData.showable]
    refine decide_eq_true ?_
    rcases Nat.eq_zero_or_pos i.natAbs with z | z
    · rw [z];decide
    refine (Nat.log2_lt (by omega)).mpr ?_
    have h3:i.natAbs < 10 ^ k:=by
      have:((i.natAbs:Nat):Int) < ((10 ^ k:Nat):Int):=by rw [Int.natAbs_of_nonneg h0];simpa using h
      exact Int.ofNat_lt.mp this
    refine Nat.lt_of_lt_of_le h3 (Nat.le_trans (Nat.pow_le_pow_right (by decide) h2) ?_)
    decide +kernel
  · simp only [PyData.shown]
    exact toString_length_le h0 hk h
theorem all:∀ {ds:List D} {ps:List PyData},ShwAll n L ds ps→D.pyAll ds=some ps∧PyData.canLayAll0 ps=true∧PyData.depthAll ps≤n∧PyData.showableAll ps=true∧(∀ t∈PyData.shownAll ps,t.length≤L)∧(PyData.shownAll ps).length=ds.length
  | _,_,.nil=>⟨by simp [D.pyAll],by simp [PyData.canLayAll0],by simp [PyData.depthAll],by simp [PyData.showableAll],by simp [PyData.shownAll],by simp [PyData.shownAll]⟩
  | _,_,.cons (d:=d) (p:=p) (ds:=ds) (ps:=ps) h t=>by
    obtain ⟨h1,h2,h3,h4,h5,h6⟩:=all t
    refine ⟨?_,?_,?_,?_,?_,?_⟩
    · unfold D.pyAll;rw [h.py,h1]
    · unfold PyData.canLayAll0;rw [h.lay,h2];rfl
    · unfold PyData.depthAll;exact Nat.max_le.mpr ⟨h.dp,h3⟩
    · unfold PyData.showableAll;rw [h.sw,h4];rfl
    · unfold PyData.shownAll
      intro t ht
      rcases List.mem_cons.mp ht with z | z
      · rw [z];exact h.ln
      · exact h5 t z
    · unfold PyData.shownAll;rw [List.length_cons,List.length_cons,h6]
theorem lst {ds:List D} {ps:List PyData} (h:ShwAll n L ds ps) (hl:ds.length≤m):Shw (n + 1) (m * (L + 2) + 2) (.lst ds) (.list ps):=by
  obtain ⟨h1,h2,h3,h4,h5,h6⟩:=all h
  refine ⟨by unfold D.py;rw [h1];rfl,by unfold PyData.canLay0;exact h2,by unfold PyData.depth;omega,by unfold PyData.showable;exact h4,?_⟩
  unfold PyData.shown listText
  rw [strLen_append]
  have:=textFrom_le L (PyData.shownAll ps) 0 "[" h5
  have e1:(("[":String):Str).length=1:=rfl
  have e2:(("]":String):Str).length=1:=rfl
  rw [h6] at this
  have:=Nat.mul_le_mul_right (L + 2) hl
  omega
theorem tup {ds:List D} {ps:List PyData} (h:ShwAll n L ds ps) (hl:ds.length≤m):Shw (n + 1) (m * (L + 2) + 3) (.tup ds) (.tuple ps):=by
  obtain ⟨h1,h2,h3,h4,h5,h6⟩:=all h
  refine ⟨by unfold D.py;rw [h1];rfl,by unfold PyData.canLay0;exact h2,by unfold PyData.depth;omega,by unfold PyData.showable;exact h4,?_⟩
  unfold PyData.shown tupleText
  rw [strLen_append,strLen_append]
  have e1:(("(":String):Str).length=1:=rfl
  have e2:((if (PyData.shownAll ps).length == 1 then ",)" else ")":String):Str).length≤2:=by split<;>decide
  have e3:(Str.join ", " (PyData.shownAll ps)).length≤m * (L + 2):=by
    have j:=join_le L (PyData.shownAll ps) h5
    rw [h6] at j
    exact Nat.le_trans j (Nat.mul_le_mul_right _ hl)
  omega
end Shw
theorem Shw.shows {n L:Nat} {d:D} {p:PyData} (h:Shw n L d p) (hs:(∃ ds,d=.lst ds)∨∃ ds,d=.tup ds) (h1:n≤64) (h2:L≤szl):Shows d p:=⟨h.py,hs,by simp [SeqAt.shaped,h.lay,Nat.le_trans h.dp h1],h.sw,Nat.le_trans h.ln h2⟩
end DL
namespace DL
open PySem PySem.Spec PyProof.Rows L2
mutual
def datB (K:PySem.W.Frag):D→Value→Bool
  | .non,u=>(match u with | .none=>true | _=>false)
  | .bl b,u=>(match u with | .bool c=>b == c | _=>false)
  | .int i,u=>(match u with | .int j _=>decide (i=j) | _=>false)
  | .str x,u=>(match u with | .str y _=>decide (x=y) | _=>false)
  | .tup ds,u=>(match u with
    | .ref a=>(match K.lookup a with
      | some ⟨.type c,_,.seq its _,_⟩=>decide (c="tuple") && (decide (its.size≤sizeLine) && datsB K ds its.toList)
      | _=>false)
    | _=>false)
  | _,_=>false
def datsB (K:PySem.W.Frag):List D→List Value→Bool
  | [],us=>us.isEmpty
  | d::ds,us=>(match us with
    | u::r=>datB K d u && datsB K ds r
    | []=>false)
end
mutual
theorem datB_ok {K:PySem.W.Frag}:∀ (d:D) (u:Value),datB K d u=true→∃ v,RelV v u∧∀ G,DOk K G v d
  | .non,u,h=>by
    unfold datB at h
    split at h
    · exact ⟨.non,rfl,fun _=>.non⟩
    · cases h
  | .bl b,u,h=>by
    unfold datB at h
    split at h
    · have e:=eq_of_beq h
      exact ⟨.bl b,by rw [e];rfl,fun _=>.bl b⟩
    · cases h
  | .int i,u,h=>by
    unfold datB at h
    split at h
    · rename_i t
      exact ⟨.int i,⟨t,by rw [of_decide_eq_true h]⟩,fun _=>.int i⟩
    · cases h
  | .str x,u,h=>by
    unfold datB at h
    split at h
    · rename_i t
      exact ⟨.str x,⟨t,by rw [of_decide_eq_true h]⟩,fun _=>.str x⟩
    · cases h
  | .tup ds,u,h=>by
    unfold datB at h
    split at h
    · rename_i a
      split at h
      · rename_i c od its n sl q
        obtain ⟨h1,h2⟩:=He.ba h
        obtain ⟨h3,h4⟩:=He.ba h2
        obtain ⟨vs,r,w⟩:=datsB_ok ds its.toList h4
        exact ⟨.ref a,rfl,fun G=>.tup (.inr ⟨_,its,n,q,congrArg Value.type (of_decide_eq_true h1),rfl,of_decide_eq_true h3,r⟩) (w G)⟩
      · cases h
    · cases h
  | .lst _,_,h=>by unfold datB at h;cases h
  | .ins _ _,_,h=>by unfold datB at h;cases h
  | .dk _,_,h=>by unfold datB at h;cases h
  | .dt _,_,h=>by unfold datB at h;cases h
  | .any,_,h=>by unfold datB at h;cases h
  | .raw _,_,h=>by unfold datB at h;cases h
  | .kt _,_,h=>by unfold datB at h;cases h
theorem datsB_ok {K:PySem.W.Frag}:∀ (ds:List D) (us:List Value),datsB K ds us=true→∃ vs,Vals vs us∧∀ G,DAll K G vs ds
  | [],us,h=>by
    unfold datsB at h
    rw [List.isEmpty_iff] at h
    subst h
    exact ⟨[],.nil,fun _=>.nil⟩
  | d::ds,us,h=>by
    unfold datsB at h
    split at h
    · rename_i u r
      obtain ⟨h1,h2⟩:=He.ba h
      obtain ⟨v,r1,w1⟩:=datB_ok d u h1
      obtain ⟨vs,r2,w2⟩:=datsB_ok ds r h2
      exact ⟨v::vs,.cons r1 r2,fun G=>.cons (w1 G) (w2 G)⟩
    · cases h
end
def gloB (K:PySem.W.Frag) (q:Str × D):Bool:=match PySem.W.nsIn K mainGlobals q.1 with
  | some (some u)=>datB K q.2 u
  | _=>false
theorem gloB_ok {K:PySem.W.Frag} {h:Heap} {mg:Str→Option Value} (X:K.In h) (G:h.Ns mainGlobals mg) {x:Str} {d:D} (c:gloB K (x,d)=true):GlobD K mg x d:=by
  unfold gloB at c
  split at c
  · rename_i u e
    obtain ⟨v,r,w⟩:=datB_ok d u c
    exact ⟨v,u,PySem.W.mg_of X G e,r,w⟩
  · cases c
def bltB (K:PySem.W.Frag) (q:Str × String):Bool:=He.eqO (PySem.W.nsIn K mainGlobals q.1) (some (some (.builtin q.2)))
abbrev AlX:Type:=Bool × He.AlD
structure LX where
  cs:List (Str × D)
  bs:List (Str × String)
  xs:List (PySem.W.Frag→Bool)
def lamOk (g:Addr→Option Obj) (K:PySem.W.Frag):Bool:=(lamFns K).all fun q=>PySem.W.codeHdIn K q.1 q.2.1 && ((match g q.2.1 with
  | some o=>He.emptyTab o
  | none=>false) && (lamFns K).all fun q'=>q.2.1 != q'.2.1 || q.2.2 == q'.2.2)
def LX.ok (l:LX) (g:Addr→Option Obj) (K:PySem.W.Frag):Bool:=(l.cs.all (gloB K) && (l.bs.all (bltB K) && l.xs.all fun x=>x K)) && lamOk g K
def valX (fn:List He.DefD):AlX:=(true,He.valD fn)
structure SaysX (l:LX) (fa:List He.Fa) (fn:List He.DefD) (h:Heap) (K:PySem.W.Frag):Prop where
  c:(l.cs.all (gloB K) && (l.bs.all (bltB K) && l.xs.all fun x=>x K))=true
  s:He.SaysD fa fn K
  tc:∀ q∈lamFns K,PySem.W.codeHdIn K q.1 q.2.1=true
  tn:∀ q∈lamFns K,K.lookup q.2.1=none
  te:∀ q∈lamFns K,h.get? q.2.1=some { cls:=.none,data:=.fields #[] }
  tu:LamUq K
section
variable {l:LX} {fa:List He.Fa} {fn:List He.DefD} {h h0:Heap} {K:PySem.W.Frag} {mg:Str→Option Value}
theorem SaysX.glob (S:SaysX l fa fn h0 K) (X:K.In h) (G:h.Ns mainGlobals mg) (i:Nat) {x:Str} {d:D} (e:l.cs[i]?=some (x,d):=by rfl):GlobD K mg x d:=
  gloB_ok X G (List.all_eq_true.mp (He.ba S.c).1 _ (List.mem_of_getElem? e))
theorem SaysX.blt (S:SaysX l fa fn h0 K) (X:K.In h) (G:h.Ns mainGlobals mg) (i:Nat) {x:Str} {b:String} (e:l.bs[i]?=some (x,b):=by rfl):mg x=some (.builtin b):=
  PySem.W.mg_of X G (He.eqO_ok (List.all_eq_true.mp (He.ba (He.ba S.c).2).1 _ (List.mem_of_getElem? e)))
end
theorem lam_mem {K:PySem.W.Frag} {x qual:Str} {params:Arguments} {body:List Stmt} {scope:Scope} {dvs:List V} {kws:List (Str × V)} {f:Addr} {fd:FuncData} (F:FunD K x qual params body scope dvs kws f fd) (h:lamNames.contains qual=true):∃ c,fd.code=.ref c∧(c,He.tabOf K c,qual++".<locals>."++"<lambda>")∈lamFns K:=by
  obtain ⟨oc,od,dV,kV,doc,pm,an,cdv,ct,osl,rfl,lk,hcd,_,_⟩:=F.ex
  obtain ⟨c,rfl⟩:=He.codeIn_ref hcd
  refine ⟨c,rfl,List.mem_filterMap.mpr ⟨_,He.lookup_mem lk,?_⟩⟩
  show (if lamNames.contains qual=true then some (c,He.tabOf K c,qual++".<locals>."++"<lambda>") else none)=_
  rw [if_pos h]
theorem walk_ofX {l:PySem.W.OpenLaw} {n k:Nat} {q:Program} {loose:List Str} {XP:(Str→Option Value)→Heap→Prop} {YP:World→Heap→Prop} {d:DefRec} {x:Str}
    (hn:l.most=some n) (hn2:n≤sizeLine) (hdf:d.params.defaults=[]) (hr:Room k callerA)
    (F:∀ (w:World) (mg:Str→Option Value) (fa:Addr) (h:Heap),YP w h→h.Ns mainGlobals mg→mg d.name=some (.ref fa)→
      ∃ (K:PySem.W.Frag) (fd:FuncData) (sp:Sp),K.In h∧(∀ (s:Shared) (u:Value),BindsTo s fd ⟨[u],[]⟩ [(x,u)])∧
        (∀ q∈lamFns K,h.get? q.2.1=some { cls:=.none,data:=.fields #[] })∧(∀ q∈lamFns K,K.lookup q.2.1=none)∧(∀ q∈lamFns K,PySem.W.codeHdIn K q.1 q.2.1=true)∧
        (∀ (H:Hp) (a:Addr) (ns:List Int),ns.length≤n→(∀ q∈lamFns K,H q.2.1=some (.tbl #[]))→SqL K H a (ns.map V.int)→sp [.ref a] H (fun v _=>v=.bl true) fun _ _ _=>False)∧
        ∀ base:Heap,K.In base→base.Ns mainGlobals mg→(∀ q∈lamFns K,LamX.TabB base mg q.1 q.2.1)→FnR l.prog w K mg base k fa fd [x] sp) :
    PySem.W.WalkO q loose XP YP l.row.toRowW d [] (fun f vs=>PySem.call f vs):=by
  refine Att.attach_call hn hdf fun w s0 s1 mg mb fa o pm cd doc a vs ns G Y ho hd hcd hmg hobj hints hlen hg=>?_
  obtain ⟨K,fd,sp,KX,hb,t1,t2,t3,hsp,hF⟩:=F w mg fa _ Y G.T.g hmg
  have im:∀ {p:Addr × Addr},p∈(lamFns K).map (fun q=>(q.1,q.2.1))→∃ q∈lamFns K,p=(q.1,q.2.1):=fun h=>by
    obtain ⟨q,hq,e⟩:=List.mem_map.mp h
    exact ⟨q,hq,e.symm⟩
  have mi:∀ q∈lamFns K,(q.1,q.2.1)∈(lamFns K).map (fun q=>(q.1,q.2.1)):=fun q hq=>List.mem_map.mpr ⟨q,hq,rfl⟩
  refine law_callG (cs:=(lamFns K).map fun q=>(q.1,q.2.1)) KX G.T.g G.T.b G.T.builtins G.T.nolimit hg (fun p hp=>?_) (fun p hp=>?_) (fun p hp=>?_) G.T.bmain hobj hints (Nat.le_trans hlen hn2) hr (fun base h1 h2 h3=>hF base h1 h2 fun q hq=>h3 _ (mi q hq)) hb fun H hT hS=>hsp H a ns hlen (fun q hq=>hT _ (mi q hq)) hS
  · obtain ⟨q,hq,rfl⟩:=im hp;exact t1 q hq
  · obtain ⟨q,hq,rfl⟩:=im hp;exact t2 q hq
  · obtain ⟨q,hq,rfl⟩:=im hp;exact PySem.W.codeHd_of_K KX (t3 q hq)
section
variable {K:PySem.W.Frag} {G H:Hp} {so:So} {σ:L2.St} {sl:DSt} {i:Nat} {o o':OO} {a:Addr} {u:HO}
theorem own_ntup {K:PySem.W.Frag} {G H:Hp} {a:Addr} {xs:List V} {o:OO} (w:OwnOk K G (upd H a (.tup xs)) a o):False:=by
  cases o with
  | lst ds=>obtain ⟨vs,e,_⟩:=w;rw [upd_same] at e;cases e
  | ins x C fs=>obtain ⟨_,dx,vs,e,_⟩:=w;rw [upd_same] at e;cases e
  | dk kvs=>obtain ⟨vs,e,_⟩:=w;rw [upd_same] at e;cases e
  | dt kvs=>obtain ⟨vs,e,_⟩:=w;rw [upd_same] at e;cases e
theorem PostS.mut (r:Rep K G so σ H sl) (e1:sl[i]?=some (some (.own o))) (e2:σ[i]?=some (some (.ref a))) (w:OwnOk K G (upd H a u) a o'):PostS K G so σ H sl σ (upd H a u) G (sl.set i (some (.own o'))):=by
  have ow:Own sl σ a:=⟨i,o,e1,e2⟩
  obtain ⟨na,ga,sa⟩:=r.nown ow
  have li:i < sl.length:=(List.getElem?_eq_some_iff.mp e1).1
  have ba:∀ b,Own (sl.set i (some (.own o'))) σ b→Own sl σ b:=fun b ⟨j,o2,f1,f2⟩=>by
    rcases get_set f1 with ⟨rfl,f3⟩ | ⟨nj,f3⟩
    · exact ⟨j,o,e1,f2⟩
    · exact ⟨j,o2,f3,f2⟩
  have gn:∀ b q,G b=some q→b≠a:=fun b q h z=>by subst z;rw [ga] at h;cases h
  refine ⟨Ex.refl G,⟨⟨fun b q h=>by rw [upd_ne (gn b q h)];exact r.h.ex b q h,fun b k e=>(r.h.vol b k e).keep (Ex.refl G) (r.h.vol b k e).g (upd_ne fun z=>sa (by rw [← z];exact ⟨k,e⟩)),r.h.ok,tp_upd r.h.tp (fun xs z=>by subst z;exact own_ntup w)⟩,by rw [List.length_set];exact r.len,fun j dv f=>?_,fun j k p p' b f1 f2 g1 g2=>?_,fun j p b f1 f2 z=>?_,fun j p f=>?_⟩,
    fun b q h s n=>by rw [upd_ne (fun z=>n (by rw [z];exact ow))];exact h,fun _ _ g _ _=>g,fun b _ _ n z=>n (ba b z),rfl⟩
  · rcases get_set f with ⟨rfl,f3⟩ | ⟨nj,f3⟩
    · cases f3
      exact ⟨_,e2,a,rfl,ga,sa,w⟩
    · obtain ⟨v,f4,f5⟩:=r.slots j dv f3
      refine ⟨v,f4,?_⟩
      cases dv with
      | d x=>exact f5
      | src=>exact f5
      | own p=>
        obtain ⟨b,rfl,gb,sb,ok⟩:=f5
        have nb:b≠a:=fun z=>nj (r.sep j i p o b f3 e1 f4 (by rw [z];exact e2))
        exact ⟨b,rfl,gb,sb,ok.keep (Ex.refl G) (upd_ne nb)⟩
      | bor p=>
        obtain ⟨b,rfl,sb,ok⟩:=f5
        have nb:b≠a:=fun z=>r.bor j p b f3 f4 (by rw [z];exact ow)
        exact ⟨b,rfl,sb,ok.keep (Ex.refl G) (upd_ne nb)⟩
      | see p=>exact absurd f3 (r.nse j p)
      | mu y D gs=>exact SlOk.muU f5 (Ex.refl _) sa
      | gh _ _=>exact SlOk.ghU f5 (Ex.refl _) sa
  · have h1:∃ q,sl[j]?=some (some (.own q)):=by
      rcases get_set f1 with ⟨rfl,_⟩ | ⟨_,z⟩
      · exact ⟨_,e1⟩
      · exact ⟨_,z⟩
    have h2:∃ q,sl[k]?=some (some (.own q)):=by
      rcases get_set f2 with ⟨rfl,_⟩ | ⟨_,z⟩
      · exact ⟨_,e1⟩
      · exact ⟨_,z⟩
    obtain ⟨q1,h1⟩:=h1
    obtain ⟨q2,h2⟩:=h2
    exact r.sep j k q1 q2 b h1 h2 g1 g2
  · rcases get_set f1 with ⟨_,f3⟩ | ⟨_,f3⟩
    · cases f3
    · exact r.bor j p b f3 f2 (ba b z)
  · rcases get_set f with ⟨_,f3⟩ | ⟨_,f3⟩
    · cases f3
    · exact r.nse j p f3
end
def putD (f:Str) (d:D):List (Str × D)→List (Str × D)
  | []=>[(f,d)]
  | (g,x)::r=>if g=f then (g,d)::r else (g,x)::putD f d r
theorem FAll.put {K:PySem.W.Frag} {G:Hp} {f:Str} {v:V} {d:D} (h:DOk K G v d):∀ {vs:List (Str × V)} {fs:List (Str × D)},FAll K G vs fs→FAll K G (putF f v vs) (putD f d fs)
  | _,_,.nil=>.cons h .nil
  | _,_,.cons (x:=x) q t=>by
    unfold putF putD
    split
    · exact .cons h t
    · exact .cons q (FAll.put h t)
theorem FAll.length {K:PySem.W.Frag} {G:Hp}:∀ {vs:List (Str × V)} {fs:List (Str × D)},FAll K G vs fs→vs.length=fs.length
  | _,_,.nil=>rfl
  | _,_,.cons _ t=>congrArg (· + 1) t.length
def DV.inst:DV→Option (Addr × List (Str × D))
  | .d (.ins C fs)=>some (C,fs)
  | .own (.ins _ C fs)=>some (C,fs)
  | .bor (.ins _ C fs)=>some (C,fs)
  | .see (.ins _ C fs)=>some (C,fs)
  | _=>none
@[irreducible] def fldR (K:PySem.W.Frag) (f:Str) (x:DV) (Q:DV→Prop):Prop:=match x.inst with
  | some (C,fs)=>Cls K C∧NoAttr K C f∧match fs.lookup f with
    | some d=>Q (.d d)
    | none=>False
  | none=>False
section
variable {K:PySem.W.Frag} {G H:Hp} {so:So} {v:V} {dv:DV} {C:Addr} {fs:List (Str × D)}
theorem VOk.inst (h:HRep K G so H) (w:VOk K G so H v dv) (e:dv.inst=some (C,fs)):∃ a dx vs,v=.ref a∧H a=some (.ins C dx vs)∧FAll K G vs fs:=by
  unfold DV.inst at e
  split at e
  · cases e
    cases w with
    | ins g g2 t=>exact ⟨_,_,_,rfl,h.ex _ _ g,t⟩
  · cases e;obtain ⟨a,rfl,_,_,_,dx,vs,h1,_,h2⟩:=w;exact ⟨a,dx,vs,rfl,h1,h2⟩
  · cases e;obtain ⟨a,rfl,_,_,dx,vs,h1,_,h2⟩:=w;exact ⟨a,dx,vs,rfl,h1,h2⟩
  · cases e;obtain ⟨a,rfl,_,_,dx,vs,h1,_,h2⟩:=w;exact ⟨a,dx,vs,rfl,h1,h2⟩
  · cases e
theorem sem_fld {f:Str}:UnSem K (fun x H1 Q=>∃ a C dx fs v,x=.ref a∧H1 a=some (.ins C dx fs)∧Cls K C∧NoAttr K C f∧fs.lookup f=some v∧Q v H1) (fldR K f):=by
  intro G so H x dx Q R h w q hq
  unfold fldR at q
  split at q
  · rename_i C fs e
    obtain ⟨c,n,q⟩:=q
    split at q
    · rename_i d e2
      obtain ⟨a,dd,vs,rfl,h1,h2⟩:=w.inst h e
      obtain ⟨u,e3,e4⟩:=h2.look e2
      exact ⟨a,C,dd,vs,u,rfl,h1,c,n,e3,hq u H G _ (.dat h e4) q⟩
    · exact q.elim
  · exact q.elim
end
section
variable {X:Cx} {W:WX} {e o value:Expr} {f:Str} {pos pos':Pos} {te:TD} {i:Nat}
theorem de_fld {K:PySem.W.Frag} (he:DE X W e te) (hK:X.K=K:=by rfl) (hb:attributeBase e f X.env (eval e X.env)=eval e X.env:=by rfl):DE X W (.Attribute e f pos) (dUn (fldR K f) te):=by
  subst hK
  exact pe_imp (pe_fld he hb) fun _ _ _ h=>up_un sem_fld h
def dFldSet (K:PySem.W.Frag) (te:TD) (i:Nat) (f:Str):TDS:=fun E sl=>te sl (fun y s1=>match s1[i]?,pubV y with
  | some (some (.own (.ins x C fs))),.d d=>Cls K C∧NoAttr K C f∧fs.length < 1000∧E.nx (s1.set i (some (.own (.ins x C (putD f d fs)))))
  | _,_=>False) E.xc
theorem ds_fld {K:PySem.W.Frag} (ho:PE X o (tVar i)) (hv:DE X W value te) (hK:X.K=K:=by rfl) (hs:swapsWith value (some (.Attribute o f pos')) pos.line X.env=pure false:=by rfl):DS X W (.Assign [.Attribute o f pos'] value pos) (dFldSet K te i f):=by
  subst hK
  refine ps_imp (ps_fld ho hv hs) fun D σ H ⟨G,so,sl,E,rep,q,ok⟩=>?_
  refine ⟨G,so,sl,_,E.xc,rep,q,fun y H1 G1 dy s1 p1 z=>?_,ok.xc.ex⟩
  obtain ⟨G2,p2⟩:=p1.pub
  split at z
  · rename_i x C fs d e1 e2
    obtain ⟨c,n,l,z⟩:=z
    obtain ⟨v,f1,a,rfl,ga,sa,ex,dx,vs,h1,gd,h2⟩:=p2.rep.slots i _ e1
    subst ex
    have wy:DOk X.K G2 y d:=by have:=p2.val;rw [e2] at this;exact this
    refine ⟨.ref a,f1,a,C,dx,vs,rfl,h1,c,n,by rw [h2.length];exact l,?_⟩
    exact ok.nx σ _ G2 _ (p2.toPost.s.trans (PostS.mut (o':=.ins a C (putD f d fs)) p2.rep e1 f1 ⟨rfl,dx,_,upd_same,gd,h2.put wy⟩)) z
  · exact z.elim
end
abbrev SpI:=List DV→(List (Str × D)→Prop)→XE'→Prop
structure PostX (K:PySem.W.Frag) (G:Hp) (so:So) (H:Hp) (x:Addr) (H' G':Hp):Prop where
  ex:Ex G G'
  hrep:HRep K G' so H'
  keep:∀ a o,H a=some o→so.Nt a→a≠x→H' a=some o
  frm:∀ a,H a≠none→G a=none→so.Nt a→a≠x→G' a=none
structure PostI (K:PySem.W.Frag) (G:Hp) (so:So) (H:Hp) (x C:Addr) (H' G':Hp) (fs:List (Str × D)):Prop extends PostX K G so H x H' G' where
  own:OwnOk K G' H' x (.ins x C fs)
  gx:G' x=none
def upIn (K:PySem.W.Frag) (C:Addr) (sp:SpI):Sp:=fun vs H Q E=>∃ x vs' G so args QD ED,vs=.ref x::vs'∧HRep K G so H∧OwnOk K G H x (.ins x C [])∧G x=none∧so.Nt x∧VsOk K G so H vs' args∧sp args QD ED∧
  (∀ H' G' fs,PostI K G so H x C H' G' fs→QD fs→Q .non H')∧(∀ cls d H' G' fs,PostX K G so H x H' G'→XdOk K G' H' d fs→ED cls fs→E cls d H')
def endI (x C:Addr) (Q:List (Str × D)→Prop) (sl:DSt):Prop:=∃ fs,sl[0]?=some (some (.own (.ins x C fs)))∧Q fs
theorem start_get0 {N:List Str} {d e:DV} {args:List DV} {i:Nat} (h:(startD N (d::args))[i]?=some (some e)):(i=0∧e=d)∨∃ j,i=j + 1∧args[j]?=some e:=by
  have z:=start_get h
  cases i with
  | zero=>left;simp at z;exact ⟨rfl,z.symm⟩
  | succ j=>right;exact ⟨j,rfl,by simpa using z⟩
theorem start_at {N:List Str} {vs:List V} {i:Nat} {v:V} (h:vs[i]?=some v):(L2.start N vs)[i]?=some (some v):=by
  unfold L2.start
  have hi:i < vs.length:=(List.getElem?_eq_some_iff.mp h).1
  rw [List.getElem?_append_left (by simpa using hi),List.getElem?_map,h];rfl
def noZero:List Sel→Bool
  | []=>true
  | .pos 0::_=>false
  | _::r=>noZero r
theorem pick_cong {v v':V} {vs qs:List V}:∀ {sel:List Sel},noZero sel=true→sel.map (pickV (v::vs) qs)=sel.map (pickV (v'::vs) qs)
  | [],_=>rfl
  | .pos 0::_,h=>by cases h
  | .pos (i + 1)::r,h=>by rw [List.map_cons,List.map_cons,pick_cong (sel:=r) h];rfl
  | .kw j::r,h=>by rw [List.map_cons,List.map_cons,pick_cong (sel:=r) h];rfl
  | .dfl a b::r,h=>by rw [List.map_cons,List.map_cons,pick_cong (sel:=r) h];rfl
def dMake (sp:SpI) (C:Addr) (n m:Nat) (sel:List Sel) (ta tk:TDA):TD:=fun sl Q E=>ta sl (fun xs s1=>tk s1 (fun ys s2=>xs.length=n∧ys.length=m∧sp (sel.map (pickD (.d .non::xs) ys)) (fun fs=>Q (.d (.ins C fs)) s2) fun cls fs=>E cls fs s2) E) E
section
variable {X:Cx} {W:WX} {k n:Nat} {f C:Addr} {fd:FuncData} {ps ks:List Str} {sp:SpI} {sel:List Sel} {x nm:Str} {p pos kpos:Pos} {e:Expr} {es:List Expr} {kws:List Keyword} {ta tk tk':TDA} {te:TD}
theorem run_makeG {pins:List (Addr × Obj)} {σ:L2.St} {H G:Hp} {so:So} {sl:DSt} {s:Shared} {Q:VK} {us ws:List Value} {vs qs:List V} {ds es:List DV} {Q':DV→DSt→Prop} {E:XP} (M:Mk X.K C f) (F:FnR X.prog X.w X.K X.mg X.base k f fd ps (upIn X.K C sp)) (hr:Room (k + 1) X.A) (hg:X.A.guards=some []) (tk:L2N.Takes X W) (hb:Bd X.K fd ps (n + 1) ks (.pos 0::sel)) (hz:noZero sel=true)
    (I:Inv X pins σ H s) (rep:Rep X.K G so σ H sl) (r:Vals vs us) (r2:Vals qs ws) (w:VsOk X.K G so H vs ds) (w2:VsOk X.K G so H qs es) (l1:ds.length=n) (l2:es.length=ks.length)
    (q:sp (sel.map (pickD (.d .non::ds) es)) (fun fs=>Q' (.d (.ins C fs)) sl) fun cls fs=>E cls fs sl) (hq:∀ v H' G' dv sl',PostE X.K G so σ H sl v H' G' dv sl'→Q' dv sl'→Q v H') (hx:XOk X.K W G so σ H sl E) :
    wpAny (model X.prog X.w) X.A (call (.ref C) us (ks.zip ws)) (EP X pins σ Q) X.xe s:=by
  have I2:=Inv.made (C:=C) I
  generalize hxx:s.heap.objs.size + 1=x at I2
  have nx:H x=none:=by rw [← hxx];exact I.hok.fresh (Nat.le_succ _)
  have nd:H s.heap.objs.size=none:=I.hok.fresh (Nat.le_refl _)
  have ne:s.heap.objs.size≠x:=by rw [← hxx];exact Nat.ne_of_lt (Nat.lt_succ_self _)
  generalize hdd:s.heap.objs.size=dx at I2 nd ne
  have nx2:upd H dx (.own x) x=none:=by rw [upd_ne (Ne.symm ne)];exact nx
  have h0:HRep X.K (upd G dx (.own x)) so (upd (upd H dx (.own x)) x (.ins C dx [])):=(rep.h.allocG nd).alloc nx2
  have gx:upd G dx (.own x) x=none:=by rw [upd_ne (Ne.symm ne)];exact rep.h.ex.free nx
  have kp:∀ a o,H a=some o→upd (upd H dx (.own x)) x (.ins C dx []) a=some o:=fun a o e=>by
    rw [upd_ne (ne_of_none e nx),upd_ne (ne_of_none e nd)];exact e
  have eg:Ex G (upd G dx (.own x)):=Ex.new (rep.h.ex.free nd)
  have w':VsOk X.K (upd G dx (.own x)) so (upd (upd H dx (.own x)) x (.ins C dx [])) vs ds:=w.keep eg fun a o e _=>kp a o e
  have w2':VsOk X.K (upd G dx (.own x)) so (upd (upd H dx (.own x)) x (.ins C dx [])) qs es:=w2.keep eg fun a o e _=>kp a o e
  obtain ⟨zs,bt,rz⟩:=hb.to _ (.ref x::us) ws (.ref x::vs) qs I2.kIn (by rw [List.length_cons,← r.length,w.length,l1]) (by rw [← r2.length,w2.length,l2]) (.cons rfl r) r2
  have pk:VsOk X.K (upd G dx (.own x)) so (upd (upd H dx (.own x)) x (.ins C dx [])) (sel.map (pickV (.ref x::vs) qs)) (sel.map (pickD (.d .non::ds) es)):=by
    rw [pick_cong (v':=.non) hz]
    exact VsOk.pick (.cons (d:=.d .non) (show DOk _ _ _ _ from .non) (fun _ e=>(nomatch e)) w') w2' sel fun s hs=>hb.dok s (List.mem_cons_of_mem _ hs)
  subst hdd
  subst hxx
  refine wpAny_call (make_map (f:=f) I.kIn M.makes M.init (beq_iff_eq.mp M.fn) (codeAny_mono (F.run _ X.stack _ _ ⟨Value.ref (s.heap.objs.size + 1)::us,ks.zip ws⟩ zs _ (fun v H2=>v=.non∧Q (.ref (s.heap.objs.size + 1)) H2) (fun cls d H'=>W cls d σ H') (hr.make C us (ks.zip ws)) hg
    (I2.env0.make C us (ks.zip ws)) bt rz ⟨s.heap.objs.size + 1,_,_,so.drop,_,_,_,rfl,h0.drop,⟨rfl,_,[],upd_same,upd_same,.nil⟩,gx,So.drop_nt (rep.h.there nx),pk.drop,q,fun H' G' fs p z=>⟨rfl,?_⟩,fun cls d H' G' fs p z1 z2=>?_⟩) fun r s' hz'=>?_))
  · obtain ⟨_,dx',vs2,e1,e2,e3⟩:=p.own
    have gn:G' (s.heap.objs.size + 1)=none:=p.gx
    have hb':HRep X.K G' so H':=h0.back p.ex p.hrep (fun a C o e nt ho=>p.keep a o ho nt (fun z=>by subst z;exact rep.h.there nx ⟨_,e⟩)) (fun a C e nt n g=>p.frm a n g nt fun z=>by subst z;exact rep.h.there nx ⟨_,e⟩)
    have pv:PostV X.K G so H (.ref (s.heap.objs.size + 1)) H' (upd G' (s.heap.objs.size + 1) (.ins C dx' vs2)) (.d (.ins C fs)):=
      ⟨eg.trans (p.ex.trans (Ex.new gn)),hrep_pub hb' e1 gn (rep.h.there nx),fun a o e sa=>p.keep a o (kp a o e) (So.drop_nq sa) (ne_of_none e nx),fun a n1 g sa=>by
        have n2:a≠s.heap.objs.size + 1:=fun z=>by rw [z] at n1;exact n1 nx
        have n3:a≠s.heap.objs.size:=fun z=>by rw [z] at n1;exact n1 nd
        rw [upd_ne n2]
        exact p.frm a (by rw [upd_ne n2,upd_ne n3];exact n1) (by rw [upd_ne n3];exact g) (So.drop_nt sa) n2,
        .ins upd_same (Ex.new gn _ _ e2) (e3.mono (Ex.new gn)),fun _ _ e=>(nomatch e),fun _ e=>(nomatch e)⟩
    exact hq _ H' _ _ sl (pv.slots rep) z
  · have hb':HRep X.K G' so H':=h0.back p.ex p.hrep (fun a C o e nt ho=>p.keep a o ho nt (fun z=>by subst z;exact rep.h.there nx ⟨_,e⟩)) (fun a C e nt n g=>p.frm a n g nt fun z=>by subst z;exact rep.h.there nx ⟨_,e⟩)
    have pn:PostV X.K G so H .non H' G' (.d .non):=⟨eg.trans p.ex,hb',fun a o e sa=>p.keep a o (kp a o e) (So.drop_nq sa) (ne_of_none e nx),fun a n1 g sa=>by
        have n2:a≠s.heap.objs.size + 1:=fun z=>by rw [z] at n1;exact n1 nx
        have n3:a≠s.heap.objs.size:=fun z=>by rw [z] at n1;exact n1 nd
        exact p.frm a (by rw [upd_ne n2,upd_ne n3];exact n1) (by rw [upd_ne n3];exact g) (So.drop_nt sa) n2,.non,fun _ _ e=>(nomatch e),fun _ e=>(nomatch e)⟩
    exact hx cls d H' G' fs sl (pn.slots rep).toPost z1 z2
  · cases r with
    | error e=>exact tk e s' (L2N.XE.of_call I2 (fun _ _ _ z=>z) hz')
    | ok fl=>
      cases fl with
      | ret u=>
        obtain ⟨v,H',I3,rv,ev,q3⟩:=I2.after hz'
        subst ev
        exact ⟨rv,⟨V.ref (s.heap.objs.size + 1),H',I3,rfl,q3⟩⟩
      | next=>exact False.elim hz'
      | brk=>exact False.elim hz'
      | cont=>exact False.elim hz'
theorem de_make (M:Mk X.K C f) (F:FnR X.prog X.w X.K X.mg X.base k f fd ps (upIn X.K C sp)) (hr:Room (k + 1) X.A) (hgd:X.A.guards=some []) (tk:L2N.Takes X W) (hb:Bd X.K fd ps (n + 1) [] (.pos 0::sel)) (hz:noZero sel=true) (hg:Gl X x) (hm:X.mg x=some (.ref C))
    (ha:DA X W (e::es) ta) (hdb:(x == ("__debug__":Str))=false:=by decide) (he:starEach (e::es) X.env=(false,eval e X.env)::starEach es X.env:=by rfl) (hpl:(backTo pos (starEach es X.env)).any (·.1)=false:=by rfl) :
    DE X W (.Call (.Name x p) (e::es) [] pos) (dMake sp C n 0 sel ta dNil):=by
  refine ⟨fun pins s σ H Q I ⟨G,so,sl,Q',E,rep,q,hq,hx⟩=>wpAny_Call_Name_kw (ld_glob I hg hm ?_ hdb)⟩
  refine PySem.W.callWith_K (h₀:=X.base) I.ok.mod.kin M.kp (thn (ha.run pos pins s σ H (fun vs H1=>∃ G1 ds s1,Post X.K G so σ H sl H1 G1 s1∧VsOk X.K G1 so H1 vs ds∧ds.length=n∧sp (sel.map (pickD (.d .non::ds) [])) (fun fs=>Q' (.d (.ins C fs)) s1) fun cls fs=>E cls fs s1) I
    ⟨G,so,sl,_,E,rep,q,fun vs H1 G1 ds s1 p1 w z=>⟨G1,ds,s1,p1,w,z.1,z.2.2⟩,hx⟩) fun us s1 ⟨vs,H1,I1,r,G1,ds,sl1,p1,w,l1,z⟩=>⟨I1.kIn,?_⟩) he hpl
  exact run_makeG (ws:=[]) (qs:=[]) (es:=[]) M F hr hgd tk hb hz I1 p1.rep r .nil w .nil l1 rfl z (fun v H' G' dv sl' pe z'=>hq v H' G' dv sl' (p1.thenE pe) z') (hx.step p1)
end
def dMeth (sp:SpD) (C:Addr) (m:Str) (n l:Nat) (sel:List Sel) (to:TD) (ta tk:TDA):TD:=fun sl Q E=>to sl (fun x s0=>match pubV x with
  | .d (.ins D fs)=>D=C∧fs.lookup m=none∧ta s0 (fun xs s1=>tk s1 (fun ys s2=>xs.length=n∧ys.length=l∧sp (sel.map (pickD (.d (.ins D fs)::xs) ys)) (fun v=>Q v s2) fun cls fs=>E cls fs s2) E) E
  | _=>False) E
section
variable {X:Cx} {W:WX} {k n:Nat} {f C:Addr} {fd:FuncData} {ps ks:List Str} {sp:SpD} {sel:List Sel} {m nm:Str} {p pos apos kpos:Pos} {o e:Expr} {es:List Expr} {kws:List Keyword} {ta tk tk':TDA} {to te:TD} {pl:Sem Bool}
theorem de_meth0 (he:DE X W o to) (c:Cls X.K C) (hm:Meth X.K C m f) (F:FnG X.prog X.w X.K X.mg X.base k f fd ps sp) (hr:Room k X.A) (hgd:X.A.guards=some []) (tk:L2N.Takes X W) (hb:Bd X.K fd ps (0 + 1) [] sel)
    (ht:eval (.Call (.Attribute o m apos) [] [] pos) X.env=(do
      let ov ← eval o X.env
      standAt apos.atName
      let (f,first) ← holding [ov] (getMethod ov m pl)
      callWith pos f first (backTo pos (starEach [] X.env)) (backToKw pos (keywordEach [] X.env))):=by rfl) :
    DE X W (.Call (.Attribute o m apos) [] [] pos) (dMeth sp C m 0 0 sel to dNil dNil):=by
  refine ⟨fun pins s σ H Q I ⟨G,so,sl,Q',E,rep,q,hq,hx⟩=>?_⟩
  refine PySem.W.methodCall_KW (pl:=pl) (thn (he.run pins s σ H (fun v H1=>∃ G1 s1 fs,PostE X.K G so σ H sl v H1 G1 (.d (.ins C fs)) s1∧fs.lookup m=none∧sp (sel.map (pickD [.d (.ins C fs)] [])) (fun v=>Q' v s1) fun cls fs=>E cls fs s1) I
    ⟨G,so,sl,_,E,rep,q,fun v H1 G1 dv s1 p1 z=>?_,hx⟩) fun u s1 ⟨x,H1,I1,rx,G1,sl1,fs,p1,l,z⟩=>?_) ht
  · obtain ⟨G2,p2⟩:=p1.pub
    split at z
    · rename_i D fs ed
      obtain ⟨rfl,l,z⟩:=z
      exact ⟨G2,s1,fs,by rw [← ed];exact p2,l,z.2.2⟩
    · exact z.elim
  · obtain ⟨a,dx,vs,ex,ea,fa⟩:=VOk.inst p1.rep.h p1.val rfl
    subst ex
    obtain rfl:u=Value.ref a:=rx
    refine getmeth_ok I1 ea c hm (fa.lookN l) ?_
    exact PySem.W.callWith_K0 (first:=[.ref a]) I1.kIn hm.kp (run_fnG (us:=[.ref a]) (vs:=[.ref a]) (ds:=[.d (.ins C fs)]) (ws:=[]) (qs:=[]) (es:=[]) F hr hgd tk hb I1 p1.rep (.cons rfl .nil) .nil (.cons p1.val (fun _ e=>(nomatch e)) .nil) .nil rfl rfl z (fun v H' G' dv sl' pe z'=>hq v H' G' dv sl' (p1.toPost.thenE pe) z') (hx.step p1.toPost))
end
section
variable {X:Cx} {K:PySem.W.Frag} {W:WX} {a b:Expr} {ta tb:TD} {pos:Pos}
def rMulU:R2:=fun x y H Q=>(rI CMulW fun i j=>.int (i * j)) x y H Q∨rRep x y H Q
theorem op_mulU:OpR X (binaryOp .Mult) rMulU:=fun pins s σ H x y v u Q I rx ry h=>h.elim (fun h=>op_mulW pins s σ H x y v u Q I rx ry h) fun h=>op_rep pins s σ H x y v u Q I rx ry h
theorem DAll.rep {K:PySem.W.Frag} {G:Hp} {vs:List V} {ds:List D} (h:DAll K G vs ds):∀ n:Nat,DAll K G (List.replicate n vs).flatten (List.replicate n ds).flatten
  | 0=>.nil
  | n + 1=>by rw [List.replicate_succ,List.replicate_succ,List.flatten_cons,List.flatten_cons];exact h.append (h.rep n)
theorem sem_mul:OpSem K rMulU mulR:=by
  intro G so H x y dx dy Q R h w1 w2 q k
  unfold mulR at q
  split at q
  · cases w1;cases w2
    exact .inl ⟨_,_,rfl,rfl,q.1,k _ H G _ (.dat h (.int _)) q.2⟩
  · rename_i c _
    cases w2
    split at q
    · rename_i ds e
      obtain ⟨l,vs,rfl,h1,h2⟩:=w1.list h e
      obtain ⟨q1,q2,q3,q4⟩:=q
      exact .inr ⟨l,c,vs,rfl,rfl,h1,q1,q2,by rw [h2.length];exact q3,fun p np=>k _ _ G _ (.list h np (h2.rep _)) q4⟩
    · exact q.elim
  · exact q.elim
theorem de_mul (ha:DE X W a ta) (hb:DE X W b tb):DE X W (.BinOp a .Mult b pos) (dOp mulR ta tb):=de_op op_mulU sem_mul ha hb
end
theorem l_mulL {Q:DV→Prop} {v:DV} {ds:List D} {k:Int} (hv:v.items=some ds) (h1:-(2 ^ 63)≤k) (h2:k < 2 ^ 63) (h3:ds.length * k.toNat≤szl) (q:Q (.own (.lst (List.replicate k.toNat ds).flatten))):mulR v (.d (.int k)) Q:=by
  rcases items_cases hv with e | e | e | e<;>subst e<;>(unfold mulR;dsimp only [DV.items];exact ⟨h1,h2,h3,q⟩)
@[irreducible] def isBR (neg:Bool):DV→DV→(DV→Prop)→Prop
  | .d (.bl a),.d (.bl b),Q=>Q (.d (.bl (if neg then !decide (a=b) else decide (a=b))))
  | _,_,_=>False
section
variable {X:Cx} {K:PySem.W.Frag}
theorem sem_isnotB:OpSem K (fun x y H Q=>∃ a b,x=.bl a∧y=.bl b∧Q (.bl (!decide (a=b))) H) (isBR true):=by
  intro G so H x y dx dy Q R h w1 w2 q k
  unfold isBR at q
  split at q
  · cases w1;cases w2
    exact ⟨_,_,rfl,rfl,k _ H G _ (.dat h (.bl _)) q⟩
  · exact q.elim
end
theorem l_isB {Q:DV→Prop} {n a b:Bool} (q:Q (.d (.bl (if n then !decide (a=b) else decide (a=b))))):isBR n (.d (.bl a)) (.d (.bl b)) Q:=by unfold isBR;exact q
def dPar (i j:Nat) (ta:TDA):TDS:=fun E sl=>ta sl (fun vs s1=>match vs with
  | [.d x,.d y]=>E.nx ((s1.set i (some (.d x))).set j (some (.d y)))
  | _=>False) E.xc
theorem PostE.ofD {K:PySem.W.Frag} {G G1:Hp} {so:So} {σ:L2.St} {H H1:Hp} {sl s1:DSt} {v:V} {x:D} (p:Post K G so σ H sl H1 G1 s1) (w:DOk K G1 v x):PostE K G so σ H sl v H1 G1 (.d x) s1:=
  { p with val:=w,new:=fun _ _ e=>(nomatch e),sepv:=fun _ _ e=>e.elim (fun e=>(nomatch e)) fun e=>(nomatch e),nbs:=fun _ _ _ _ e=>(nomatch e) }
section
variable {X:Cx} {W:WX} {pos:Pos} {i j:Nat} {x y:Str} {a b:Expr} {ta:TDA}
theorem ds_par {px py pt kt k2 pt2} (hc:X.calm=true) (hN:X.N.Nodup) (hi:X.N[i]?=some x) (hj:X.N[j]?=some y) (hij:i≠j)
    (hx:X.env.scope.names.lookup x=some .local) (hy:X.env.scope.names.lookup y=some .local) (ha:DA X W [a,b] ta)
    (hw:swappedStores [.Tuple [.Name x px,.Name y py] kt pt] (.Tuple [a,b] k2 pt2) X.env=pure (some [x,y]))
    (hs:swapsWithSole [.Tuple [.Name x px,.Name y py] kt pt] (.Tuple [a,b] k2 pt2) pos.line X.env=pure false:=by rfl) :
    DS X W (.Assign [.Tuple [.Name x px,.Name y py] kt pt] (.Tuple [a,b] k2 pt2) pos) (dPar i j ta):=by
  refine ps_len (ps_par hc hN hi hj hij hx hy ha hw hs) fun D σ H hl ⟨G,so,sl,E,rep,q,ok⟩=>?_
  have li:i < σ.length:=by rw [hl];exact (List.getElem?_eq_some_iff.mp hi).1
  have lj:j < σ.length:=by rw [hl];exact (List.getElem?_eq_some_iff.mp hj).1
  refine ⟨G,so,sl,_,E.xc,rep,q,fun vs H1 G1 ds s1 p w z=>?_,ok.xc.ex⟩
  split at z
  · rename_i d1 d2
    obtain ⟨v1,v2,rfl,w1,w2,_⟩:=w.v2
    have n1:∀ o,DV.d d1≠.see o:=fun _ e=>(nomatch e)
    have n2:∀ o,DV.d d2≠.see o:=fun _ e=>(nomatch e)
    have p1:=(PostE.ofD (x:=d1) p w1).set li n1
    have p2:=(PostE.ofD (x:=d2) (Post.refl p1.rep) w2).set (i:=j) (by rw [List.length_set];exact lj) n2
    exact ⟨v1,v2,rfl,ok.nx _ H1 G1 _ (p1.trans p2) z⟩
  · exact z.elim
end
theorem par_cut {ta:TDA} {u:TDS} {E:EndsD} {sl s':DSt} {i j:Nat} (x y:D) (h:∀ Q:List DV→DSt→Prop,Q [.d x,.d y] s'→ta sl Q E.xc) (q:u E ((s'.set i (some (.d x))).set j (some (.d y)))):dSeq (dPar i j ta) u E sl:=h _ q
def tysD:List D→Option (List String)
  | []=>some []
  | .raw (.ty T)::r=>(tysD r).map (T::·)
  | _=>none
def kitBs (t:String):List String→Option Bool
  | []=>some false
  | T::r=>match kitB t T with
    | some true=>some true
    | some false=>kitBs t r
    | none=>none
def rIsiS (K:PySem.W.Frag):List V→Hp→VK→Prop:=fun xs H Q=>∃ (x:V) (tp:Addr) (cs:List V) (t:Value) (us:List Value) (b:Bool),xs=[x,.ref tp]∧SqT K H tp cs∧Paired ClsV cs us∧TyX K H x t∧PySem.W.kitAny K t us=some b∧Q (.bl b) H
theorem call_isiS {X:Cx}:CallR X (.builtin "isinstance") (rIsiS X.K):=by
  intro pins s σ H xs us Q I r h
  obtain ⟨x,tp,cs,t,ws,b,rfl,hT,k,ty,e,q⟩:=h
  obtain ⟨u1,u2,rfl,r1,r2⟩:=vals2 r
  cases (show u2=Value.ref tp from r2)
  obtain ⟨P,Z,p,hx⟩:=kit_of I r1 ty
  obtain ⟨its,rv,⟨o,h1,h2,n,h3⟩,_⟩:=I.tuple hT
  have e3:=ClsV.all k rv
  subst e3
  obtain ⟨oc,od,dt,sl⟩:=o
  simp only at h2 h3
  subst h2 h3
  exact PySem.W.kia_tup Z I.kIn p h1 e hx fun tk=>⟨.bl b,H,I.tok tk,rfl,q⟩
@[irreducible] def isiTR:List DV→(DV→Prop)→Prop
  | [v,.d (.tup ts)],Q=>match v.dat,tysD ts with
    | some d,some Ts=>match tyD d with
      | some t=>match kitBs t Ts with
        | some b=>Q (.d (.bl b))
        | none=>False
      | none=>False
    | _,_=>False
  | _,_=>False
theorem tys_ok {K:PySem.W.Frag} {G:Hp}:∀ {vs:List V} {ts:List D} {Ts:List String},DAll K G vs ts→tysD ts=some Ts→Paired ClsV vs (Ts.map Value.type)
  | _,_,_,.nil,e=>by cases e;exact .nil
  | _,_,_,.cons (d:=.raw (.ty T)) h t,e=>by
    unfold tysD at e
    rename_i ds
    cases z:tysD ds with
    | none=>rw [z] at e;cases e
    | some Us=>rw [z] at e;cases e;cases h;exact .cons (.ty _) (tys_ok t z)
theorem kits_ok {K:PySem.W.Frag} {t:String}:∀ {Ts:List String} {b:Bool},kitBs t Ts=some b→PySem.W.kitAny K (.type t) (Ts.map Value.type)=some b
  | [],_,e=>by cases e;rfl
  | T::r,b,e=>by
    unfold kitBs at e
    rw [List.map_cons]
    unfold PySem.W.kitAny
    split at e
    · rename_i h;cases e;rw [kit_ty h]
    · rename_i h;rw [kit_ty h];exact kits_ok e
    · cases e
theorem sem_isiT {K:PySem.W.Frag}:CallSem K (rIsiS K) isiTR:=by
  intro G so H xs dxs Q R h w q k
  unfold isiTR at q
  split at q
  · obtain ⟨v,v',rfl,w1,w2,_⟩:=w.v2
    split at q
    · rename_i d Ts e1 e2
      split at q
      · rename_i t et
        split at q
        · rename_i b eb
          cases w2 with
          | tup sq al=>exact ⟨_,_,_,_,_,b,rfl,ex_t h.ex sq,tys_ok al e2,ty_ok h w1 e1 et,kits_ok eb,k _ H G _ (.dat h (.bl _)) q⟩
        · exact q.elim
      · exact q.elim
    · exact q.elim
  · exact q.elim
theorem l_isiT {Q:DV→Prop} {v:DV} {d:D} {ts:List D} {Ts:List String} {t:String} {b:Bool} (h1:v.dat=some d) (h2:tysD ts=some Ts) (h3:tyD d=some t) (h4:kitBs t Ts=some b) (q:Q (.d (.bl b))):isiTR [v,.d (.tup ts)] Q:=by
  unfold isiTR
  dsimp only
  rw [h1,h2]
  dsimp only
  rw [h3]
  dsimp only
  rw [h4]
  exact q
abbrev rt (n d:Int):D:=.tup [.int n,.int d]
def rD (q:Rat):D:=rt q.num (q.den:Int)
def gcI (n d:Int):Int:=((Nat.gcd n.natAbs d.natAbs:Nat):Int)
theorem gcI_pos {n d:Int} (h:0 < d):0 < gcI n d:=by
  unfold gcI
  have:0 < Nat.gcd n.natAbs d.natAbs:=Nat.gcd_pos_of_pos_right _ (by omega)
  omega
theorem low_num {n d:Int} (h:0 < d):(Rat.divInt n d).num=n / gcI n d:=by
  rw [Rat.num_divInt,Int.sign_eq_one_of_pos h,Int.one_mul]
  unfold gcI
  rw [Int.gcd_comm];rfl
theorem low_den {n d:Int} (h:0 < d):((Rat.divInt n d).den:Int)=d / gcI n d:=by
  rw [Rat.den_divInt,if_neg (by omega),Int.gcd_comm]
  show ((d.natAbs / Nat.gcd n.natAbs d.natAbs:Nat):Int)=d / ((Nat.gcd n.natAbs d.natAbs:Nat):Int)
  rw [Int.natCast_ediv,Int.natAbs_of_nonneg (by omega)]
theorem rD_low {n d:Int} (h:0 < d):rD (Rat.divInt n d)=rt (n / gcI n d) (d / gcI n d):=by
  unfold rD;rw [low_num h,low_den h]
theorem den_pos (q:Rat):(0:Int) < (q.den:Int):=by have:=q.den_pos;omega
theorem rat_self (q:Rat):Rat.divInt q.num (q.den:Int)=q:=Rat.num_divInt_den q
structure Nb (B:Nat) (q:Rat):Prop where
  n:q.num.natAbs < 2 ^ B
  d:q.den < 2 ^ B
theorem Nb.mono {B C:Nat} {q:Rat} (h:Nb B q) (le:B≤C):Nb C q:=⟨Nat.lt_of_lt_of_le h.n (Nat.pow_le_pow_right (by decide) le),Nat.lt_of_lt_of_le h.d (Nat.pow_le_pow_right (by decide) le)⟩
def kindD (d:D):Bool:=(tyD d).isSome
def wholeD:D→Bool
  | .int _=>true
  | _=>false
def numD (lo hi:Int):D→Bool
  | .int i=>decide (lo≤i) && decide (i≤hi)
  | _=>false
def ratioD:D→Bool
  | .tup [.int a,.int b]=>decide (1≤b) && decide (gcI a b=1)
  | _=>false
theorem ratioD_ne {ds:List D} (h:ds.length≠2):ratioD (.tup ds)=false:=by
  unfold ratioD
  split
  · rename_i e;cases e;exact absurd rfl h
  · rfl
def pairK:D→Prop
  | .tup [a,b]=>kindD a=true∧kindD b=true
  | .kt _=>False
  | _=>True
def ratOf:D→Option Rat
  | .int i=>some (i:Rat)
  | .tup [.int a,.int b]=>if 1≤b∧gcI a b=1 then some (Rat.divInt a b) else none
  | _=>none
theorem ratioD_rD (q:Rat):ratioD (rD q)=true:=by
  have h:=q.reduced
  have h0:=den_pos q
  show (decide ((1:Int)≤q.den) && decide (gcI q.num q.den=1))=true
  have e:gcI q.num q.den=1:=by
    unfold gcI
    have:Nat.gcd q.num.natAbs (q.den:Int).natAbs=1:=by simpa using h
    rw [this];rfl
  rw [e]
  have:(1:Int)≤q.den:=by omega
  simp [this]
theorem ratOf_rD (q:Rat):ratOf (rD q)=some q:=by
  have h:=ratioD_rD q
  have h2:(decide ((1:Int)≤q.den) && decide (gcI q.num q.den=1))=true:=h
  rw [Bool.and_eq_true,decide_eq_true_eq,decide_eq_true_eq] at h2
  show (if 1≤(q.den:Int)∧gcI q.num q.den=1 then some (Rat.divInt q.num q.den) else none)=some q
  rw [if_pos h2,rat_self]
theorem rD_of {a b:Int} (h1:1≤b) (h2:gcI a b=1):rD (Rat.divInt a b)=rt a b:=by
  rw [rD_low (by omega),h2,Int.ediv_one,Int.ediv_one]
section
variable {prog:Program} {w:World} {A:Around} {E:Value→Shared→Prop} {s:Shared} {K:PySem.W.Frag} {C x t:Addr} {name:Str} {v:Value} {B:String} {bmB:List Value} {Q:Unit→Shared→Prop}
structure StK (K:PySem.W.Frag) (C:Addr) (bmB:List Value):Prop where
  sa:PySem.W.findIn K (.ref C) "__setattr__"=some (some (.builtin "object.__setattr__"))
  ov:PySem.W.excOver K C bmB=true
  hd:PySem.W.hasDictIn K C=true
theorem set_first (SF:PySem.StoreFacts B bmB "object.__setattr__" "object") (X:K.In s.heap) (T:StK K C bmB) (hx:s.heap.get? x=some (PySem.W.excObj C t none .none)) (ht:PySem.W.takerIn K C name=some none)
    (h:∀ h' tk dx,(∀ b o,b≠x→s.heap.get? b=some o→h'.get? b=some o)→s.heap.get? dx=none→h'.get? x=some (PySem.W.excObj C t (some dx) .none)→h'.Ns1 dx (fun y=>if y=name then some v else none)→Q () { s with heap:=h',toks:=tk }) :
    wpAny (model prog w) A (setAttr (.ref x) name v) Q E s:=by
  have I:PySem.W.InstAt s.heap x (PySem.W.excObj C t none .none) C none:=⟨hx,rfl,rfl,trivial⟩
  refine PySem.W.set_plain X I T.sa (PySem.W.osa_openX (s:={ s with toks:=s.toks + 1 }) SF X I T.ov ht fun b=>?_)
  obtain ⟨cd,hc,hd⟩:=PySem.W.any_some T.hd
  refine wpAny_bind (wpAny_pure (wpAny_bind (PySem.W.instanceDict_exc (s:={ s with toks:=s.toks + 1 }) hx (PySem.W.looks_clsIn X hc) hd ?_)))
  show wpAny _ _ (Builtin.ObjectAttr.storeInDict s.heap.objs.size _ name v) _ _ _
  have lt:=Heap.lt_size hx
  refine HandSPX.store_in_new ⟨_,#[],_,(Heap.get?_update_ne _ _ _ _ (Nat.ne_of_gt lt)).trans (Heap.get?_push_at rfl rfl),rfl,fun e he=>absurd he (by simp),fun _=>rfl⟩ fun h' tk hn hs=>?_
  refine h h' tk s.heap.objs.size (fun b o hb ho=>?_) (Heap.get?_none_of_le (Nat.le_refl _)) ?_ hn
  · exact (hs.2 b (Nat.ne_of_lt (Heap.lt_size ho))).trans ((Heap.get?_update_ne _ _ _ _ hb).trans (Heap.get?_push_of_some _ ho))
  · refine (hs.2 x (Nat.ne_of_lt lt)).trans ?_
    exact Heap.get?_update_self _ (Heap.get?_push_of_some _ hx) rfl
theorem set_next {dx:Addr} {m0:Str→Option Value} {nl:List Str} (SF:PySem.StoreFacts B bmB "object.__setattr__" "object") (X:K.In s.heap) (T:StK K C bmB) (hx:s.heap.get? x=some (PySem.W.excObj C t (some dx) .none)) (ht:PySem.W.takerIn K C name=some none)
    (hn:s.heap.Ns1 dx m0) (hw:Within m0 nl) (hz:nl.length≤1000)
    (h:∀ h' tk,(∀ b o,b≠dx→s.heap.get? b=some o→h'.get? b=some o)→h'.Ns1 dx (fun y=>if y=name then some v else m0 y)→Q () { s with heap:=h',toks:=tk }) :
    wpAny (model prog w) A (setAttr (.ref x) name v) Q E s:=by
  obtain ⟨oD,_,_,hoD,_,_⟩:=hn.count hw
  have I:PySem.W.InstAt s.heap x (PySem.W.excObj C t (some dx) .none) C (some oD):=⟨hx,rfl,rfl,hoD⟩
  refine PySem.W.set_plain X I T.sa (PySem.W.osa_openX (s:={ s with toks:=s.toks + 1 }) SF X I T.ov ht fun b=>?_)
  obtain ⟨cd,hc,hd⟩:=PySem.W.any_some T.hd
  refine wpAny_bind (wpAny_pure (wpAny_bind (wpAny_bind (wpAny_loadPart hx (wpAny_bind (PySem.W.Looks.here (s:={ s with toks:=s.toks + 1 }) (PySem.W.looks_clsIn X hc) ?_))))))
  rw [hd]
  refine wpAny_pure (a:=some dx) ?_
  exact PySem.OEX.store_in_old hn hw hz fun h' tk hn' hs=>h h' tk (fun b o hb ho=>(hs.2 b hb).trans ho) hn'
end
inductive Sts (self:Str):List Stmt→List (Str × (Str ⊕ Str))→Prop
  | nil:Sts self [] []
  | con {f m:Str} {j:Nat} {p1 p2 p3 pos:Pos} {rest:List Stmt} {fs:List (Str × (Str ⊕ Str))} (hs:∀ env,swapsWith (.Constant (.str m) j p3) (some (.Attribute (.Name self p1) f p2)) pos.line env=pure false) (r:Sts self rest fs) :
      Sts self (.Assign [.Attribute (.Name self p1) f p2] (.Constant (.str m) j p3) pos::rest) ((f,.inl m)::fs)
  | var {f x:Str} {p1 p2 p3 pos:Pos} {rest:List Stmt} {fs:List (Str × (Str ⊕ Str))} (hs:∀ env,swapsWith (.Name x p3) (some (.Attribute (.Name self p1) f p2)) pos.line env=pure false) (hd:(x == ("__debug__":Str))=false) (r:Sts self rest fs) :
      Sts self (.Assign [.Attribute (.Name self p1) f p2] (.Name x p3) pos::rest) ((f,.inr x)::fs)
def fldV (val:Str→V):List (Str × (Str ⊕ Str))→List (Str × V)→List (Str × V)
  | [],acc=>acc
  | (f,.inl m)::r,acc=>fldV val r ((f,.str m)::acc)
  | (f,.inr x)::r,acc=>fldV val r ((f,val x)::acc)
structure ExAt (h1:Heap) (C e t:Addr) (fs:List (Str × V)) (s:Shared):Prop where
  keep:∀ b o,b≠e→h1.get? b=some o→s.heap.get? b=some o
  at_:(fs=[]∧s.heap.get? e=some (PySem.W.excObj C t none .none))∨∃ dx mA,h1.get? dx=none∧s.heap.get? e=some (PySem.W.excObj C t (some dx) .none)∧s.heap.Ns1 dx mA∧∀ f,RelO (fs.lookup f) (mA f)
section
variable {prog:Program} {w:World} {A:Around} {E:Value→Shared→Prop} {K:PySem.W.Frag} {C e t L:Addr} {B:String} {bmB:List Value} {h1:Heap} {env:Env} {m:Str→Option Value} {self:Str} {val:Str→V}
theorem run_set {f:Str} {u:Value} {y:V} {fs:List (Str × V)} {s:Shared} {Q:Unit→Shared→Prop} (SF:PySem.StoreFacts B bmB "object.__setattr__" "object") (T:StK K C bmB) (X:K.In s.heap) (a:ExAt h1 C e t fs s) (e1:∃ o,h1.get? e=some o) (hl:fs.length≤900) (ht:PySem.W.takerIn K C f=some none) (ry:RelV y u)
    (h:∀ h' tk,ExAt h1 C e t ((f,y)::fs) { s with heap:=h',toks:=tk }→Q () { s with heap:=h',toks:=tk }):wpAny (model prog w) A (setAttr (.ref e) f u) Q E s:=by
  rcases a.at_ with ⟨rfl,hx⟩ | ⟨dx,mA,nd,hx,hn,rel⟩
  · refine set_first SF X T hx ht fun h' tk dx k nd hx' hn=>h h' tk ⟨fun b o hb ho=>k b o hb (a.keep b o hb ho),.inr ⟨dx,_,?_,hx',hn,relO_put (fs:=[]) ry fun g=>True.intro⟩⟩
    cases z:h1.get? dx with
    | none=>rfl
    | some o=>
      by_cases q:dx=e
      · subst q;rw [hx] at nd;cases nd
      · rw [a.keep dx o q z] at nd;cases nd
  · refine set_next SF X T hx ht hn (within_of rel) (by rw [List.length_map];omega) fun h' tk k hn'=>h h' tk ⟨fun b o hb ho=>k b o (fun z=>?_) (a.keep b o hb ho),.inr ⟨dx,_,nd,k e _ (fun z=>?_) hx,hn',relO_put ry rel⟩⟩
    · rw [z,nd] at ho;cases ho
    · obtain ⟨o,ho⟩:=e1
      rw [z,nd] at ho;cases ho
theorem run_sts (SF:PySem.StoreFacts B bmB "object.__setattr__" "object") (T:StK K C bmB) (hk:env.scope.kind=.function) (hn:h1.Ns env.locals m) (nL:env.locals≠e) (Kh:K.In h1) (Ke:K.lookup e=none) (e1:∃ o,h1.get? e=some o) (hself:env.kindOf self=some .local) (ms:m self=some (.ref e)) (hsd:(self == ("__debug__":Str))=false) :
    ∀ {body:List Stmt} {fs:List (Str × (Str ⊕ Str))},Sts self body fs→(∀ f∈fs,PySem.W.takerIn K C f.1=some none)→(∀ f∈fs,∀ x,f.2=.inr x→env.kindOf x=some .local∧∃ u,m x=some u∧RelV (val x) u)→
      ∀ {acc:List (Str × V)} {s:Shared} {Q:Flow→Shared→Prop},acc.length + fs.length≤900→ExAt h1 C e t acc s→(∀ h' tk,ExAt h1 C e t (fldV val fs acc) { s with heap:=h',toks:=tk }→Q .next { s with heap:=h',toks:=tk })→
      wpAny (model prog w) A (execs body env) Q E s:=by
  have nsK:∀ {s:Shared} {acc:List (Str × V)},ExAt h1 C e t acc s→s.heap.Ns env.locals m:=fun {s acc} a=>by
    obtain ⟨o,es,ep,e2,r⟩:=hn
    exact ⟨o,es,ep,a.keep _ _ nL e2,r⟩
  have inK:∀ {s:Shared} {acc:List (Str × V)},ExAt h1 C e t acc s→K.In s.heap:=fun {s acc} a b o q=>a.keep b o (fun z=>by subst z;rw [Ke] at q;cases q) (Kh b o q)
  intro body fs st
  induction st with
  | nil=>intro _ _ acc s Q _ a h;exact wpAny_execs_nil (h s.heap s.toks a)
  | @con f m' j p1 p2 p3 pos rest fs hs r ih=>
    intro h1' h2' acc s Q hl a h
    refine wpAny_execs_cons (plainObj_wpAny_Assign_Attribute (Calls.Constant_str ?_) (hs env))
    have a1:ExAt h1 C e t acc { s with toks:=s.toks + 1 }:=⟨a.keep,a.at_⟩
    refine wpAny_Name (wpAny_loadName_local hk hself (nsK a1) ms ?_) hsd
    refine run_set SF T (inK a1) a1 e1 (by rw [List.length_cons] at hl;omega) (h1' _ (List.mem_cons_self ..)) (y:=.str m') ⟨_,rfl⟩ fun h' tk a2=>?_
    exact ih (fun f hf=>h1' f (List.mem_cons_of_mem _ hf)) (fun f hf=>h2' f (List.mem_cons_of_mem _ hf)) (by rw [List.length_cons] at hl ⊢;omega) a2 fun h'' tk' a3=>h h'' tk' a3
  | @var f x p1 p2 p3 pos rest fs hs hd r ih=>
    intro h1' h2' acc s Q hl a h
    obtain ⟨kx,u,mx,ru⟩:=h2' _ (List.mem_cons_self ..) x rfl
    refine wpAny_execs_cons (plainObj_wpAny_Assign_Attribute (wpAny_Name (wpAny_loadName_local hk kx (nsK a) mx ?_) hd) (hs env))
    refine wpAny_Name (wpAny_loadName_local hk hself (nsK a) ms ?_) hsd
    refine run_set SF T (inK a) a e1 (by rw [List.length_cons] at hl;omega) (h1' _ (List.mem_cons_self ..)) ru fun h' tk a2=>?_
    exact ih (fun f hf=>h1' f (List.mem_cons_of_mem _ hf)) (fun f hf=>h2' f (List.mem_cons_of_mem _ hf)) (by rw [List.length_cons] at hl ⊢;omega) a2 fun h'' tk' a3=>h h'' tk' a3
end
structure ExBase (B newId initId:String) (bmB:List Value):Prop where
  fb:PySem.ExcBaseFacts B newId initId bmB
  kf:PySem.W.KxsFacts B initId
  sf:PySem.StoreFacts B bmB "object.__setattr__" "object"
structure ExK (K:PySem.W.Frag) (file:Str) (C fI:Addr) (params:Arguments) (body:List Stmt) (scope:Scope) (B newId initId:String) (bmB:List Value):Prop where
  st:StK K C bmB
  q:PySem.W.excInitIn K C bmB newId=true
  hi:PySem.W.findIn K (.ref C) "__init__"=some (some (.ref fI))
  ff:PySem.W.typeIn K (.ref fI)=some (.type "function")
  sup:PySem.W.ks_superIn K C C "__init__"=some (some (.builtin initId))
  sub:PySem.W.subIn K (.ref C) (.type B)=some true
  own:PySem.W.mroIn K C (.ref C)=some true
  exC:PySem.W.subIn K (.ref C) (.type "BaseException")=some true
  tyC:PySem.W.typeIn K (.ref C)=some (.type "type")
  kC:PySem.W.keepIn K (.ref C)=true
  op:PySem.W.nsIn K cStatics "thirdparty.any"=some none
  fn:∃ (oc:Value) (od:Option Addr) (osl:Array (Option Value)) (name qual:Str) (doc pm:Value) (an:Option Addr) (cda cc:Addr) (ct:Value) (vs:Array Value) (tf:Tok) (ccl cl:Value) (cdd cld:Option Addr) (ccs csl:Array (Option Value)),
    K.lookup fI=some ⟨oc,od,.func (PySem.W.ksFn name qual params body scope .none .none doc pm an (.ref cda) ct cc),osl⟩∧PySem.W.codeIn K (.ref cda) qual=true∧K.lookup cda=some ⟨ccl,cdd,.fields vs,ccs⟩∧vs[2]?=some (.str file tf)∧K.lookup cc=some ⟨cl,cld,.cell (some (.ref C)),csl⟩
structure ExT (body:List Stmt) (params:Arguments) (scope:Scope) (sf:Str) (ps:List Str) (fs:List (Str × (Str ⊕ Str))):Prop where
  shape:∃ p0 p1 p2 p3 p4 p5 msg j rest,body=.Expr (.Call (.Attribute (.Call (.Name "super" p0) [] [] p1) "__init__" p2) [.Constant (.str msg) j p3] [] p4) p5::rest∧Sts sf rest fs∧
    (∀ env:Env,∃ pl:Sem Bool,eval (.Call (.Attribute (.Call (.Name "super" p0) [] [] p1) "__init__" p2) [.Constant (.str msg) j p3] [] p4) env=(do
      let ov ← attributeBase (.Call (.Name "super" p0) [] [] p1) "__init__" env (eval (.Call (.Name "super" p0) [] [] p1) env)
      standAt p2.atName
      let (f,first) ← holding [ov] (getMethod ov "__init__" pl)
      callWith p4 f first (backTo p4 (starEach [.Constant (.str msg) j p3] env)) []))∧
    (∀ env:Env,env.scope.kind=.function→interactive env=false)∧∀ env:Env,swapsWith (.Call (.Attribute (.Call (.Name "super" p0) [] [] p1) "__init__" p2) [.Constant (.str msg) j p3] [] p4) none p5.line env=pure false
  head:∃ ar,(params.posonlyargs++params.args).head?=some ar∧ar.arg=sf
  ks:scope.names.lookup ("super":Str)=some .globalImplicit
  kc:scope.names.lookup ("__class__":Str)=some .free
  loc:∀ x∈sf::ps,scope.names.lookup x=some .local
  kind:scope.kind=.function
  co:scope.isCoroutine=false
  gen:scope.isGenerator=false
  cell:∀ x∈scope.names,x.2≠.cell
  flds:∀ f∈fs,∀ x,f.2=.inr x→x∈ps
  nod:(sf::ps).Nodup
  sd:(sf == ("__debug__":Str))=false
  len:fs.length≤900
section
variable {prog:Program} {w:World} {A:Around} {R:Result→Shared→Prop} {s:Shared} {K:PySem.W.Frag} {mg mb:Str→Option Value} {file:Str} {C fI e t:Addr} {params:Arguments} {body:List Stmt} {scope:Scope} {B newId initId:String} {bmB:List Value} {self:Str} {ps:List Str} {fs:List (Str × (Str ⊕ Str))} {us:List Value} {vs:List V} {val:Str→V}
theorem lookup_zip:∀ {ps:List Str} {us:List Value} {vs:List V} {x:Str},Vals vs us→vs.length=ps.length→ps.Nodup→x∈ps→∃ u v,(ps.zip us).reverse.lookup x=some u∧(ps.zip vs).lookup x=some v∧RelV v u
  | [],_,_,_,_,_,_,h=>by cases h
  | p::ps,_,_,x,.nil,hl,_,_=>by cases hl
  | p::ps,u::us,v::vs,x,.cons r rs,hl,hn,hx=>by
    rw [List.zip_cons_cons,List.zip_cons_cons,List.reverse_cons,List.lookup_append,List.lookup_cons]
    obtain ⟨np,hn'⟩:=List.nodup_cons.mp hn
    have out:∀ (y:Str),y∉ps→(ps.zip us).reverse.lookup y=none:=fun y hy=>by
      rw [List.lookup_eq_none_iff]
      intro q hq
      have:=(List.of_mem_zip (List.mem_reverse.mp hq)).1
      rw [bne_iff_ne]
      intro z
      exact hy (z ▸ this)
    rcases List.mem_cons.mp hx with rfl | hx
    · rw [out _ np]
      refine ⟨u,v,?_,?_,r⟩
      · simp [List.lookup]
      · simp
    · have ne:(x == p)=false:=by rw [beq_eq_false_iff_ne];intro z;exact np (z ▸ hx)
      obtain ⟨u',v',h1,h2,h3⟩:=lookup_zip rs (by simpa using hl) hn' hx
      refine ⟨u',v',?_,?_,h3⟩
      · rw [h1];rfl
      · rw [List.lookup_cons,ne];exact h2
theorem run_init (XB:ExBase B newId initId bmB) (EK:ExK K file C fI params body scope B newId initId bmB) (ET:ExT body params scope self ps fs) (X:K.In s.heap) (G:s.heap.Ns mainGlobals mg) (hsu:mg ("super":Str)=none) (Bn:s.heap.Ns builtinsNs mb) (hbn:mb ("super":Str)=some (.type "super")) (lim:s.heap.NoLimit)
    (hfile:((prog.main.file:Str) == file)=true) (htop:(prog.main.scope.names.lookup ("super":Str)).isSome=false) (hroom:A.depth < recursionLimit) (he:s.heap.get? e=some (PySem.W.excObj C t none .none)) (Ke:K.lookup e=none)
    (rv:Vals vs us) (hl:vs.length=ps.length) (hbind:∀ (name qual:Str) (doc pm:Value) (an:Option Addr) (cda ct:Value) (cc:Addr),bindArgs (PySem.W.ksFn name qual params body scope .none .none doc pm an cda ct cc) ⟨.ref e::us,[]⟩=pure ((self::ps).zip (.ref e::us)))
    (ht:∀ f∈fs,PySem.W.takerIn K C f.1=some none)
    (h:∀ h' tk t',ExAt s.heap C e t' (fldV (fun x=>((ps.zip vs).lookup x).getD .non) fs []) { s with heap:=h',toks:=tk }→R (.ok (.ret .none)) { s with heap:=h',toks:=tk }) :
    codeAny (model prog w) A (.call (.ref fI) ⟨.ref e::us,[]⟩) R s:=by
  obtain ⟨oc,od,osl,name,qual,doc,pm,an,cda,cc,ct,cvs,tf,ccl,cl,cdd,cld,ccs,csl,lk,hcd,lkc,hv2,lcc⟩:=EK.fn
  obtain ⟨p0,p1,p2,p3,p4,p5,msg,j,rest,hbd,hst,hev,hint,hsw⟩:=ET.shape
  obtain ⟨ar,har,hself⟩:=ET.head
  have hlen:us.length=ps.length:=by rw [← rv.length];exact hl
  have hlcl:∀ x∈(self::ps).zip (Value.ref e::us),scope.names.lookup x.1=some .local:=fun x hx=>ET.loc x.1 (List.of_mem_zip hx).1
  refine ks_codeAny_call_defAt (fd:=PySem.W.ksFn name qual params body scope .none .none doc pm an (.ref cda) ct cc) (body:=body) (binds:=(self::ps).zip (Value.ref e::us)) hroom (X _ _ lk) rfl lim (PySem.W.codeRec_of X hcd) rfl (BindsTo.of_eq (hbind _ _ _ _ _ _ _ _)) ET.cell hlcl (fun h1 hns k1=>?_) ET.co ET.gen ET.kind
  have L:Addr:=s.heap.objs.size
  generalize henv:callEnv (PySem.W.ksFn name qual params body scope .none .none doc pm an (.ref cda) ct cc) s.heap.objs.size fI=env at *
  have eloc:env.locals=s.heap.objs.size:=by rw [← henv];rfl
  have esc:env.scope=scope:=by rw [← henv];rfl
  have ekd:∀ y,env.kindOf y=scope.names.lookup y:=fun y=>by rw [← henv];rfl
  have ekf:env.scope.kind=.function:=by rw [esc];exact ET.kind
  have X1:K.In h1:=fun b o q=>k1 b o (X b o q)
  have he1:=k1 _ _ he
  have nL:env.locals≠e:=by rw [eloc];exact Nat.ne_of_gt (Heap.lt_size he)
  rw [← eloc] at hns
  have all:=rv
  have key:∀ x∈ps,∃ u v,((self::ps).zip (Value.ref e::us)).reverse.lookup x=some u∧(ps.zip vs).lookup x=some v∧RelV v u:=fun x hx=>by
    obtain ⟨u,v,z1,z2,z3⟩:=lookup_zip rv hl (List.nodup_cons.mp ET.nod).2 hx
    refine ⟨u,v,?_,z2,z3⟩
    rw [List.zip_cons_cons,List.reverse_cons,List.lookup_append,z1];rfl
  have kself:((self::ps).zip (Value.ref e::us)).reverse.lookup self=some (.ref e):=by
    rw [List.zip_cons_cons,List.reverse_cons,List.lookup_append]
    have:(ps.zip us).reverse.lookup self=none:=by
      rw [List.lookup_eq_none_iff]
      intro q hq
      have:=(List.of_mem_zip (List.mem_reverse.mp hq)).1
      rw [bne_iff_ne]
      intro z
      exact (List.nodup_cons.mp ET.nod).1 (z ▸ this)
    rw [this];simp [List.lookup]
  rw [hbd]
  obtain ⟨pl,hpl⟩:=hev env
  refine ks_wpAt_execs_cons (ks_wpAt_Expr_any (ks_wpAt_MethodCall ?_ hpl) (hint env ekf) (hsw env))
  refine ks_wpAt_super_base (ar:=ar) ((ekd _).trans ET.ks) ((ekd _).trans ET.kc) (by decide) (f:=fI) (by rw [← henv];rfl) (X1 _ _ lk) rfl har (cc:=cda) (by rw [← henv];rfl) (X1 _ _ lkc) rfl hv2 hfile htop ?_
  obtain ⟨cd,hcdC,hdC⟩:=PySem.W.any_some EK.st.hd
  obtain ⟨oD,hD1,hD2⟩:∃ oD,h1.get? C=some oD∧oD.data=.cls cd:=by
    unfold PySem.W.clsIn at hcdC
    split at hcdC
    · rename_i c d cd' sl ho
      cases hcdC
      exact ⟨_,X1 _ _ ho,rfl⟩
    · cases hcdC
  have G1:h1.Ns mainGlobals mg:=by obtain ⟨o,es,ep,e2,r⟩:=G;exact ⟨o,es,ep,k1 _ _ e2,r⟩
  have B1:h1.Ns builtinsNs mb:=by obtain ⟨o,es,ep,e2,r⟩:=Bn;exact ⟨o,es,ep,k1 _ _ e2,r⟩
  have I1:PySem.W.InstAt h1 e (PySem.W.excObj C t none .none) C none:=⟨he1,rfl,rfl,trivial⟩
  have hneC:e≠C:=PySem.W.ks_ne X1 I1 hcdC
  refine PySem.W.ks_loadName_global ekf ((ekd _).trans ET.ks) (Calls.loadGlobal_builtin (by rw [← henv];exact G1) hsu (by rw [← henv];exact B1) hbn ⟨rfl,?_⟩)
  refine wpAny_loadName_free ekf ((ekd _).trans ET.kc) (c:=cc) (by rw [← henv];rfl) ⟨_,X1 _ _ lcc,rfl⟩ ?_
  rw [hself]
  refine wpAny_loadName_local ekf ((ekd _).trans (ET.loc _ (List.mem_cons_self ..))) hns kself ?_
  refine ks_wpAny_isType_cls hD1 hD2 ⟨rfl,?_⟩
  refine ks_wpAny_call_super hD1 hD2 he1 rfl (fun c z=>by cases z) (PySem.W.looks_mroIn X1 EK.own) (fun h2 so2 k2=>?_)
  have X2:K.In h2:=fun b o q=>k2 b o (X1 b o q)
  have he2:=k2 _ _ he1
  have I2:PySem.W.InstAt h2 e (PySem.W.excObj C t none .none) C none:=⟨he2,rfl,rfl,trivial⟩
  have hsup:=EK.sup
  unfold PySem.W.ks_superIn at hsup
  rw [hcdC] at hsup
  refine PySem.W.kxs_getMethod XB.kf so2 (PySem.W.looks_opaque X2 EK.op) (l₀:=cd.mro) (fun A Q E s k q=>wpAny_bind ((PySem.W.looks_clsIn X2 hcdC) A _ E s k (wpAny_pure q))) rfl X2 hsup (I2.type.andThen (PySem.W.looks_subIn X2 EK.sub)) hneC (by decide) ?_
  generalize hu:h2.objs.size=u
  have hu3:(h2.push (PySem.W.kxs_mw initId e)).get? u=some (PySem.W.kxs_mw initId e):=by rw [← hu];exact Heap.get?_push_at rfl rfl
  have k3:∀ b o,h2.get? b=some o→(h2.push (PySem.W.kxs_mw initId e)).get? b=some o:=fun b o q=>Heap.get?_push_of_some _ q
  refine PySem.W.kxs_callWith (i:=initId) (x:=e) rfl (Calls.evalArgs_plain (Calls.spliced_cons (Calls.Constant_str (k:=j) (pos:=p3) (Calls.spliced_nil ⟨hu3,?_⟩))))
  obtain ⟨nm,N',qn,bs,bm,hdct,sn,sub,ab,col,dd,k0,k1',k2',k3',k5,hC,hT⟩:=PySem.W.excInit_of (X:=(fun b o q=>k3 b o (X2 b o q):K.In (h2.push (PySem.W.kxs_mw initId e)))) EK.q
  refine wpAny_call (codeAny_of_tree ?_)
  show wpAny _ _ (callAny (.ref u) _) _ _ _
  simp only [callAny]
  refine wpAny_bind (wpAny_load hu3 ?_)
  simp only [PySem.W.kxs_mw,show (Value.type "method-wrapper" == Value.type "method" || Value.type "method-wrapper" == Value.type "builtin_function_or_method" || Value.type "method-wrapper" == Value.type "method-wrapper")=true by decide,if_true]
  refine PySem.W.KFB.if_so (by decide) ?_
  refine wpAny_bind (PySem.W.check_bound_init XB.fb.toExcCallFacts hC (k3 _ _ he2) rfl ?_)
  refine wpAny_bind (wpAny_pure (wpAny_pure ?_))
  refine ⟨plainId_quiet XB.fb.init.plain _,codeAny_builtin XB.fb.initEntry ?_⟩
  refine PySem.W.exc_init_tree (cls:=.ref C) (t0:=t) (dv:=none) (c2:=.none) (c3:=.none) (b4:=.bool false) (k3 _ _ he2) (by show 1≤sizeLine;decide) fun h4 k4 e4 t4=>?_
  have kk:∀ b o,b≠e→h1.get? b=some o→h4.get? b=some o:=fun b o hb q=>k4 b o hb (k3 b o (k2 b o q))
  show PySem.wpAt _ _ _ (execs rest env) _ _ _
  refine PySem.wpAt_of_wpAny ?_
  have hst1:∀ (s5:Shared),s5.heap=h4→ExAt h1 C e (h2.push (PySem.W.kxs_mw initId e)).objs.size [] s5:=fun s5 z=>⟨fun b o hb q=>by rw [z];exact kk b o hb q,.inl ⟨rfl,by rw [z];exact e4⟩⟩
  refine run_sts (h1:=h1) (K:=K) (C:=C) (e:=e) (m:=fun x=>((self::ps).zip (Value.ref e::us)).reverse.lookup x) (val:=fun x=>((ps.zip vs).lookup x).getD .non) XB.sf EK.st ekf hns nL X1 Ke ⟨_,he1⟩ ((ekd _).trans (ET.loc _ (List.mem_cons_self ..))) kself ET.sd hst ht (fun f hf x hx=>?_) (by rw [List.length_nil,Nat.zero_add];exact ET.len) (hst1 _ rfl) (fun h5 tk a=>?_)
  · have hxp:=ET.flds f hf x hx
    obtain ⟨u',v',z1,z2,z3⟩:=key x hxp
    exact ⟨(ekd _).trans (ET.loc _ (List.mem_cons_of_mem _ hxp)),u',z1,by rw [z2];exact z3⟩
  · refine h h5 tk (h2.push (PySem.W.kxs_mw initId e)).objs.size ⟨fun b o hb q=>a.keep b o hb (k1 b o q),?_⟩
    rcases a.at_ with z | ⟨dx,mA,z1,z2⟩
    · exact .inl z
    · refine .inr ⟨dx,mA,?_,z2⟩
      cases q:s.heap.get? dx with
      | none=>rfl
      | some o=>rw [k1 dx o q] at z1;cases z1
end
section
variable {X:Cx} {file:Str} {C fI:Addr} {params:Arguments} {body:List Stmt} {scope:Scope} {B newId initId:String} {bmB:List Value} {self:Str} {ps:List Str} {fs:List (Str × (Str ⊕ Str))} {x:Str} {p pos:Pos} {e:Expr} {es:List Expr} {ta:TA}
def xdV (ps:List Str) (fs:List (Str × (Str ⊕ Str))) (vs:List V):List (Str × V):=fldV (fun x=>((ps.zip vs).lookup x).getD .non) fs []
theorem mk_exc {pins:List (Addr × Obj)} {σ:L2.St} {H1:Hp} {s1:Shared} {us:List Value} {vs:List V} {Q:XK} (XB:ExBase B newId initId bmB) (EK:ExK X.K file C fI params body scope B newId initId bmB) (ET:ExT body params scope self ps fs)
    (hfile:((X.prog.main.file:Str) == file)=true) (htop:(X.prog.main.scope.names.lookup ("super":Str)).isSome=false) (hsu:X.mg ("super":Str)=none)
    (hbind:∀ (e:Addr) (us:List Value),us.length=ps.length→∀ (name qual:Str) (doc pm:Value) (an:Option Addr) (cda ct:Value) (cc:Addr),bindArgs (PySem.W.ksFn name qual params body scope .none .none doc pm an cda ct cc) ⟨.ref e::us,[]⟩=pure ((self::ps).zip (.ref e::us)))
    (ht:∀ f∈fs,PySem.W.takerIn X.K C f.1=some none) (hne:∀ vs,xdV ps fs vs≠[]) (hr:Room 2 X.A) (I1:Inv X pins σ H1 s1) (rv:Vals vs us) (hl:vs.length=ps.length) (hl2:vs.length≤1000) (q:∀ d,H1 d=none→Q (.ref C) (some d) (upd H1 d (.xd (xdV ps fs vs)))) :
    wpAny (model X.prog X.w) X.A (call (.ref C) us) (L2N.MkP X pins σ Q) X.xe s1:=by
  obtain ⟨nm,N',qn,bs,bm,hdct,sn,sub,ab,col,dd,k0,k1,k2,k3,k5,hC,hT⟩:=PySem.W.excInit_of I1.kIn EK.q
  obtain ⟨hp,g,dr,tk,os⟩:=s1
  have hus:us.length≤sizeLine:=by rw [← rv.length,sizeLine_eq];omega
  obtain ⟨oI,hoI,hcI⟩:∃ oI,hp.get? fI=some oI∧oI.cls=.type "function":=by
    obtain ⟨o,ho,hc⟩:=Option.map_eq_some_iff.mp (show (X.K.lookup fI).map (·.cls)=some (.type "function") from EK.ff)
    exact ⟨o,I1.kIn _ _ ho,hc⟩
  refine wpAny_call (PySem.HandSPX.call_own XB.fb hT hC (PySem.W.looks_findIn I1.kIn EK.hi) (fun self=>PySem.W.exc_bind hoI hcI self) hus ?_)
  have kk:∀ b o,hp.get? b=some o→((hp.push (PySem.W.kdv_tup us)).push (PySem.HandSPX.excO C hp.objs.size)).get? b=some o:=fun b o e=>Heap.get?_push_of_some _ (Heap.get?_push_of_some _ e)
  have hget:((hp.push (PySem.W.kdv_tup us)).push (PySem.HandSPX.excO C hp.objs.size)).get? (hp.objs.size + 1)=some (PySem.W.excObj C hp.objs.size none .none):=by heap_get
  have lt:∀ {b:Addr} {o:Obj},hp.get? b=some o→b≠hp.objs.size + 1:=fun {b o} z=>Nat.ne_of_lt (Nat.lt_succ_of_lt (Heap.lt_size z))
  have Ke:X.K.lookup (hp.objs.size + 1)=none:=by
    cases z:X.K.lookup (hp.objs.size + 1) with
    | none=>rfl
    | some o=>exact absurd rfl (lt (I1.kIn _ _ z))
  generalize hh2:(hp.push (PySem.W.kdv_tup us)).push (PySem.HandSPX.excO C hp.objs.size)=h2 at *
  have KM:=I1.ok.mod
  obtain ⟨mb,nb,hbb⟩:=KM.blt
  have bk:∀ b o,X.base.get? b=some o→h2.get? b=some o:=fun b o z=>kk b o (I1.bk b o z)
  have nsb:∀ {b:Addr} {m:Str→Option Value},X.base.Ns b m→h2.Ns b m:=fun {b m} ⟨o,es,ep,e2,r⟩=>⟨o,es,ep,bk _ _ e2,r⟩
  have lim:h2.NoLimit:=by obtain ⟨mc,n1,n2⟩:=KM.nolimit;exact ⟨mc,nsb n1,n2⟩
  refine run_init (s:=⟨h2,g,dr,tk,os⟩) (self:=self) (ps:=ps) (fs:=fs) (vs:=vs) (mg:=X.mg) (mb:=mb) XB EK ET (fun b o z=>bk b o (KM.kin b o z)) (nsb KM.glob) hsu (nsb nb) ((hbb _ (by decide)).trans PyProof.Rows.Boot.«super») lim hfile htop (hr.make C us []).depth hget Ke rv hl (hbind _ _ (by rw [← rv.length];exact hl)) ht fun h' tk' t' a=>?_
  obtain ⟨ak,z | ⟨dx,mA,nd,hx,hn,rel⟩⟩:=a
  · exact absurd z.1 (hne vs)
  refine ⟨rfl,?_⟩
  have nd1:hp.get? dx=none:=by
    cases z:hp.get? dx with
    | none=>rfl
    | some o=>rw [kk dx o z] at nd;cases nd
  have dne:dx≠hp.objs.size + 1:=fun z=>by rw [z,hget] at nd;cases nd
  obtain ⟨G,g1,g2⟩:=restrict h' fun b=>decide (b≠hp.objs.size + 1)
  have gk:∀ b,b≠hp.objs.size + 1→G.get? b=h'.get? b:=fun b hb=>g1 b (decide_eq_true hb)
  have ge:G.get? (hp.objs.size + 1)=none:=g2 _ (by simp)
  have nH:H1 dx=none:=I1.hok.gone nd1
  have J:Inv X pins σ (upd H1 dx (.xd (xdV ps fs vs))) ⟨G,g,dr,tk',os⟩:=
    Inv.laidN (h':=G) (t':=tk') I1 (fun b o z=>by rw [gk b (lt z)];exact ak b o (lt z) (kk b o z)) nd1 nH ⟨mA,hn.at fun o y=>(gk dx dne).trans y,rel⟩
  refine ⟨hp.objs.size + 1,_,_,⟨G,g,dr,tk',os⟩,_,.ref C,some dx,rfl,J,fun b o z=>?_,ge,hx,⟨rfl,rfl,fun vs z=>by cases z;rfl⟩,rfl,rfl,?_,rfl,J.bare,raises_own EK.exC EK.tyC,q dx nH⟩
  · by_cases hb:b=hp.objs.size + 1
    · rw [hb,ge] at z;cases z
    · exact (gk b hb).symm.trans z
  · rw [upd_ne (Ne.symm dne)]
    exact I1.hok.fresh (Nat.le_succ _)
end
section
variable {K:PySem.W.Frag} {G G1:Hp} {so:So} {σ:L2.St} {H H1:Hp} {sl s1:DSt}
theorem Post.alloc {d:Addr} {o:HO} (p:Post K G so σ H sl H1 G1 s1) (n:H1 d=none) (nt:∀ xs,o≠.tup xs:=by intro _ z;cases z):Post K G so σ H sl (upd H1 d o) G1 s1:=by
  have pv:PostV K G1 so H1 .non (upd H1 d o) G1 (.d .non):=⟨Ex.refl G1,p.rep.h.alloc n nt,fun _ _ e _=>Ex.new n _ _ e,fun _ _ g _=>g,.non,fun _ _ e=>(nomatch e),fun _ e=>(nomatch e)⟩
  exact p.trans (pv.slots p.rep).toPost
end
def fldD (val:Str→D):List (Str × (Str ⊕ Str))→List (Str × D)→List (Str × D)
  | [],acc=>acc
  | (f,.inl m)::r,acc=>fldD val r ((f,.str m)::acc)
  | (f,.inr x)::r,acc=>fldD val r ((f,val x)::acc)
def xdD (ps:List Str) (fs:List (Str × (Str ⊕ Str))) (xs:List D):List (Str × D):=fldD (fun x=>((ps.zip xs).lookup x).getD .non) fs []
theorem fld_all {K:PySem.W.Frag} {G:Hp} {val:Str→V} {vd:Str→D} (hv:∀ x,DOk K G (val x) (vd x)):∀ (fs:List (Str × (Str ⊕ Str))) {a:List (Str × V)} {b:List (Str × D)},FAll K G a b→FAll K G (fldV val fs a) (fldD vd fs b)
  | [],_,_,h=>h
  | (f,.inl m)::r,_,_,h=>fld_all hv r (.cons (.str m) h)
  | (f,.inr x)::r,_,_,h=>fld_all hv r (.cons (hv x) h)
theorem zip_ok {K:PySem.W.Frag} {G:Hp} (x:Str):∀ {ps:List Str} {vs:List V} {xs:List D},DAll K G vs xs→DOk K G (((ps.zip vs).lookup x).getD .non) (((ps.zip xs).lookup x).getD .non)
  | [],_,_,_=>.non
  | _::_,_,_,.nil=>.non
  | p::ps,_,_,.cons h t=>by
    rw [List.zip_cons_cons,List.zip_cons_cons,List.lookup_cons,List.lookup_cons]
    cases x == p with
    | true=>exact h
    | false=>exact zip_ok x t
theorem xd_all {K:PySem.W.Frag} {G:Hp} {ps:List Str} {fs:List (Str × (Str ⊕ Str))} {vs:List V} {xs:List D} (h:DAll K G vs xs):FAll K G (xdV ps fs vs) (xdD ps fs xs):=fld_all (fun x=>zip_ok x h) fs .nil
structure XCls (P:Program) (K:PySem.W.Frag) (mg:Str→Option Value) (C:Addr) (ps:List Str) (fs:List (Str × (Str ⊕ Str))):Prop where
  how:∃ file fI params body scope B newId initId bmB self,ExBase B newId initId bmB∧ExK K file C fI params body scope B newId initId bmB∧ExT body params scope self ps fs∧((P.main.file:Str) == file)=true∧(P.main.scope.names.lookup ("super":Str)).isSome=false∧
    (∀ (e:Addr) (us:List Value),us.length=ps.length→∀ (name qual:Str) (doc pm:Value) (an:Option Addr) (cda ct:Value) (cc:Addr),bindArgs (PySem.W.ksFn name qual params body scope .none .none doc pm an cda ct cc) ⟨.ref e::us,[]⟩=pure ((self::ps).zip (.ref e::us)))
  ht:∀ f∈fs,PySem.W.takerIn K C f.1=some none
  ne:∀ vs,xdV ps fs vs≠[]
  su:mg ("super":Str)=none
  kC:PySem.W.keepIn K (.ref C)=true
  ln:ps.length≤1000
def dRaise (C:Addr) (ps:List Str) (fs:List (Str × (Str ⊕ Str))) (ta:TDA):TDS:=fun E sl=>ta sl (fun ds s1=>match dats ds with
  | some xs=>xs.length=ps.length∧E.xc (.ref C) (xdD ps fs xs) s1
  | none=>False) E.xc
section
variable {X:Cx} {W:WX} {C:Addr} {ps:List Str} {fs:List (Str × (Str ⊕ Str))} {x:Str} {p pos rpos:Pos} {e:Expr} {es:List Expr} {ta:TDA} {tA:TA}
theorem XCls.make (T:XCls X.prog X.K X.mg C ps fs) (hr:Room 2 X.A) {pins:List (Addr × Obj)} {σ:L2.St} {H1:Hp} {s1:Shared} {us:List Value} {vs:List V} {Q:XK} (I1:Inv X pins σ H1 s1) (rv:Vals vs us) (hl:vs.length=ps.length)
    (q:∀ d,H1 d=none→Q (.ref C) (some d) (upd H1 d (.xd (xdV ps fs vs)))):wpAny (model X.prog X.w) X.A (call (.ref C) us) (L2N.MkP X pins σ Q) X.xe s1:=by
  obtain ⟨file,fI,params,body,scope,B,n1,n2,bmB,self,z1,z2,z3,z4,z5,z6⟩:=T.how
  exact mk_exc z1 z2 z3 z4 z5 T.su z6 T.ht T.ne hr I1 rv hl (by rw [hl];exact T.ln) q
def tMkX (C:Addr) (ps:List Str) (fs:List (Str × (Str ⊕ Str))) (tA:TA):L2.St→Hp→XK→Prop:=fun σ H Q=>tA σ H fun vs H1=>vs.length=ps.length∧∀ d,H1 d=none→Q (.ref C) (some d) (upd H1 d (.xd (xdV ps fs vs)))
theorem pmk_x (T:XCls X.prog X.K X.mg C ps fs) (hr:Room 2 X.A) (hg:Gl X x) (hm:X.mg x=some (.ref C)) (ha:PA X (e::es) tA) (hdb:(x == ("__debug__":Str))=false:=by decide) (he:starEach (e::es) X.env=(false,eval e X.env)::starEach es X.env:=by rfl) (hpl:(backTo pos (starEach es X.env)).any (·.1)=false:=by rfl) :
    L2N.PMk X (.Call (.Name x p) (e::es) [] pos) (tMkX C ps fs tA):=by
  intro pins s σ H Q I h
  refine wpAny_Call_Name_kw (ld_glob I hg hm ?_ hdb)
  exact PySem.W.callWith_K (h₀:=X.base) I.ok.mod.kin T.kC (thn (ha.run pos pins s σ H _ I h) fun us s1 ⟨vs,H1,I1,r1,hl,q⟩=>⟨I1.kIn,T.make hr I1 r1 hl q⟩) he hpl
theorem up_raise {K:PySem.W.Frag} {D:Ends} {σ:L2.St} {H:Hp} (h:upS K W (dRaise C ps fs ta) D σ H):tMkX C ps fs (upA K W ta) σ H fun cls d H'=>W cls d σ H':=by
  obtain ⟨G,so,sl,E,rep,q,ok⟩:=h
  refine ⟨G,so,sl,_,E.xc,rep,q,fun vs H1 G1 ds s1 p w q1=>?_,ok.xc.ex⟩
  split at q1
  · rename_i xs ed
    have al:=dats_all w ed
    refine ⟨al.length.trans q1.1,fun d nd=>?_⟩
    exact ok.xc (.ref C) (some d) σ _ G1 _ s1 (p.alloc nd).s ⟨_,upd_same,xd_all al⟩ q1.2
  · exact q1.elim
theorem ds_raise (hc:X.calm=true) (tk:L2N.Takes X W) (T:XCls X.prog X.K X.mg C ps fs) (hr:Room 2 X.A) (hg:Gl X x) (hm:X.mg x=some (.ref C)) (ha:DA X W (e::es) ta) (hdb:(x == ("__debug__":Str))=false:=by decide) (he:starEach (e::es) X.env=(false,eval e X.env)::starEach es X.env:=by rfl) (hpl:(backTo pos (starEach es X.env)).any (·.1)=false:=by rfl) :
    DS X W (.Raise (some (.Call (.Name x p) (e::es) [] pos)) none rpos) (dRaise C ps fs ta):=ps_imp (L2N.ps_raise hc tk (pmk_x T hr hg hm ha hdb he hpl)) fun D σ H h=>up_raise h
end
section
variable {X:Cx} {x1 x2 x3 n:Str} {c1 c2 c3:Value} {i k:Nat} {body suite:List Stmt} {b0:Stmt} {q1 q2 q3 tp pos pos':Pos} {tb:WX→TS} {ts:Addr→Value→Option Addr→TS} {Wout:WX}
end
section
variable {X:Cx} {pins:List (Addr × Obj)} {σ:L2.St} {H:Hp} {s:Shared} {c P:Addr} {ps:Array Value} {params:Arguments} {body:Expr} {scope:Scope} {pos:Pos} {Q E:Value→Shared→Prop}
end
section
variable {X:Cx} {pins:List (Addr × Obj)} {σ:L2.St} {H HZ:Hp} {s s1:Shared} {params:Arguments} {xs:List Str}
end
def errFields:List Str:=["code","given","at","path","name","word","layer","start","goal","limit","line","subject","most"]
structure ErrC (K:PySem.W.Frag) (cs:List Value) (C:Addr):Prop where
  x:XfC K C
  no:∀ f∈errFields,PySem.W.findIn K (.ref C) f=some none
  is:PySem.W.exmAny K (.ref C) cs=some true
section
variable {K:PySem.W.Frag} {G G1:Hp} {so:So} {σ:L2.St} {H H1 H2:Hp} {sl s1:DSt}
end
section
variable {X:Cx} {W:WX} {K:PySem.W.Frag} {cs:List Value} {x a:Str} {g c:Addr} {fdg:FuncData} {qg:Str} {pg:Arguments} {bg:List Stmt} {sg:Scope} {Ng xs:List Str} {params:Arguments} {body:Expr} {scope:Scope} {te:TD} {k:Nat} {p lpos pos:Pos}
end
abbrev PQ:=(DV→Prop)→XE'→Prop
theorem no_see {ds:List D} {pre:List DV} (h:∀ v∈pre,∀ o,v≠.see o) (i:Nat) (o:OO):(pre++ds.map DV.d)[i]?≠some (.see o):=fun z=>by
  have m:=List.mem_of_getElem? z
  rcases List.mem_append.mp m with m | m
  · exact h _ m o rfl
  · obtain ⟨x,_,e⟩:=List.mem_map.mp m
    cases e
section
variable {P:Program} {w:World} {K:PySem.W.Frag} {mg:Str→Option Value} {base:Heap} {x qual:Str} {params:Arguments} {body:List Stmt} {scope:Scope} {dvs:List V} {kws:List (Str × V)} {fa:Addr} {fd:FuncData} {N:List Str} {k:Nat} {t:TDS}
abbrev BodyD (P:Program) (w:World) (K:PySem.W.Frag) (mg:Str→Option Value) (base:Heap) (N:List Str) (qual:Str) (scope:Scope) (fa:Addr) (k:Nat) (body:List Stmt) (t:TDS):Prop:=
  ∀ (cdv:Value) (A:Around) (outer:List Env) (s:Shared) (H:Hp) (E:XK),Room k (A.deeper (envOfC qual scope s.heap.objs.size fa cdv))→(cxOf (L2N.CX P w) P w K mg base N qual scope fa cdv A outer s H E).A.guards=some []→
    DSs (cxOf (L2N.CX P w) P w K mg base N qual scope fa cdv A outer s H E) (fun cls d _ H'=>E cls d H') body t
abbrev endsF (Q:DV→Prop) (E:XE'):EndsD:={ nx:=fun _=>Q (.d .non),rt:=fun v _=>retQ Q v,bk:=fun _=>False,ct:=fun _=>False,xc:=fun cls fs _=>E cls fs }
def sr0 (f:PQ):SpD:=fun args Q E=>args=[.src]∧f Q E
theorem gn0_of {f:PQ} {ps:Str} (F:FunD K x qual params body scope dvs kws fa fd) (S:FnScope N [ps] scope) (hd:BodyD P w K mg base N qual scope fa k body t) (hr:∀ Q E,f Q E→t (endsF Q E) (startD N [.src])):FnG P w K mg base (k + 1) fa fd [ps] (sr0 f):=
  fnG_of F S (by rintro _ Q E ⟨rfl,h⟩;rfl) (by rintro _ Q E ⟨rfl,h⟩;exact no_see (ds:=[]) (pre:=[.src]) (fun v h o=>by rw [List.mem_singleton.mp h];exact fun z=>by cases z)) hd (by rintro _ Q E ⟨rfl,h⟩;exact hr Q E h)
def sp1 (f:D→PQ):SpD:=fun args Q E=>∃ x0:D,args=[.d x0]∧f x0 Q E
theorem fn1_of {f:D→PQ} {p0:Str} (F:FunD K x qual params body scope dvs kws fa fd) (S:FnScope N [p0] scope) (hd:BodyD P w K mg base N qual scope fa k body t) (hr:∀ x0 Q E,f x0 Q E→t (endsF Q E) (startD N [.d x0])):FnG P w K mg base (k + 1) fa fd [p0] (sp1 f):=
  fnG_of F S (by rintro _ Q E ⟨x0,rfl,h⟩;rfl) (by rintro _ Q E ⟨x0,rfl,h⟩;exact no_see (ds:=[x0]) (pre:=[]) (fun _ h=>by cases h)) hd (by rintro _ Q E ⟨x0,rfl,h⟩;exact hr x0 Q E h)
def sp2 (f:D→D→PQ):SpD:=fun args Q E=>∃ x0:D,∃ x1:D,args=[.d x0,.d x1]∧f x0 x1 Q E
theorem fn2_of {f:D→D→PQ} {p0:Str} {p1:Str} (F:FunD K x qual params body scope dvs kws fa fd) (S:FnScope N [p0,p1] scope) (hd:BodyD P w K mg base N qual scope fa k body t) (hr:∀ x0 x1 Q E,f x0 x1 Q E→t (endsF Q E) (startD N [.d x0,.d x1])):FnG P w K mg base (k + 1) fa fd [p0,p1] (sp2 f):=
  fnG_of F S (by rintro _ Q E ⟨x0,x1,rfl,h⟩;rfl) (by rintro _ Q E ⟨x0,x1,rfl,h⟩;exact no_see (ds:=[x0,x1]) (pre:=[]) (fun _ h=>by cases h)) hd (by rintro _ Q E ⟨x0,x1,rfl,h⟩;exact hr x0 x1 Q E h)
def sp3 (f:D→D→D→PQ):SpD:=fun args Q E=>∃ x0:D,∃ x1:D,∃ x2:D,args=[.d x0,.d x1,.d x2]∧f x0 x1 x2 Q E
theorem fn3_of {f:D→D→D→PQ} {p0:Str} {p1:Str} {p2:Str} (F:FunD K x qual params body scope dvs kws fa fd) (S:FnScope N [p0,p1,p2] scope) (hd:BodyD P w K mg base N qual scope fa k body t) (hr:∀ x0 x1 x2 Q E,f x0 x1 x2 Q E→t (endsF Q E) (startD N [.d x0,.d x1,.d x2])):FnG P w K mg base (k + 1) fa fd [p0,p1,p2] (sp3 f):=
  fnG_of F S (by rintro _ Q E ⟨x0,x1,x2,rfl,h⟩;rfl) (by rintro _ Q E ⟨x0,x1,x2,rfl,h⟩;exact no_see (ds:=[x0,x1,x2]) (pre:=[]) (fun _ h=>by cases h)) hd (by rintro _ Q E ⟨x0,x1,x2,rfl,h⟩;exact hr x0 x1 x2 Q E h)
theorem fnRc_of {ps:List Str} {sp:Sp} (F:FunD K x qual params body scope dvs kws fa fd) (S:FnScope N ps scope) (len:∀ vs H Q E,sp vs H Q E→vs.length=ps.length)
    (hd:∀ (cdv:Value),fd.code=cdv→∀ (A:Around) (outer:List Env) (s:Shared) (H:Hp) (vs:List V) (Q:VK) (E:XK),Room k (A.deeper (envOfC qual scope s.heap.objs.size fa cdv))→(cxOf (L2N.CX P w) P w K mg base N qual scope fa cdv A outer s H E).A.guards=some []→sp vs H Q E→
      ∃ t,PSs (cxOf (L2N.CX P w) P w K mg base N qual scope fa cdv A outer s H E) body t∧t { nx:=fun _ H'=>Q .non H',rt:=Q } (L2.start N vs) H):FnR P w K mg base (k + 1) fa fd ps sp:=by
  obtain ⟨oc,od,dV,kV,doc,pm,an,cdv,ct,osl,e,lk,hcd,z1,z2⟩:=F.ex
  refine ⟨len,fun A outer s H args us vs Q E hroom hg e0 hb r hsp=>?_⟩
  have KX:K.In s.heap:=e0.mod.kin.keeps fun b o e=>(e0.bs b o e).1
  have lim:s.heap.NoLimit:=e0.mod.nolimit.keeps fun b o e=>(e0.bs b o e).1
  have hkind:((ps.zip us).all fun y=>scope.names.lookup y.1 == some .local || scope.names.lookup y.1 == some .cell)=true:=by
    rw [List.all_eq_true]
    rintro ⟨n,u⟩ hy
    rcases S.par n (List.of_mem_zip hy).1 with z | z
    · show (scope.names.lookup n == some .local || _)=true
      rw [z];rfl
    · show (scope.names.lookup n == some .local || scope.names.lookup n == some .cell)=true
      rw [z];rfl
  subst e
  refine Att.call_fn KX lim lk hcd hroom.depth hb hkind (fun s1 x=>?_) S.co S.gen S.kind
  have I:=inv_start (CX:=L2N.CX P w) (E:=E) S hroom.hd e0 (len _ _ _ _ hsp) r x
  obtain ⟨t,pt,qt⟩:=hd cdv rfl A outer s H vs Q E (hroom.deeper _) hg hsp
  refine wpAny_mono (pt.run [] s1 (L2.start N vs) H _ I qt) (fun fl s' hs=>?_) fun e s' hs=>hs
  cases fl with
  | ret u=>
    obtain ⟨v,σ',H',J,rv,z⟩:=hs
    exact ⟨v,H',J.os,J.bare,J.base,J.hok,rv,z⟩
  | next=>
    obtain ⟨σ',H',J,z⟩:=hs
    exact ⟨.non,H',J.os,J.bare,J.base,J.hok,rfl,z⟩
  | brk=>obtain ⟨_,_,_,z⟩:=hs;exact False.elim z
  | cont=>obtain ⟨_,_,_,z⟩:=hs;exact False.elim z
end
def dAsg (te:TD) (gd:TDG):TDS:=fun E sl=>te sl (fun x s1=>match pubV x with
  | .d y=>gd y s1 E.nx
  | _=>False) E.xc
theorem ds_asg {X:Cx} {W:WX} {tg e:Expr} {te:TD} {g':TG} {gd:TDG} {ix:List Nat} {pos:Pos} (he:DE X W e te) (hg:DG X ix tg g' gd) (hs:swapsWithSole [tg] e pos.line X.env=pure false:=by rfl) (hw:swappedStores [tg] e X.env=pure none:=by rfl)
    (h1:(assignEach [tg] X.env).map (·.2)=[assign tg X.env]:=by rfl):DS X W (.Assign [tg] e pos) (dAsg te gd):=by
  obtain ⟨pg,sg⟩:=hg
  refine ps_len (ps_asg he pg hs hw h1) fun D σ H hl ⟨G,so,sl,E,rep,q,ok⟩=>?_
  refine ⟨G,so,sl,_,E.xc,rep,q,fun v H1 G1 dv s1 p q1=>?_,ok.xc.ex⟩
  obtain ⟨G2,p2⟩:=p.pub
  split at q1
  · rename_i y ey
    rw [ey] at p2
    exact sg G2 so σ H1 s1 v y _ _ hl p2.rep p2.val q1 fun σ' sl' t _ q2=>ok.nx σ' H1 G2 sl' (p2.toPost.s.trans t) q2
  · exact q1.elim
theorem asg_cut {te:TD} {gd:TDG} {u:TDS} {E:EndsD} {sl:DSt} (h:te sl (fun x s1=>match pubV x with
  | .d y=>gd y s1 (u E)
  | _=>False) E.xc):dSeq (dAsg te gd) u E sl:=h
def isB:String→D→Bool
  | "int",.int _=>true
  | "int",.bl _=>true
  | "bool",.bl _=>true
  | "str",.str _=>true
  | "tuple",.tup _=>true
  | "tuple",.kt _=>true
  | "list",.lst _=>true
  | _,_=>false
def kinds:List String:=["int","bool","str","tuple","list"]
theorem kit_isB {T:String} (hT:T∈kinds) {d:D} {t:String} (h:tyD d=some t):kitB t T=some (isB T d):=by
  simp only [kinds,List.mem_cons,List.not_mem_nil,or_false] at hT
  rcases hT with rfl | rfl | rfl | rfl | rfl<;>cases d<;>simp [tyD] at h<;>subst h<;>first | (show kitB _ _=some true;decide +kernel) | (show kitB _ _=some false;decide +kernel)
theorem l_isi {Q:DV→Prop} {x:DV} {d:D} {T:String} (hx:x.dat=some d) (hk:kindD d=true) (hT:T∈kinds) (q:Q (.d (.bl (isB T d)))):isiR [x,.d (.raw (.ty T))] Q:=by
  obtain ⟨t,ht⟩:=Option.isSome_iff_exists.mp hk
  exact isi_ok hx ht (kit_isB hT ht) q
def isBs (Ts:List String) (d:D):Bool:=Ts.any fun T=>isB T d
theorem kits_isB {d:D} {t:String} (h:tyD d=some t):∀ {Ts:List String},(∀ T∈Ts,T∈kinds)→kitBs t Ts=some (isBs Ts d)
  | [],_=>rfl
  | T::Ts,hT=>by
    unfold kitBs
    rw [kit_isB (hT T (List.mem_cons_self ..)) h,kits_isB h fun z hz=>hT z (List.mem_cons_of_mem _ hz)]
    have e:isBs (T::Ts) d=(isB T d || isBs Ts d):=rfl
    rw [e]
    cases isB T d<;>rfl
theorem l_isis {Q:DV→Prop} {x:DV} {d:D} {ts:List D} {Ts:List String} (hx:x.dat=some d) (hk:kindD d=true) (h2:tysD ts=some Ts) (hT:∀ T∈Ts,T∈kinds) (q:Q (.d (.bl (isBs Ts d)))):isiTR [x,.d (.tup ts)] Q:=by
  obtain ⟨t,ht⟩:=Option.isSome_iff_exists.mp hk
  exact l_isiT hx h2 ht (kits_isB ht hT) q
section
variable {K:PySem.W.Frag} {p:Addr × Obj} {C dx:Addr} {fs:List (Str × V)} {c:Str} {σ:L2.St} {H:Hp}
end
abbrev XTxt:=Arguments × List Stmt × Scope
structure XSpec where
  name:Str
  base:Nat
  flds:List Str
  text:XTxt
def xBase:Nat→String × String × String × List Value
  | 0=>("ValueError","ValueError.__new__","ValueError.__init__",[.type "ValueError",.type "Exception",.type "BaseException",.type "object"])
  | 1=>("LookupError","LookupError.__new__","LookupError.__init__",[.type "LookupError",.type "Exception",.type "BaseException",.type "object"])
  | _=>("IndexError","IndexError.__new__","IndexError.__init__",[.type "IndexError",.type "LookupError",.type "Exception",.type "BaseException",.type "object"])
theorem xBase_ok (n:Nat):ExBase (xBase n).1 (xBase n).2.1 (xBase n).2.2.1 (xBase n).2.2.2:=by
  match n with
  | 0=>exact ⟨PySem.F.excBase_ValueError,PySem.W.kxs_ValueError,PySem.F.store_ValueError⟩
  | 1=>exact ⟨PySem.F.excBase_LookupError,PySem.W.kxs_LookupError,PySem.F.store_LookupError⟩
  | n + 2=>exact ⟨PySem.F.excBase_IndexError,PySem.W.kxs_IndexError,PySem.F.store_IndexError⟩
def initAt (K:PySem.W.Frag) (C:Addr):Addr:=match PySem.W.findIn K (.ref C) "__init__" with
  | some (some (.ref f))=>f
  | _=>0
def exObs (K:PySem.W.Frag) (C:Addr):Option XTxt:=match K.lookup (initAt K C) with
  | some ⟨_,_,.func fd,_⟩=>(match fd.body with
    | .stmts b=>some (fd.params,b,fd.scope)
    | _=>none)
  | _=>none
def nonV:Value→Bool
  | .none=>true
  | _=>false
theorem nonV_ok {v:Value} (h:nonV v=true):v=.none:=by cases v<;>first | rfl | cases h
def fnShape (K:PySem.W.Frag) (file:Str) (fI C:Addr):Bool:=match K.lookup fI with
  | some ⟨_,_,.func fd,_⟩=>decide (fd.globals=mainGlobals) && (decide (fd.builtins=builtinsNs) && (nonV fd.defaults && (nonV fd.kwdefaults && (match fd.closure,fd.code with
    | [(x,cc)],.ref cda=>decide (x="__class__") && (PySem.W.codeIn K (.ref cda) fd.qualname && ((match K.lookup cda with
        | some ⟨_,_,.fields vs,_⟩=>(match (vs[2]? : Option Value) with
          | some (.str f _)=>decide (f=file)
          | _=>false)
        | _=>false) && (match K.lookup cc with
        | some ⟨_,_,.cell (some (.ref D)),_⟩=>decide (D=C)
        | _=>false)))
    | _,_=>false))))
  | _=>false
theorem shape_ok {K:PySem.W.Frag} {file:Str} {C:Addr} {params:Arguments} {body:List Stmt} {scope:Scope} (h:fnShape K file (initAt K C) C=true) (e:exObs K C=some (params,body,scope)) :
    ∃ (oc:Value) (od:Option Addr) (osl:Array (Option Value)) (name qual:Str) (doc pm:Value) (an:Option Addr) (cda cc:Addr) (ct:Value) (vs:Array Value) (tf:Tok) (ccl cl:Value) (cdd cld:Option Addr) (ccs csl:Array (Option Value)),
    K.lookup (initAt K C)=some ⟨oc,od,.func (PySem.W.ksFn name qual params body scope .none .none doc pm an (.ref cda) ct cc),osl⟩∧PySem.W.codeIn K (.ref cda) qual=true∧K.lookup cda=some ⟨ccl,cdd,.fields vs,ccs⟩∧vs[2]?=some (.str file tf)∧K.lookup cc=some ⟨cl,cld,.cell (some (.ref C)),csl⟩:=by
  unfold fnShape at h
  unfold exObs at e
  split at h
  · rename_i oc od fd osl lk
    rw [lk] at e
    obtain ⟨nm,ql,pr,bd,sc,gl,cl,df,kd,doc,pm,an,cd,ct,bn⟩:=fd
    dsimp only at h e
    obtain ⟨h1,h⟩:=He.ba h
    obtain ⟨h2,h⟩:=He.ba h
    obtain ⟨h3,h⟩:=He.ba h
    obtain ⟨h4,h⟩:=He.ba h
    split at h
    · rename_i x cc cda
      obtain ⟨h5,h⟩:=He.ba h
      obtain ⟨h6,h⟩:=He.ba h
      obtain ⟨h7,h8⟩:=He.ba h
      split at e
      · rename_i b
        cases e
        have e1:=of_decide_eq_true h1
        have e2:=of_decide_eq_true h2
        have e5:=of_decide_eq_true h5
        have e3:=nonV_ok h3
        have e4:=nonV_ok h4
        subst e1 e2 e3 e4 e5
        split at h7
        · rename_i ccl cdd vs ccs lkc
          split at h7
          · rename_i f tf hv
            have e7:=of_decide_eq_true h7
            subst e7
            split at h8
            · rename_i cl cld D csl lcc
              have e8:=of_decide_eq_true h8
              subst e8
              exact ⟨_,_,_,_,_,_,_,_,_,_,_,_,_,_,_,_,_,_,_,lk,h6,lkc,hv,lcc⟩
            · cases h8
          · cases h7
        · cases h7
      · cases e
    · cases h
  · cases h
def csA (K:PySem.W.Frag):List Value:=[.ref (He.ga K "MilesError"),.ref (He.ga K "Missing"),.ref (He.ga K "NothingLeft")]
def xB (K:PySem.W.Frag) (file:Str) (ask:Bool) (e:XSpec):Bool:=
  let C:=He.ga K e.name
  let b:=xBase e.base
  decide (PySem.W.findIn K (.ref C) "__setattr__"=some (some (.builtin "object.__setattr__"))) &&
  (PySem.W.excOver K C b.2.2.2 &&
  (PySem.W.hasDictIn K C &&
  (PySem.W.excInitIn K C b.2.2.2 b.2.1 &&
  (decide (PySem.W.findIn K (.ref C) "__init__"=some (some (.ref (initAt K C)))) &&
  (decide (PySem.W.typeIn K (.ref (initAt K C))=some (.type "function")) &&
  (decide (PySem.W.ks_superIn K C C "__init__"=some (some (.builtin b.2.2.1))) &&
  (decide (PySem.W.subIn K (.ref C) (.type b.1)=some true) &&
  (decide (PySem.W.mroIn K C (.ref C)=some true) &&
  (decide (PySem.W.subIn K (.ref C) (.type "BaseException")=some true) &&
  (decide (PySem.W.typeIn K (.ref C)=some (.type "type")) &&
  (PySem.W.keepIn K (.ref C) &&
  (decide (PySem.W.nsIn K cStatics "thirdparty.any"=some none) &&
  (fnShape K file (initAt K C) C &&
  ((e.flds.all fun f=>decide (PySem.W.takerIn K C f=some none)) &&
  (!ask || (xfB K C &&
  ((errFields.all fun f=>decide (PySem.W.findIn K (.ref C) f=some none)) && decide (PySem.W.exmAny K (.ref C) (csA K)=some true))))))))))))))))))
structure XOk' (K:PySem.W.Frag) (file:Str) (ask:Bool) (e:XSpec):Prop where
  k:ExK K file (He.ga K e.name) (initAt K (He.ga K e.name)) e.text.1 e.text.2.1 e.text.2.2 (xBase e.base).1 (xBase e.base).2.1 (xBase e.base).2.2.1 (xBase e.base).2.2.2
  t:∀ f∈e.flds,PySem.W.takerIn K (He.ga K e.name) f=some none
  r:ask=true→ErrC K (csA K) (He.ga K e.name)
theorem xB_ok {K:PySem.W.Frag} {file:Str} {ask:Bool} {e:XSpec} (h:xB K file ask e=true) (ht:exObs K (He.ga K e.name)=some e.text):XOk' K file ask e:=by
  unfold xB at h
  dsimp only at h
  obtain ⟨h1,h⟩:=He.ba h
  obtain ⟨h2,h⟩:=He.ba h
  obtain ⟨h3,h⟩:=He.ba h
  obtain ⟨h4,h⟩:=He.ba h
  obtain ⟨h5,h⟩:=He.ba h
  obtain ⟨h6,h⟩:=He.ba h
  obtain ⟨h7,h⟩:=He.ba h
  obtain ⟨h8,h⟩:=He.ba h
  obtain ⟨h9,h⟩:=He.ba h
  obtain ⟨h10,h⟩:=He.ba h
  obtain ⟨h11,h⟩:=He.ba h
  obtain ⟨h12,h⟩:=He.ba h
  obtain ⟨h13,h⟩:=He.ba h
  obtain ⟨h14,h⟩:=He.ba h
  obtain ⟨h15,h16⟩:=He.ba h
  refine ⟨⟨⟨of_decide_eq_true h1,h2,h3⟩,h4,of_decide_eq_true h5,of_decide_eq_true h6,of_decide_eq_true h7,of_decide_eq_true h8,of_decide_eq_true h9,of_decide_eq_true h10,of_decide_eq_true h11,h12,of_decide_eq_true h13,shape_ok h14 ht⟩,fun f hf=>of_decide_eq_true (List.all_eq_true.mp h15 f hf),fun ha=>?_⟩
  rw [ha] at h16
  obtain ⟨z1,z⟩:=He.ba (show (xfB K (He.ga K e.name) && _)=true from h16)
  obtain ⟨z2,z3⟩:=He.ba z
  exact ⟨xfB_ok z1,fun f hf=>of_decide_eq_true (List.all_eq_true.mp z2 f hf),of_decide_eq_true z3⟩
theorem XOk'.cls {K:PySem.W.Frag} {file:Str} {ask:Bool} {e:XSpec} {P:Program} {mg:Str→Option Value} {self:Str} {ps:List Str} {fs:List (Str × (Str ⊕ Str))} (h:XOk' K file ask e) (T:ExT e.text.2.1 e.text.1 e.text.2.2 self ps fs) (hf:((P.main.file:Str) == file)=true) (ht:(P.main.scope.names.lookup ("super":Str)).isSome=false)
    (hb:∀ (e':Addr) (us:List Value),us.length=ps.length→∀ (name qual:Str) (doc pm:Value) (an:Option Addr) (cda ct:Value) (cc:Addr),bindArgs (PySem.W.ksFn name qual e.text.1 e.text.2.1 e.text.2.2 .none .none doc pm an cda ct cc) ⟨.ref e'::us,[]⟩=pure ((self::ps).zip (.ref e'::us)))
    (hfl:∀ f∈fs,f.1∈e.flds) (ne:∀ vs,xdV ps fs vs≠[]) (su:mg ("super":Str)=none) (ln:ps.length≤1000):XCls P K mg (He.ga K e.name) ps fs:=
  ⟨⟨file,_,_,_,_,_,_,_,_,self,xBase_ok _,h.k,T,hf,ht,hb⟩,fun f hf=>h.t f.1 (hfl f hf),ne,su,h.k.kC,ln⟩
structure LY extends LX where
  file:Str
  ask:Bool
  ex:List XSpec
abbrev AlY:Type:=Bool × He.AlD × List (Option XTxt)
def LY.ok (l:LY) (g:Addr→Option Obj) (K:PySem.W.Frag):Bool:=l.toLX.ok g K && l.ex.all fun e=>xB K l.file l.ask e
def valY (l:LY) (fn:List He.DefD):AlY:=(true,He.valD fn,l.ex.map fun e=>some e.text)
structure SaysY (l:LY) (fa:List He.Fa) (fn:List He.DefD) (h:Heap) (K:PySem.W.Frag):Prop extends SaysX l.toLX fa fn h K where
  x:∀ e∈l.ex,XOk' K l.file l.ask e
def wtK (b:Nat):Key→Nat
  | .inl _=>b + 1
  | .inr z=>10 * z.length + 2
def FineK (b:Nat):Key→Prop
  | .inl i=>i.natAbs < 10 ^ b
  | .inr z=>∀ c∈z.cps.toList,c < 0x110000
def wtKs (b:Nat):List Key→Nat
  | []=>0
  | k::r=>wtK b k + 2 + wtKs b r
mutual
def wt (b:Nat):D→Nat
  | .int _=>b + 1
  | .str z=>10 * z.length + 2
  | .lst ds=>wts b ds + 3
  | .tup ds=>wts b ds + 3
  | .kt ks=>wtKs b ks + 3
  | _=>5
def wts (b:Nat):List D→Nat
  | []=>0
  | d::r=>wt b d + 2 + wts b r
end
mutual
def dep:D→Nat
  | .lst ds=>deps ds + 1
  | .tup ds=>deps ds + 1
  | .kt _=>1
  | _=>0
def deps:List D→Nat
  | []=>0
  | d::r=>max (dep d) (deps r)
end
mutual
def Fine (b:Nat):D→Prop
  | .int i=>i.natAbs < 10 ^ b
  | .str z=>∀ c∈z.cps.toList,c < 0x110000
  | .lst ds=>Fines b ds
  | .tup ds=>Fines b ds
  | .non=>True
  | .bl _=>True
  | .ins _ _=>False
  | .dk _=>False
  | .dt _=>False
  | .any=>False
  | .raw _=>False
  | .kt ks=>∀ k∈ks,FineK b k
def Fines (b:Nat):List D→Prop
  | []=>True
  | d::r=>Fine b d∧Fines b r
end
theorem Shw.intN {i:Int} {b:Nat} (hk:0 < b) (h2:b≤500) (h:i.natAbs < 10 ^ b):Shw 0 (b + 1) (.int i) (.int i):=by
  refine ⟨rfl,by simp [PyData.canLay0],by simp [PyData.depth],?_,?_⟩
  · simp only [PyData.showable]
    refine decide_eq_true ?_
    rcases Nat.eq_zero_or_pos i.natAbs with z | z
    · rw [z];decide
    refine (Nat.log2_lt (by omega)).mpr ?_
    refine Nat.lt_of_lt_of_le h (Nat.le_trans (Nat.pow_le_pow_right (by decide) h2) ?_)
    decide +kernel
  · simp only [PyData.shown]
    rcases Int.lt_or_le i 0 with z | z
    · have e:i=-((i.natAbs:Nat):Int):=by omega
      have h0:(toString (i.natAbs:Int):Str).length≤b:=toString_length_le (by omega) hk (by
        have:((i.natAbs:Nat):Int) < ((10 ^ b:Nat):Int):=Int.ofNat_lt.mpr h
        simpa using this)
      rw [e]
      generalize hm:i.natAbs=m at *
      cases m with
      | zero=>omega
      | succ m=>
        have e2:(toString (-((m + 1:Nat):Int)):String)="-"++toString ((m + 1:Nat):Int):=rfl
        have e3:((toString (-((m + 1:Nat):Int)):String):Str).length=((toString ((m + 1:Nat):Int):String):Str).length + 1:=by
          rw [e2,PySem.ofString_length,PySem.ofString_length,String.length_append]
          have:("-":String).length=1:=rfl
          omega
        rw [e3]
        omega
    · have:=toString_length_le z hk (v:=i) (by
        have:((i.natAbs:Nat):Int) < ((10 ^ b:Nat):Int):=Int.ofNat_lt.mpr h
        rw [Int.natAbs_of_nonneg z] at this
        simpa using this)
      omega
structure ShwS (n L:Nat) (ds:List D) (ps:List PyData):Prop where
  py:D.pyAll ds=some ps
  lay:PyData.canLayAll0 ps=true
  dp:PyData.depthAll ps≤n
  sw:PyData.showableAll ps=true
  ln:((PyData.shownAll ps).map fun t=>t.length + 2).sum≤L
theorem textFrom_sum:∀ (ts:List Str) (k:Nat) (acc:Str),(PySem.textFrom k acc ts).length≤acc.length + (ts.map fun t=>t.length + 2).sum
  | [],k,acc=>by show acc.length≤_;simp
  | t::r,k,acc=>by
    have h1:=textFrom_sum r (k + 1) (acc++(if k > 0 then ", " else "":String)++t)
    have e:(acc++(if k > 0 then ", " else "":String)++t).length=acc.length + (if k > 0 then 2 else 0) + t.length:=by
      rw [strLen_append,strLen_append]
      split<;>rfl
    rw [e] at h1
    show (PySem.textFrom (k + 1) (acc++(if k > 0 then ", " else "":String)++t) r).length≤_
    rw [List.map_cons,List.sum_cons]
    have h3:(if k > 0 then 2 else 0)≤2:=by split<;>omega
    omega
theorem join_sum:∀ ts:List Str,(Str.join ", " ts).length≤(ts.map fun t=>t.length + 2).sum
  | []=>by show 0≤_;omega
  | [x]=>by show x.length≤x.length + 2 + 0;omega
  | x::y::r=>by
    have h1:=join_sum (y::r)
    show (x++", "++Str.join ", " (y::r)).length≤_
    rw [strLen_append,strLen_append,List.map_cons,List.sum_cons]
    have e2:((", ":String):Str).length=2:=rfl
    omega
theorem ShwS.lst {n L:Nat} {ds:List D} {ps:List PyData} (h:ShwS n L ds ps):Shw (n + 1) (L + 3) (.lst ds) (.list ps):=by
  refine ⟨by unfold D.py;rw [h.py];rfl,by unfold PyData.canLay0;exact h.lay,by unfold PyData.depth;have:=h.dp;omega,by unfold PyData.showable;exact h.sw,?_⟩
  unfold PyData.shown listText
  rw [strLen_append]
  have:=textFrom_sum (PyData.shownAll ps) 0 "["
  have e1:(("[":String):Str).length=1:=rfl
  have e2:(("]":String):Str).length=1:=rfl
  have:=h.ln
  omega
theorem ShwS.tup {n L:Nat} {ds:List D} {ps:List PyData} (h:ShwS n L ds ps):Shw (n + 1) (L + 3) (.tup ds) (.tuple ps):=by
  refine ⟨by unfold D.py;rw [h.py];rfl,by unfold PyData.canLay0;exact h.lay,by unfold PyData.depth;have:=h.dp;omega,by unfold PyData.showable;exact h.sw,?_⟩
  unfold PyData.shown tupleText
  rw [strLen_append,strLen_append]
  have e1:(("(":String):Str).length=1:=rfl
  have e2:((if (PyData.shownAll ps).length == 1 then ",)" else ")":String):Str).length≤2:=by split<;>decide
  have e3:=join_sum (PyData.shownAll ps)
  have:=h.ln
  omega
section
variable {b:Nat} (hb:0 < b) (h5:b≤500)
include hb h5
theorem fine_keys:∀ ks:List Key,(∀ k∈ks,FineK b k)→ShwS 0 (wtKs b ks) (ks.map keyD) (ks.map keyPy)
  | [],_=>⟨by simp [D.pyAll],by simp [PyData.canLayAll0],by simp [PyData.depthAll],by simp [PyData.showableAll],by simp [PyData.shownAll]⟩
  | k::r,h=>by
    have e1:Shw 0 (wtK b k) (keyD k) (keyPy k):=by
      have hk:=h k (List.mem_cons_self ..)
      cases k with
      | inl i=>exact Shw.intN hb h5 hk
      | inr z=>exact Shw.str hk (Nat.le_refl _)
    have e2:=fine_keys r fun x hx=>h x (List.mem_cons_of_mem _ hx)
    refine ⟨?_,?_,?_,?_,?_⟩
    · rw [List.map_cons,List.map_cons];unfold D.pyAll;rw [e1.py,e2.py]
    · rw [List.map_cons];unfold PyData.canLayAll0;rw [e1.lay,e2.lay];rfl
    · rw [List.map_cons];unfold PyData.depthAll
      have:=e1.dp;have:=e2.dp
      omega
    · rw [List.map_cons];unfold PyData.showableAll;rw [e1.sw,e2.sw];rfl
    · rw [List.map_cons];unfold PyData.shownAll;rw [wtKs,List.map_cons,List.sum_cons]
      have:=e1.ln;have:=e2.ln
      omega
mutual
theorem fine_shw:∀ d:D,Fine b d→∃ p,Shw (dep d) (wt b d) d p
  | .non,_=>⟨_,Shw.non.mono (Nat.le_refl _) (by show 4≤5;omega)⟩
  | .bl x,_=>⟨_,Shw.bl x⟩
  | .int i,h=>⟨_,Shw.intN hb h5 (by simpa only [Fine] using h)⟩
  | .str z,h=>⟨_,Shw.str (by simpa only [Fine] using h) (Nat.le_refl _)⟩
  | .lst ds,h=>let ⟨ps,e⟩:=fine_shws ds (by simpa only [Fine] using h);⟨_,(by simpa only [dep,wt] using e.lst)⟩
  | .tup ds,h=>let ⟨ps,e⟩:=fine_shws ds (by simpa only [Fine] using h);⟨_,(by simpa only [dep,wt] using e.tup)⟩
  | .ins _ _,h=>by simp [Fine] at h
  | .dk _,h=>by simp [Fine] at h
  | .dt _,h=>by simp [Fine] at h
  | .any,h=>by simp [Fine] at h
  | .raw _,h=>by simp [Fine] at h
  | .kt ks,h=>by
    have h':∀ k∈ks,FineK b k:=by simpa only [Fine] using h
    have z:=(fine_keys hb h5 ks h').tup
    exact ⟨_,⟨by rw [D.py],z.lay,by rw [dep];exact z.dp,z.sw,by rw [wt];exact z.ln⟩⟩
theorem fine_shws:∀ ds:List D,Fines b ds→∃ ps,ShwS (deps ds) (wts b ds) ds ps
  | [],_=>⟨[],by simp [D.pyAll],by simp [PyData.canLayAll0],by simp [PyData.depthAll],by simp [PyData.showableAll],by simp [PyData.shownAll]⟩
  | d::r,h=>by
    rw [Fines] at h
    obtain ⟨p,e1⟩:=fine_shw d h.1
    obtain ⟨ps,e2⟩:=fine_shws r h.2
    refine ⟨p::ps,?_,?_,?_,?_,?_⟩
    · unfold D.pyAll;rw [e1.py,e2.py]
    · unfold PyData.canLayAll0;rw [e1.lay,e2.lay];rfl
    · unfold PyData.depthAll;rw [deps]
      have:=e1.dp;have:=e2.dp
      omega
    · unfold PyData.showableAll;rw [e1.sw,e2.sw];rfl
    · unfold PyData.shownAll;rw [wts,List.map_cons,List.sum_cons]
      have:=e1.ln;have:=e2.ln
      omega
end
theorem fine_lst {ds:List D} (h:Fines b ds) (h1:deps ds≤60) (h2:wts b ds≤16000000):∃ p,Shows (.lst ds) p:=by
  obtain ⟨p,e⟩:=fine_shw hb h5 (.lst ds) (by simpa only [Fine] using h)
  refine ⟨p,e.shows (.inl ⟨_,rfl⟩) (by rw [dep];omega) (by rw [wt];have:szl=16777216:=rfl;omega)⟩
end
theorem fcons {b:Nat} {d:D} {r:List D} (h:Fine b d) (t:Fines b r):Fines b (d::r):=by rw [Fines];exact ⟨h,t⟩
theorem fint {b:Nat} {i:Int} (h:i.natAbs < 10 ^ b):Fine b (.int i):=by rw [Fine];exact h
theorem fstr {b:Nat} {z:Str} (h:∀ c∈z.cps.toList,c < 0x110000:=by decide +kernel):Fine b (.str z):=by rw [Fine];exact h
theorem fnon {b:Nat}:Fine b .non:=by simp [Fine]
theorem fbl {b:Nat} {x:Bool}:Fine b (.bl x):=by simp [Fine]
theorem ftup {b:Nat} {ds:List D} (h:Fines b ds):Fine b (.tup ds):=by rw [Fine];exact h
theorem flst {b:Nat} {ds:List D} (h:Fines b ds):Fine b (.lst ds):=by rw [Fine];exact h
theorem same_lst (b:Nat) {Q:DV→Prop} {E:XE'} {ds es:List D} (he:ds=es) (h:Fines b es) (q:Q (.d (.bl true))) (h1:deps es≤60:=by first | decide | exact Nat.le_of_ble_eq_true rfl) (h2:wts b es≤16000000:=by first | decide | exact Nat.le_of_ble_eq_true rfl) (hb:0 < b:=by decide) (h5:b≤500:=by decide):spSame [.d (.lst ds),.d (.lst es)] Q E:=by
  subst he
  obtain ⟨p,s⟩:=fine_lst hb h5 h h1 h2
  exact same_true s q
def kinds6:List String:=["NoneType","bool","int","str","list","tuple"]
def numB (K:PySem.W.Frag) (C:Addr):Bool:=(match PySem.W.clsIn K C with
  | some cd=>(match cd.mro with
    | x::_=>decide (x=.ref C)
    | []=>false)
  | none=>false) && (decide (PySem.W.findIn K (.ref C) "__rmul__"=some none) && decide (PySem.W.findIn K (.ref C) "__radd__"=some none))
structure CInst (K:PySem.W.Frag) (C:Addr):Prop where
  cl:Cls K C
  gc:PySem.W.findIn K (.ref C) "__class__"=some (some (.builtin "object.__class__"))
  gs:PySem.W.specialIn K (.builtin "object.__class__") "__get__"=some (some (.builtin "getset_descriptor.__get__"))
  gt:PySem.W.takesIn K (.builtin "object.__class__")=some true
  mo:PySem.W.mroIn K C (.type "object")=some true
  own:PySem.W.kitOne K (.ref C) (.ref C)=some true
  no:∀ t∈kinds6,PySem.W.kitOne K (.type t) (.ref C)=some false
  ty:∀ t∈kinds6,PySem.W.kitOne K (.ref C) (.type t)=some false
  sub:∀ t∈kinds6,PySem.W.subIn K (.type t) (.ref C)=some false
  ne:PySem.W.findIn K (.ref C) "__ne__"=some (some (.builtin "object.__ne__"))
  nu:numB K C=true
def cB (K:PySem.W.Frag) (C:Addr):Bool:=numB K C && (
  decide (PySem.W.plainGet K C Str.empty=true) && (PySem.W.hasDictIn K C && (PySem.W.plainOver K C && (decide (PySem.W.findIn K (.ref C) "__setattr__"=some (some (.builtin "object.__setattr__"))) &&
  (decide (PySem.W.findIn K (.ref C) "__class__"=some (some (.builtin "object.__class__"))) &&
  (decide (PySem.W.specialIn K (.builtin "object.__class__") "__get__"=some (some (.builtin "getset_descriptor.__get__"))) &&
  (decide (PySem.W.takesIn K (.builtin "object.__class__")=some true) &&
  (decide (PySem.W.mroIn K C (.type "object")=some true) &&
  (decide (PySem.W.kitOne K (.ref C) (.ref C)=some true) &&
  ((kinds6.all fun t=>decide (PySem.W.kitOne K (.type t) (.ref C)=some false)) &&
  ((kinds6.all fun t=>decide (PySem.W.kitOne K (.ref C) (.type t)=some false)) &&
  ((kinds6.all fun t=>decide (PySem.W.subIn K (.type t) (.ref C)=some false)) &&
  decide (PySem.W.findIn K (.ref C) "__ne__"=some (some (.builtin "object.__ne__")))))))))))))))
theorem cB_ok {K:PySem.W.Frag} {C:Addr} (h:cB K C=true):CInst K C:=by
  unfold cB at h
  obtain ⟨h0,h⟩:=He.ba h
  obtain ⟨h1,h⟩:=He.ba h
  obtain ⟨h2,h⟩:=He.ba h
  obtain ⟨h3,h⟩:=He.ba h
  obtain ⟨h4,h⟩:=He.ba h
  obtain ⟨h5,h⟩:=He.ba h
  obtain ⟨h6,h⟩:=He.ba h
  obtain ⟨h7,h⟩:=He.ba h
  obtain ⟨h8,h⟩:=He.ba h
  obtain ⟨h9,h⟩:=He.ba h
  obtain ⟨h10,h⟩:=He.ba h
  obtain ⟨h11,h⟩:=He.ba h
  obtain ⟨h12,h13⟩:=He.ba h
  exact ⟨⟨of_decide_eq_true h1,h2,h3,of_decide_eq_true h4⟩,of_decide_eq_true h5,of_decide_eq_true h6,of_decide_eq_true h7,of_decide_eq_true h8,of_decide_eq_true h9,fun t ht=>of_decide_eq_true (List.all_eq_true.mp h10 t ht),
    fun t ht=>of_decide_eq_true (List.all_eq_true.mp h11 t ht),fun t ht=>of_decide_eq_true (List.all_eq_true.mp h12 t ht),of_decide_eq_true h13,h0⟩
section
variable {K:PySem.W.Frag} {G H:Hp} {so:So} {v:V} {dv:DV} {C:Addr} {fs:List (Str × D)}
theorem ty_ins (h:HRep K G so H) (w:VOk K G so H v dv) (c:CInst K C) (e:dv.inst=some (C,fs)):TyX K H v (.ref C):=by
  obtain ⟨a,dx,vs,rfl,h1,_⟩:=w.inst h e
  exact .base (.ins h1 c.cl c.gc c.gs c.gt c.mo)
end
theorem ty_kind {d:D} {t:String} (h:tyD d=some t):t∈kinds6:=by
  cases d<;>cases h<;>decide
@[irreducible] def isiCR (K:PySem.W.Frag) (C:Addr):List DV→(DV→Prop)→Prop
  | [v,.d (.raw (.ref D))],Q=>D=C∧CInst K C∧match v.inst with
    | some (B,_)=>B=C∧Q (.d (.bl true))
    | none=>match v.dat with
      | some d=>(tyD d).isSome=true∧Q (.d (.bl false))
      | none=>False
  | _,_=>False
theorem sem_isiC {K:PySem.W.Frag} {C:Addr}:CallSem K (rIsi K) (isiCR K C):=by
  intro G so H xs dxs Q R h w q k
  unfold isiCR at q
  split at q
  · obtain ⟨v,v',rfl,w1,w2,_⟩:=w.v2
    cases w2
    obtain ⟨rfl,c,q⟩:=q
    split at q
    · rename_i B fs e
      obtain ⟨rfl,q⟩:=q
      exact ⟨_,_,_,_,true,rfl,.own _,ty_ins h w1 c e,c.own,k _ H G _ (.dat h (.bl _)) q⟩
    · split at q
      · rename_i d e
        obtain ⟨et,q⟩:=q
        obtain ⟨t,et⟩:=Option.isSome_iff_exists.mp et
        exact ⟨_,_,_,_,false,rfl,.own _,ty_ok h w1 e et,c.no t (ty_kind et),k _ H G _ (.dat h (.bl _)) q⟩
      · exact q.elim
  · exact q.elim
theorem l_isiC1 {K:PySem.W.Frag} {C:Addr} {v:DV} {fs:List (Str × D)} {Q:DV→Prop} (c:CInst K C) (h:v.inst=some (C,fs)) (q:Q (.d (.bl true))):isiCR K C [v,.d (.raw (.ref C))] Q:=by
  unfold isiCR
  refine ⟨rfl,c,?_⟩
  rw [h]
  exact ⟨rfl,q⟩
theorem l_isiC0 {K:PySem.W.Frag} {C:Addr} {v:DV} {d:D} {Q:DV→Prop} (c:CInst K C) (h0:v.inst=none) (h:v.dat=some d) (ht:(tyD d).isSome=true) (q:Q (.d (.bl false))):isiCR K C [v,.d (.raw (.ref C))] Q:=by
  unfold isiCR
  refine ⟨rfl,c,?_⟩
  rw [h0,h]
  exact ⟨ht,q⟩
section
variable {X:Cx} {k:Nat} {f C:Addr} {fd:FuncData} {ps:List Str} {sp:SpD}
theorem run_dun {pins:List (Addr × Obj)} {σ:L2.St} {H:Hp} {s:Shared} {Q:VK} {A:Around} {us:List Value} {vs:List V} (F:FnG X.prog X.w X.K X.mg X.base k f fd ps sp) (hr:Room k A) (hg:A.guards=some []) (hf:A.frames=X.A.frames) (hb:Binds X.K fd ps [])
    (I:Inv X pins σ H s) (r:Vals vs us) (q:upSp X.K sp vs H Q fun _ _ _=>False) :
    wpAny (model X.prog X.w) A (call (.ref f) us) (EP X pins σ Q) X.xe s:=by
  have e:=I.env0
  have e0:Env0 X.prog X.w X.K X.mg X.base A X.stack s H:=⟨by rw [hf];exact e.frames,e.mod,e.bs,e.bsz,e.funs,e.frf,e.hok,e.bare⟩
  have hl:us.length=ps.length:=by
    obtain ⟨G,so,as,QD,ED,h,w,z,_⟩:=q
    rw [← r.length,w.length]
    exact F.len _ _ _ z
  refine wpAny_call (codeAny_mono (F.run A X.stack s H ⟨us,[]⟩ us vs Q (fun _ _ _=>False) hr hg e0 (by
    have:=hb s us I.kIn (by simpa using hl)
    simpa using this) r q) fun r s' hz=>?_)
  cases r with
  | error e=>
    obtain ⟨a,B,H',cls,d,_,_,_,_,_,_,_,z⟩:=hz
    exact z.elim
  | ok fl=>
    cases fl with
    | ret u=>exact I.after hz
    | next=>exact False.elim hz
    | brk=>exact False.elim hz
    | cont=>exact False.elim hz
def rReprI (K:PySem.W.Frag) (C:Addr) (sp:SpD):List V→Hp→VK→Prop:=fun xs H Q=>∃ a dx fs,xs=[.ref a]∧H a=some (.ins C dx fs)∧upSp K sp xs H (fun v H'=>∃ z,v=.str z∧Q v H') fun _ _ _=>False
theorem call_reprI (hm:Meth X.K C "__repr__" f) (F:FnG X.prog X.w X.K X.mg X.base k f fd ps sp) (hr:Room (k + 1) X.A) (hg:X.A.guards=some []) (hb:Binds X.K fd ps []):CallR X (.builtin "repr") (rReprI X.K C sp):=by
  intro pins s σ H xs us Q I r h
  obtain ⟨a,dx,fs,rfl,e,q⟩:=h
  obtain ⟨u,rfl,ru⟩:∃ u,us=[u]∧RelV (.ref a) u:=by
    cases r with
    | cons ru t=>cases t;exact ⟨_,rfl,ru⟩
  cases ru
  obtain ⟨mA,J,_⟩:=ins_get I.hok e
  obtain ⟨od,J,_⟩:=J.look
  obtain ⟨m,hF⟩:=I.fr
  refine PySem.W.repr_K (h₀:=X.base) hr.in1.units0 hF I.ok.mod.kin J hm.at_ hm.fn ?_
  refine wpAny_mono (run_dun (A:=X.A.in1) F hr.in1 hg rfl hb I r q) (fun v s' hv=>?_) fun _ _ x=>x
  obtain ⟨y,H',I',ry,z,rfl,hq⟩:=hv
  obtain ⟨t,rfl⟩:∃ t,v=.str z t:=ry
  exact ⟨.str z,H',I',⟨t,rfl⟩,hq⟩
@[irreducible] def reprIR (C:Addr) (sp:SpD):List DV→(DV→Prop)→Prop
  | [.d (.ins D fs)],Q=>D=C∧sp [.d (.ins D fs)] (fun v=>match v with
    | .d (.str z)=>Q (.d (.str z))
    | _=>False) fun _ _=>False
  | _,_=>False
theorem sem_reprI {K:PySem.W.Frag}:CallSem K (rReprI K C sp) (reprIR C sp):=by
  intro G so H xs dxs Q R h w q hk
  unfold reprIR at q
  split at q
  · rename_i D fs
    obtain ⟨v,rfl,w1⟩:∃ v,xs=[v]∧VOk K G so H v (.d (.ins D fs)):=by
      cases w with
      | cons w1 _ t=>cases t;exact ⟨_,rfl,w1⟩
    obtain ⟨rfl,q⟩:=q
    obtain ⟨a,dx,vs,rfl,e,_⟩:=w1.inst h rfl
    refine ⟨a,dx,vs,rfl,e,G,so,_,_,_,h,w,q,fun v H' G' dv p z=>?_,fun _ _ _ _ _ _ _ z=>z⟩
    split at z
    · rename_i y
      have:v=.str y:=by
        have:=p.val
        cases this;rfl
      exact ⟨y,this,hk v H' G' _ p z⟩
    · exact z.elim
  · exact q.elim
theorem l_reprI {fs:List (Str × D)} {Q:DV→Prop} (h:sp [.d (.ins C fs)] (fun v=>match v with
    | .d (.str z)=>Q (.d (.str z))
    | _=>False) fun _ _=>False):reprIR C sp [.d (.ins C fs)] Q:=by
  unfold reprIR
  exact ⟨rfl,h⟩
end
section
variable {M:Model} {prog:Program} {w:World} {A:Around} {E:Value→Shared→Prop} {s:Shared} {K:PySem.W.Frag} {x C f L:Addr} {ox:Obj} {od:Option Obj} {h₀:Heap} {m:Str→Option Value} {b tb:Value}
end
section
variable {X:Cx} {k:Nat} {f C:Addr} {fd:FuncData} {ps:List Str} {sp:SpD}
def rCmpI (K:PySem.W.Frag) (C:Addr) (sp:SpD) (n:Bool):R2:=fun x y H Q=>∃ a dx fs t,x=.ref a∧H a=some (.ins C dx fs)∧TyX K H y t∧PySem.W.notFirst K C t=true∧upSp K sp [x,y] H (fun v H'=>∃ b,v=.bl b∧Q (.bl (if n then !b else b)) H') fun _ _ _=>False
theorem op_eqI (hm:Meth X.K C "__eq__" f) (F:FnG X.prog X.w X.K X.mg X.base k f fd ps sp) (hr:Room (k + 1) X.A) (hg:X.A.guards=some []) (hb:Binds X.K fd ps []):OpR X (compareOp .Eq) (rCmpI X.K C sp false):=by
  intro pins s σ H x y v u Q I rx ry h
  obtain ⟨a,dx,fs,t,rfl,e,ty,nf,q⟩:=h
  cases rx
  obtain ⟨mA,J,_⟩:=ins_get I.hok e
  obtain ⟨od,J,_⟩:=J.look
  obtain ⟨m,hF⟩:=I.fr
  obtain ⟨P,Z,p,_⟩:=kit_of I ry ty
  refine PySem.W.cmp_K (op:=.Eq) (h₀:=X.base) hr.units0 hF I.ok.mod.kin J (Z.ty _ _ I.kIn p) nf hm.at_ hm.fn ?_
  refine wpAny_mono (run_dun (A:=X.A) F (hr.mono (by omega)) hg rfl hb I (vs:=[.ref a,y]) (.cons rfl (.cons ry .nil)) q) (fun v s' hv=>?_) fun _ _ x=>x
  obtain ⟨z,H',I',rz,b,rfl,hq⟩:=hv
  obtain rfl:v=.bool b:=rz
  exact ⟨.bl b,H',I',rfl,hq⟩
@[irreducible] def cmpIR (K:PySem.W.Frag) (C:Addr) (sp:SpD) (n:Bool) (x y:DV) (Q:DV→Prop):Prop:=match x,y with
  | .d (.ins D fs),.d e=>D=C∧CInst K C∧((∃ gs,e=.ins C gs)∨(tyD e).isSome=true)∧sp [.d (.ins D fs),.d e] (fun v=>match v with
    | .d (.bl b)=>Q (.d (.bl (if n then !b else b)))
    | _=>False) fun _ _=>False
  | _,_=>False
theorem sem_cmpI {K:PySem.W.Frag} {n:Bool}:OpSem K (rCmpI K C sp n) (cmpIR K C sp n):=by
  intro G so H x y dx dy Q R h wx wy q hk
  unfold cmpIR at q
  split at q
  · rename_i D fs e
    obtain ⟨rfl,c,ho,q⟩:=q
    obtain ⟨a,dd,vs,rfl,ea,_⟩:=wx.inst h rfl
    have ty:∃ t,TyX K H y t∧PySem.W.notFirst K D t=true:=by
      rcases ho with ⟨gs,rfl⟩ | ho
      · exact ⟨_,ty_ins h wy c rfl,by simp [PySem.W.notFirst]⟩
      · obtain ⟨t,et⟩:=Option.isSome_iff_exists.mp ho
        refine ⟨_,ty_ok h wy rfl et,?_⟩
        unfold PySem.W.notFirst
        rw [c.sub t (ty_kind et)]
        simp
    obtain ⟨t,t1,t2⟩:=ty
    refine ⟨a,dd,vs,t,rfl,ea,t1,t2,G,so,_,_,_,h,.cons wx (fun _ e=>(nomatch e)) (.cons wy (fun _ e=>(nomatch e)) .nil),q,fun v H' G' dv p z=>?_,fun _ _ _ _ _ _ _ z=>z⟩
    split at z
    · rename_i b
      have:v=.bl b:=by
        have:=p.val
        cases this;rfl
      subst this
      refine ⟨b,rfl,hk _ H' G' (.d (.bl (if n then !b else b))) ⟨p.ex,p.hrep,p.keep,p.frm,.bl _,fun _ _ e=>(nomatch e),fun _ e=>(nomatch e)⟩ z⟩
    · exact z.elim
  · exact q.elim
theorem l_cmpI {K:PySem.W.Frag} {n:Bool} {fs:List (Str × D)} {e:D} {Q:DV→Prop} (c:CInst K C) (ho:(∃ gs,e=.ins C gs)∨(tyD e).isSome=true) (h:sp [.d (.ins C fs),.d e] (fun v=>match v with
    | .d (.bl b)=>Q (.d (.bl (if n then !b else b)))
    | _=>False) fun _ _=>False):cmpIR K C sp n (.d (.ins C fs)) (.d e) Q:=by
  unfold cmpIR
  exact ⟨rfl,c,ho,h⟩
end
section
variable {X:Cx} {W:WX} {e:Expr} {es:List Expr} {te:TD} {tr:TDA} {p pos:Pos}
@[irreducible] def fmtR (x:DV) (Q:DV→Prop):Prop:=match x with
  | .d (.str z)=>z.length≤szl∧Q (.d (.str z))
  | .d (.int i)=>i.natAbs.log2 < 1920∧Q (.d (.str (toString i)))
  | _=>False
theorem de_fmt (he:DE X W e te):DE X W (.FormattedValue e (-1) none pos) (dUn fmtR te):=by
  refine pe_imp (pe_fmt he) fun σ H R ⟨G,so,sl,Q,E,rep,q,hq,hx⟩=>?_
  refine ⟨G,so,sl,_,E,rep,q,fun x H1 G1 dx s1 p1 h1=>?_,hx⟩
  unfold fmtR at h1
  split at h1
  · have w:=p1.val
    cases w
    exact .inl ⟨_,rfl,by rw [← szl_eq];exact h1.1,hq _ H1 G1 _ s1 (p1.toPost.thenV (.dat p1.rep.h (.str _))) h1.2⟩
  · have w:=p1.val
    cases w
    exact .inr ⟨_,rfl,h1.1,hq _ H1 G1 _ s1 (p1.toPost.thenV (.dat p1.rep.h (.str _))) h1.2⟩
  · exact h1.elim
theorem l_fmtS {z:Str} {Q:DV→Prop} (h:z.length≤szl) (q:Q (.d (.str z))):fmtR (.d (.str z)) Q:=by unfold fmtR;exact ⟨h,q⟩
theorem l_fmtI {i:Int} {Q:DV→Prop} (h:i.natAbs.log2 < 1920) (q:Q (.d (.str (toString i)))):fmtR (.d (.int i)) Q:=by unfold fmtR;exact ⟨h,q⟩
inductive DJ (X:Cx) (W:WX):List Expr→List TD→Prop where
  | nil:DJ X W [] []
  | cons {e:Expr} {t:TD} {es:List Expr} {ts:List TD} (h:DE X W e t) (r:DJ X W es ts):DJ X W (e::es) (t::ts)
theorem DJ.pj {es:List Expr} {ts:List TD} (h:DJ X W es ts):PJ X es (ts.map (up X.K W)):=by
  induction h with
  | nil=>exact .nil
  | cons h r ih=>exact .cons h ih
def dJs:List TD→Str→DSt→(DV→DSt→Prop)→XP→Prop
  | [],acc,sl,Q,_=>Q (.d (.str acc)) sl
  | t::ts,acc,sl,Q,E=>t sl (fun x s1=>match x with
    | .d (.str y)=>(acc++y).length≤szl∧dJs ts (acc++y) s1 Q E
    | _=>False) E
theorem up_js {σ:L2.St}:∀ (ts:List TD) (acc:Str) {H:Hp} {R:VK} {G:Hp} {so:So} {sl:DSt} {Q:DV→DSt→Prop} {E:XP},Rep X.K G so σ H sl→dJs ts acc sl Q E→(∀ v H' G' dv sl',PostE X.K G so σ H sl v H' G' dv sl'→Q dv sl'→R v H')→XOk X.K W G so σ H sl E→
    tJs (ts.map (up X.K W)) acc σ H fun out H1=>R (.str out) H1
  | [],acc,H,R,G,so,sl,Q,E,rep,q,hq,_=>hq _ H G _ sl ((Post.refl rep).thenV (.dat rep.h (.str acc))) q
  | t::ts,acc,H,R,G,so,sl,Q,E,rep,q,hq,hx=>by
    refine ⟨G,so,sl,_,E,rep,q,fun x H1 G1 dx s1 p1 h1=>?_,hx⟩
    split at h1
    · rename_i y
      have w:=p1.val
      cases w
      exact ⟨y,rfl,by rw [← szl_eq];exact h1.1,up_js ts (acc++y) p1.rep h1.2 (fun v H' G' dv sl' p2 z=>hq v H' G' dv sl' (p1.toPost.thenE p2) z) (hx.step p1.toPost)⟩
    · exact h1.elim
theorem de_fstr {v1 v2:Expr} {rest:List Expr} {ts:List TD} (h:DJ X W (v1::v2::rest) ts):DE X W (.JoinedStr (v1::v2::rest) pos) (dJs ts Str.empty):=
  pe_imp (pe_joined h.pj) fun σ H R ⟨G,so,sl,Q,E,rep,q,hq,hx⟩=>up_js ts Str.empty rep q hq hx
end
section
variable {X:Cx} {W:WX} {k:Nat} {C p g:Addr} {f:Str} {fd:FuncData} {ps:List Str} {sp:SpD} {e:Expr} {te:TD} {pos:Pos}
theorem getprop {pins:List (Addr × Obj)} {σ:L2.St} {H:Hp} {s:Shared} {Q:VK} {b:Bool} {a dx:Addr} {fs:List (Str × V)} (I:Inv X pins σ H s) (ea:H a=some (.ins C dx fs)) (c:Cls X.K C) (hp:PropOf X.K C f p g) (F:FnG X.prog X.w X.K X.mg X.base k g fd ps sp) (hr:Room (k + 1) X.A) (hg:X.A.guards=some [])
    (hb:Binds X.K fd ps []) (h:upSp X.K sp [.ref a] H Q fun _ _ _=>False):wpAny (model X.prog X.w) X.A (getAttr (.ref a) f b) (EP X pins σ Q) X.xe s:=by
  obtain ⟨mA,O,_,_,_,_⟩:=ins_get I.hok ea
  obtain ⟨od,J,_⟩:=O.look
  obtain ⟨rest,hrec⟩:=hp.rec_
  have I1:=I.tok (s.toks + 1)
  have hl:[Value.ref a].length=ps.length:=by
    obtain ⟨G,so,as,QD,ED,hh,w,z,_⟩:=h
    have:=F.len _ _ _ z
    rw [← this,← w.length];rfl
  have hc:(PySem.W.clsIn X.K C).isSome=true:=by
    obtain ⟨cd,hc,_⟩:=PySem.W.any_some c.hd
    rw [hc];rfl
  have e:=I1.env0
  refine PySem.W.get_bind I.kIn J (PySem.W.plainGet_of (c.get f)).1 (PySem.W.findObj_data hc hp.at_ hp.get hp.tak) (PySem.W.plainGet_of (c.get f)).2 (wpAny_call (PySem.W.prop_get (s:={ s with toks:=s.toks + 1 }) I.kIn hrec ?_))
  refine codeAny_mono (F.run X.A.in1 X.stack { s with toks:=s.toks + 1 } H ⟨[.ref a],[]⟩ [.ref a] [.ref a] Q (fun _ _ _=>False) hr.in1 hg e.in1 (by
    have:=hb { s with toks:=s.toks + 1 } [.ref a] I1.kIn (by simpa using hl)
    simpa using this) (.cons rfl .nil) h) fun r s' hq=>?_
  cases r with
  | error er=>
    obtain ⟨_,_,_,_,_,_,_,_,_,_,_,_,z⟩:=hq
    exact z.elim
  | ok fl=>
    cases fl with
    | ret u=>
      obtain ⟨v,H',I3,rv,q3⟩:=I1.after hq
      show wpAny _ _ (handedOut u) _ _ _
      rw [PySem.W.handedOut_of (handed_of rv)]
      exact wpAny_pure ⟨v,H',I3,rv,q3⟩
    | next=>exact False.elim hq
    | brk=>exact False.elim hq
    | cont=>exact False.elim hq
def dProp (C:Addr) (sp:SpD) (te:TD):TD:=fun sl Q E=>te sl (fun x s1=>match pubV x with
  | .d (.ins D fs)=>D=C∧sp [.d (.ins D fs)] (fun v=>Q v s1) fun _ _=>False
  | _=>False) E
theorem de_prop (he:DE X W e te) (c:Cls X.K C) (hp:PropOf X.K C f p g) (F:FnG X.prog X.w X.K X.mg X.base k g fd ps sp) (hr:Room (k + 1) X.A) (hg:X.A.guards=some []) (hb:Binds X.K fd ps [])
    (hab:attributeBase e f X.env (eval e X.env)=eval e X.env:=by rfl):DE X W (.Attribute e f pos) (dProp C sp te):=by
  refine ⟨fun pins s σ H R I ⟨G,so,sl,Q,E,rep,q,hq,hx⟩=>?_⟩
  refine attr_of hab (thn (he.run pins s σ H (fun v H1=>∃ G1 s1 fs,PostE X.K G so σ H sl v H1 G1 (.d (.ins C fs)) s1∧sp [.d (.ins C fs)] (fun v=>Q v s1) fun _ _=>False) I ⟨G,so,sl,_,E,rep,q,fun v H1 G1 dv s1 p1 z=>?_,hx⟩) fun u s1 ⟨x,H1,I1,rx,G1,sl1,fs,p1,z⟩=>?_)
  · obtain ⟨G2,p2⟩:=p1.pub
    split at z
    · rename_i D fs ed
      obtain ⟨rfl,z⟩:=z
      exact ⟨G2,s1,fs,by rw [← ed];exact p2,z⟩
    · exact z.elim
  · obtain ⟨a,dx,vs,rfl,ea,_⟩:=VOk.inst p1.rep.h p1.val rfl
    obtain rfl:u=Value.ref a:=rx
    exact getprop I1 ea c hp F hr hg hb ⟨G1,so,_,_,_,p1.rep.h,.cons p1.val (fun _ e=>(nomatch e)) .nil,z,fun v H' G' dv pv y=>hq v H' G' dv sl1 (p1.toPost.thenE (pv.slots p1.rep)) y,fun _ _ _ _ _ _ _ y=>y⟩
end
def gAt (K:PySem.W.Frag) (C:Addr) (f:Str):Addr:=match PySem.W.recIn K (He.ma K C f) "property" with
  | some (.ref g::_)=>g
  | _=>(match PySem.W.recIn K (He.ma K C f) "staticmethod" with
    | some (.ref g::_)=>g
    | _=>0)
structure PSpec where
  cls:Str
  prop:Str
  df:He.DefD
  st:Bool:=false
structure SMet (K:PySem.W.Frag) (C:Addr) (m:Str) (p g:Addr):Prop where
  rd:PySem.W.readsIn K C (.type "type")=true
  ga:PySem.W.specialIn K (.ref C) "__getattribute__"=some (some (.builtin "type.__getattribute__"))
  at_:PySem.W.findCls K (.ref C) (.type "type") m=some (.get (.builtin "staticmethod.__get__") (.ref p) .none (.ref C))
  rc:∃ rest,PySem.W.recIn K p "staticmethod"=some (.ref g::rest)
def headS (K:PySem.W.Frag) (p g:Addr):Bool:=match PySem.W.recIn K p "staticmethod" with
  | some (.ref a::_)=>decide (a=g)
  | _=>false
def smB (K:PySem.W.Frag) (C p g:Addr) (m:Str):Bool:=PySem.W.readsIn K C (.type "type") && (decide (PySem.W.specialIn K (.ref C) "__getattribute__"=some (some (.builtin "type.__getattribute__"))) && ((match PySem.W.findCls K (.ref C) (.type "type") m with
  | some (.get (.builtin h) (.ref p') .none (.ref D))=>decide (h="staticmethod.__get__") && (decide (p'=p) && decide (D=C))
  | _=>false) && headS K p g))
theorem smB_ok {K:PySem.W.Frag} {C p g:Addr} {m:Str} (h:smB K C p g m=true):SMet K C m p g:=by
  unfold smB at h
  obtain ⟨h1,h⟩:=He.ba h
  obtain ⟨h2,h⟩:=He.ba h
  obtain ⟨h3,h4⟩:=He.ba h
  refine ⟨h1,of_decide_eq_true h2,?_,?_⟩
  · split at h3
    · rename_i q p' D e
      obtain ⟨k1,k⟩:=He.ba h3
      obtain ⟨k2,k3⟩:=He.ba k
      rw [e,of_decide_eq_true k1,of_decide_eq_true k2,of_decide_eq_true k3]
    · cases h3
  · unfold headS at h4
    split at h4
    · rename_i a rest hr
      exact ⟨rest,by rw [hr,of_decide_eq_true h4]⟩
    · cases h4
def fnWa (K:PySem.W.Frag) (a:Addr):He.FnW:=match K.lookup a with
  | some ⟨_,_,.func fd,_⟩=>some (fd.name,fd.qualname,fd.params,fd.body,fd.scope,fd.globals,fd.closure,fd.builtins)
  | _=>none
def headed (K:PySem.W.Frag) (p g:Addr):Bool:=match PySem.W.recIn K p "property" with
  | some (.ref a::_)=>decide (a=g)
  | _=>false
def pB (K:PySem.W.Frag) (q:PSpec):Bool:=
  let C:=He.ga K q.cls
  let p:=He.ma K C q.prop
  let g:=gAt K C q.prop
  (if q.st then smB K C p g q.prop else decide (PySem.W.findIn K (.ref C) q.prop=some (some (.ref p))) && (decide (PySem.W.specialIn K (.ref p) "__get__"=some (some (.builtin "property.__get__"))) && (decide (PySem.W.takesIn K (.ref p)=some true) && headed K p g))) &&
  (PySem.W.keepIn K (.ref g) && (match K.lookup g with
    | some ⟨_,_,.func fd,_⟩=>PySem.W.codeIn K fd.code q.df.qual && (He.dflB K fd.defaults (q.df.dvs K) && He.kwdB K fd.kwdefaults (q.df.kws K))
    | _=>false))
structure POk (K:PySem.W.Frag) (q:PSpec):Prop where
  p:q.st=false→PropOf K (He.ga K q.cls) q.prop (He.ma K (He.ga K q.cls) q.prop) (gAt K (He.ga K q.cls) q.prop)
  s:q.st=true→SMet K (He.ga K q.cls) q.prop (He.ma K (He.ga K q.cls) q.prop) (gAt K (He.ga K q.cls) q.prop)
  f:∃ fd,FunD K q.df.name q.df.qual q.df.params q.df.body q.df.scope (q.df.dvs K) (q.df.kws K) (gAt K (He.ga K q.cls) q.prop) fd
theorem pB_ok {K:PySem.W.Frag} {q:PSpec} (c:pB K q=true) (e:fnWa K (gAt K (He.ga K q.cls) q.prop)=q.df.val):POk K q:=by
  unfold pB at c
  dsimp only at c
  obtain ⟨c0,c⟩:=He.ba c
  obtain ⟨c5,c6⟩:=He.ba c
  refine ⟨fun hs=>?_,fun hs=>?_,?_⟩
  · rw [hs,if_neg (by decide)] at c0
    obtain ⟨c1,c⟩:=He.ba c0
    obtain ⟨c2,c⟩:=He.ba c
    obtain ⟨c3,c4⟩:=He.ba c
    refine ⟨of_decide_eq_true c1,of_decide_eq_true c2,of_decide_eq_true c3,?_⟩
    unfold headed at c4
    split at c4
    · rename_i a rest hr
      exact ⟨rest,by rw [hr,of_decide_eq_true c4]⟩
    · cases c4
  · rw [hs,if_pos rfl] at c0
    exact smB_ok c0
  · generalize gAt K (He.ga K q.cls) q.prop=g at *
    unfold fnWa at e
    split at c6
    · rename_i oc od fd osl lk
      rw [lk] at e
      obtain ⟨n1,n2,n3,n4,n5,n6,n7,n8,n9,n10,n11,n12,n13,n14,n15⟩:=fd
      have e2:(some (n1,n2,n3,n4,n5,n6,n7,n15):He.FnW)=some (q.df.name,q.df.qual,q.df.params,.stmts q.df.body,q.df.scope,mainGlobals,[],builtinsNs):=e
      simp only [Option.some.injEq,Prod.mk.injEq] at e2
      obtain ⟨h1,h2,h3,h4,h5,h6,h7,h8⟩:=e2
      subst h1 h2 h3 h4 h5 h6 h7 h8
      obtain ⟨k1,k2⟩:=He.ba c6
      obtain ⟨k3,k4⟩:=He.ba k2
      exact ⟨_,⟨oc,od,n8,n9,n10,n11,n12,n13,n14,osl,rfl,lk,k1,He.dflB_ok k3,He.kwdB_ok k4⟩,c5⟩
    · cases c6
structure LZ extends LY where
  ci:List Str
  pr:List PSpec
abbrev AlZ:Type:=Bool × AlY × List He.FnW
def LZ.ok (l:LZ) (K:PySem.W.Frag):Bool:=(l.ci.all fun C=>cB K (He.ga K C)) && l.pr.all (pB K)
def valZ (l:LZ) (fn:List He.DefD):AlZ:=(true,valY l.toLY fn,l.pr.map fun q=>q.df.val)
structure SaysZ (l:LZ) (fa:List He.Fa) (fn:List He.DefD) (h:Heap) (K:PySem.W.Frag):Prop extends SaysY l.toLY fa fn h K where
  ci:∀ C∈l.ci,CInst K (He.ga K C)
  pr:∀ q∈l.pr,POk K q
theorem dt_ok {l:LX} {fa:List He.Fa} {fn:List He.DefD} {h:Heap} {K:PySem.W.Frag} {at_:Str × Option Str} {j:Nat} (S:SaysX l fa fn h K) {i:Nat} (e:l.xs[i]?=some (fun K=>datB K (.tup []) (.ref (He.dflAt at_ j K)))) (G:Hp):DOk K G (.ref (He.dflAt at_ j K)) (.tup []):=by
  have h1:=List.all_eq_true.mp (He.ba (He.ba S.c).2).2 _ (List.mem_of_getElem? e)
  obtain ⟨v,r,w⟩:=datB_ok (.tup []) _ h1
  have:v=.ref (He.dflAt at_ j K):=by
    have w1:=w G
    cases w1
    injection r with r
    rw [r]
  rw [← this]
  exact w G
theorem enum_newT (t:Addr) (items:Array Value) :
    Meets (Builtin.«enumerate.__new__» ⟨[.type "enumerate",.ref t],[]⟩) (fun _ R s=>s.heap.IsTuple t items∧
      R (.ok (.ret (.ref (s.heap.push { cls:=.type "tuple_iterator",data:=.fields #[.ref t,.int 0 0] }).objs.size))) { s with heap:=(s.heap.push { cls:=.type "tuple_iterator",data:=.fields #[.ref t,.int 0 0] }).push { cls:=.type "enumerate",data:=.fields #[.none,.bool false,.ref s.heap.objs.size,rawInt 0,.none,.none] } }):=
  .of_wp fun prog w A R s h=>by
    obtain ⟨hp,g,d,tk,os⟩:=s
    obtain ⟨h1,h⟩:=h
    have hsub:=sub_enumerate
    have q1:∀ {A':Around} {E:Value→Shared→Prop} {Q:Value→Shared→Prop},Q (.ref hp.objs.size) ⟨hp.push { cls:=.type "tuple_iterator",data:=.fields #[.ref t,.int 0 0] },g,d,tk,os⟩→wpAny (model prog w) A' (pyIter (.ref t)) Q E ⟨hp,g,d,tk,os⟩:=
      fun q=>(begins_tuple t items).iter prog w _ _ ⟨hp,g,d,tk,os⟩ _ h1 q
    wp_walk using q1
    refine wpAny_stack_any fun st=>wpAny_pure ?_
    split
    · rename_i c _ _ _ _ _
      cases (c == Value.type "enumerate")<;>(wp_walk using q1;exact ⟨_,rfl,h⟩)
    · wp_walk using q1;exact ⟨_,rfl,h⟩
section
variable {prog:Program} {w:World} {A:Around} {E:Value→Shared→Prop} {s:Shared}
theorem call_enumT {t:Addr} {items:Array Value} {Q:Value→Shared→Prop} (hT:s.heap.IsTuple t items)
    (h:∀ h',IsEnum h' (s.heap.objs.size + 1) s.heap.objs.size 0 .none→h'.IsTupleIter s.heap.objs.size t 0→h'.objs.size=s.heap.objs.size + 2→(∀ b o,s.heap.get? b=some o→h'.get? b=some o)→Q (.ref (s.heap.objs.size + 1)) { s with heap:=h' }) :
    wpAny (model prog w) A (call (.type "enumerate") [.ref t]) Q E s:=by
  refine callType_new F.called_enumerate (by decide) (F.typeCall_enumerate_1 _) (F.newCall_enumerate_1 _) (fun obj=>F.args_object_init_2 obj _) F.entry_enumerate_new (enum_newT t items) ⟨hT,?_⟩
  have hz:(s.heap.push { cls:=.type "tuple_iterator",data:=.fields #[.ref t,.int 0 0] }).objs.size=s.heap.objs.size + 1:=Heap.size_push ..
  show _∧_
  rw [hz]
  have he:IsEnum ((s.heap.push { cls:=.type "tuple_iterator",data:=.fields #[.ref t,.int 0 0] }).push { cls:=.type "enumerate",data:=.fields #[.none,.bool false,.ref s.heap.objs.size,rawInt 0,.none,.none] }) (s.heap.objs.size + 1) s.heap.objs.size 0 .none:=by
    have z:=Heap.get?_push_size (s.heap.push { cls:=.type "tuple_iterator",data:=.fields #[.ref t,.int 0 0] }) (o:={ cls:=.type "enumerate",data:=.fields #[.none,.bool false,.ref s.heap.objs.size,rawInt 0,.none,.none] }) rfl
    rw [hz] at z;exact z
  exact ⟨⟨_,he,rfl⟩,h _ he ⟨_,Heap.get?_push_of_some _ (Heap.get?_push_size _ rfl),rfl,rfl⟩ (by rw [Heap.size_push,hz]) fun b o x=>Heap.get?_push_of_some _ (Heap.get?_push_of_some _ x)⟩
end
theorem enum_endT {prog:Program} {w:World} {A:Around} {E:Value→Shared→Prop} {s:Shared} {e it t:Addr} {i:Nat} {items:Array Value} {old:Value} {Q:Option Value→Shared→Prop} (hh:A.handled=none) (he:IsEnum s.heap e it i old) (hit:s.heap.IsTupleIter it t i) (ht:s.heap.IsTuple t items) (hx:items[i]?=none)
    (hQ:∀ h',Heap.ExtBut it s.heap h'→Q none { s with heap:=h' }):wpAny (model prog w) A (pyNext (.ref e)) Q E s:=by
  have ty:s.TypeIs (.ref e) "enumerate":=⟨_,he,rfl⟩
  unfold pyNext
  refine wpAny_bind (wpAny_attempt (wpAny_callSpecial?_slot (name:=Str.ofString "__next__") ty F.slot_enumerate_next (wpAny_call_entry F.slot_enumerate_next ty F.entry_enumerate_next ?_ (F.args_enumerate_next_1 _))))
  show wpAny _ _ (field (.ref e) 2 >>= _) _ _ _
  refine wpAny_bind (wpAny_field he rfl (x:=.ref it) rfl (wpAny_bind (wpAny_nextOf_tuple_end hh hit ht hx fun h' x he' ⟨o,ho,hc⟩=>?_)))
  exact wpAny_bind (wpAny_isInstance (T:="StopIteration") (b:=true) ⟨o,ho,hc⟩ isSubtype_stop (wpAny_pure (hQ _ he')))
def IteT (K:PySem.W.Frag) (a:Addr):It:=
  ⟨fun i H=>∃ (xs:List V) (x:V),SqT K H a xs∧xs[i]?=some x,fun i H v H'=>∃ T x,v=.ref T∧H T=none∧H'=upd H T (.tup [.int (i:Nat),x])∧∀ xs,SqT K H a xs→xs[i]?=some x,fun i H=>∃ xs:List V,SqT K H a xs∧xs.length≤i⟩
theorem turn_enumT {P:Program} {w:World} {K:PySem.W.Frag} {elts:List Expr} {kk:Nat} {tpos:Pos} (a e it:Addr) :
    Turn P w K (.Tuple elts kk tpos) (IteT K a) [e,it] e (fun i h=>(∃ old,IsEnum h e it ((i:Nat):Int) old)∧h.IsTupleIter it a i∧e≠it∧e≠a∧a≠it) where
  mem:=by simp
  obj:=fun i h ⟨⟨old,he⟩,⟨o,ho,hc,hd⟩,_⟩ b hb=>by
    rcases (show b=e∨b=it by simpa using hb) with z | z
    · rw [z];exact ⟨_,he,fun v q=>nomatch q⟩
    · rw [z];exact ⟨o,ho,fun v q=>by rw [hd] at q;cases q⟩
  keep:=fun i h h' ⟨⟨old,he⟩,hi,hne⟩ k=>⟨⟨old,k e (by simp) _ he⟩,hi.at fun o q=>k it (by simp) o q,hne⟩
  item:=by
    intro X hP hw hK hc i pins s σ H E I hf st hg
    subst hP hw hK
    obtain ⟨⟨old,he⟩,hit,hne,hea,hai⟩:=st
    obtain ⟨xs,x,hq,hx⟩:=hg
    obtain ⟨its,rv,p,hz⟩:=I.tuple hq
    obtain ⟨u,hu,ru⟩:=rv.get hx
    have hel:e < s.heap.objs.size:=Heap.lt_size he
    have hil:it < s.heap.objs.size:=by obtain ⟨_,q,_⟩:=hit;exact Heap.lt_size q
    have hlt:i < its.toArray.size:=by
      rw [List.size_toArray]
      exact (List.getElem?_eq_some_iff.mp hu).1
    refine wpAny_pyNext_enum_itemD (Draws.tuple (A:=X.A.in1) (I.ok.hd hc) it a hai its.toArray) he ⟨hit,p⟩ hlt hne (by simp [hne,hea]) fun y h' tk hy ho hst' hT hsz hk=>?_
    have ey:y=u:=by
      have z:its.toArray[i]?=some y:=hy
      simp at z
      rw [hu] at z
      exact (Option.some.inj z).symm
    subst ey
    refine ⟨_,rfl,wpAny_letOwnedTupleGo_enum (s:={ s with heap:=h',toks:=tk + 1 }) ho fun h'' he' sb=>?_⟩
    have hT2:h''.get? s.heap.objs.size=some { cls:=.type "tuple",data:=.seq #[.int i tk,y] }:=(sb.2 _ (Nat.ne_of_gt hel)).trans hT
    have new:ObjOk X.prog X.w (upd H s.heap.objs.size (.tup [.int (i:Nat),x])) h'' s.heap.objs.size (.tup [.int (i:Nat),x]):=
      ⟨by show 2≤sizeLine;decide,[.int i tk,y],.cons ⟨_,rfl⟩ (.cons ru .nil),⟨_,hT2,rfl,_,rfl⟩⟩
    have I1:Inv X pins σ (upd H s.heap.objs.size (.tup [.int (i:Nat),x])) { s with heap:=h'',toks:=tk + 1 }:=
      I.turnedNew (ch:=[e,it]) (fun b ob hb q=>(sb.2 b (fun z=>hb (by simp [z]))).trans (hk b ob (fun z=>hb (by simp [z])) (fun z=>hb (by simp [z])) q)) hf (Nat.le_refl _) new
    refine ⟨.ref s.heap.objs.size,_,I1,rfl,⟨_,x,rfl,I.hok.fresh (Nat.le_refl _),rfl,fun ys hy=>?_⟩,⟨⟨y,?_⟩,hst'.1.at fun o q=>(sb.2 it (Ne.symm hne)).trans q,hne,hea,hai⟩,fun b hb=>?_⟩
    · rw [I.tuple_inj hy hq];exact hx
    · have e1:((i + 1:Nat):Int)=(i:Int) + 1:=by omega
      rw [e1];exact he'
    · have hb':b < s.heap.objs.size:=by
        rcases (show b=e∨b=it by simpa using hb) with z | z
        · rw [z];exact hel
        · rw [z];exact hil
      rw [upd_ne (Nat.ne_of_lt hb')]
      exact (hf b hb).1
  done:=by
    intro X hP hw hK hc i pins s σ H E I hf st hg
    subst hP hw hK
    obtain ⟨⟨old,he⟩,hit,hne,hea,hai⟩:=st
    obtain ⟨xs,hq,hx⟩:=hg
    obtain ⟨its,rv,p,hz⟩:=I.tuple hq
    obtain ⟨f0,f1,f2,f3,f4,f5⟩:=hf it (by simp)
    have hl:=rv.length
    exact enum_endT (I.ok.hd hc) he hit p (by simp;omega) fun h' eb=>⟨rfl,I.turned (t':=s.toks) (fun b o hb q=>eb b o hb q) f0 f1 f3 f4 f5⟩
  self:=fun A i s Q E ⟨⟨_,he⟩,_⟩ h=>wpAny_pyIter_enum he h
def iEnumU (K:PySem.W.Frag) (ta:TA):TI:=fun σ H R=>ta σ H fun vs H1=>∃ a xs,vs=[.ref a]∧((SqL K H1 a xs∧R (Ite K a) H1)∨(SqT K H1 a xs∧R (IteT K a) H1))
theorem pi_enumU {X:Cx} {e:Expr} {ta:TA} {p pos tpos:Pos} {elts:List Expr} {kk:Nat} (hg:Gl X "enumerate") (hm:X.mg "enumerate"=none) (ha:PA X [e] ta) (hs:starEach [e] X.env=[(false,eval e X.env)]:=by rfl) :
    PI X (.Tuple elts kk tpos) (.Call (.Name "enumerate" p) [e] [] pos) (iEnumU X.K ta):=by
  refine ⟨fun pins s σ H R I h=>Call_ (ld_blt I hg hm boot_enumerate (PyProof.Rows.callWith_type1 (thn (ha.run pos pins s σ H _ I h) fun us s1 ⟨vs,H1,I1,r1,q1⟩=>?_) hs rfl))⟩
  obtain ⟨a,xs,ex,q⟩:=q1
  subst ex
  obtain ⟨u,rfl,ru⟩:=vals1 r1
  cases ru
  have fp:∀ b∈[s1.heap.objs.size + 1,s1.heap.objs.size],FpOk X pins H1 b:=fun b hb=>by
    have hle:s1.heap.objs.size≤b:=by
      rcases (show b=s1.heap.objs.size + 1∨b=s1.heap.objs.size by simpa using hb) with z | z
      · rw [z];exact Nat.le_add_right _ _
      · rw [z];exact Nat.le_refl _
    exact I1.fpOk hle (I1.hok.fresh hle)
  rcases q with ⟨hq,q⟩ | ⟨hq,q⟩
  · obtain ⟨its,rv,p',hz⟩:=I1.list hq
    refine call_enumerate_list p'.isList fun h' he hit hsz hk=>wpAny_pyIter_enum he ?_
    exact ⟨s1.heap.objs.size + 1,[s1.heap.objs.size + 1,s1.heap.objs.size],_,_,H1,rfl,I1.kept (t':=s1.toks) hk,turn_enum a (s1.heap.objs.size + 1) s1.heap.objs.size,⟨⟨.none,he⟩,hit,Nat.succ_ne_self _⟩,fp,q⟩
  · obtain ⟨its,rv,p',hz⟩:=I1.tuple hq
    have hal:a < s1.heap.objs.size:=by
      obtain ⟨o,ho,_⟩:=p'
      exact Heap.lt_size ho
    refine call_enumT p' fun h' he hit hsz hk=>wpAny_pyIter_enum he ?_
    exact ⟨s1.heap.objs.size + 1,[s1.heap.objs.size + 1,s1.heap.objs.size],_,_,H1,rfl,I1.kept (t':=s1.toks) hk,turn_enumT a (s1.heap.objs.size + 1) s1.heap.objs.size,⟨⟨.none,he⟩,hit,Nat.succ_ne_self _,Nat.ne_of_gt (Nat.lt_succ_of_lt hal),Nat.ne_of_lt hal⟩,fp,q⟩
theorem it_enumT {K:PySem.W.Frag} {G H:Hp} {so:So} {σ:L2.St} {sl:DSt} {c:Addr} {vs:List V} {ds:List D} (rep:Rep K G so σ H sl) (e:SqT K G c vs) (al:DAll K G vs ds):ItD K G so σ H sl (IteT K c) (enumFrom 0 ds):=by
  have hl:=enum_len 0 ds
  have kp:∀ (H1:Hp),(∀ a∈(if G c=none then [] else [c]),H1 a=H a)→SqT K H1 c vs:=fun H1 k=>by
    rcases e with (e | ⟨o,e⟩) | e
    · refine .inl (.inl ?_)
      rw [k c (by rw [if_neg (by rw [e];simp)];simp)];exact rep.h.ex _ _ e
    · refine .inl (.inr ⟨o,?_⟩)
      rw [k c (by rw [if_neg (by rw [e];simp)];simp)];exact rep.h.ex _ _ e
    · exact .inr e
  refine ⟨if G c=none then [] else [c],fun a ha=>?_,fun i H1 hi k=>?_,fun H1 k=>?_,fun i H1 x H2 G1 k g h1 y hi=>?_⟩
  · split at ha
    · simp at ha
    · rename_i z
      obtain rfl:a=c:=by simpa using ha
      obtain ⟨o,eo⟩:=Option.ne_none_iff_exists'.mp z
      exact ⟨by rw [rep.h.ex _ _ eo];simp,rep.h.nsrc eo,fun q=>z (rep.nown q).2.1⟩
  · have h2:i < vs.length:=by rw [al.length,← hl];exact hi
    exact ⟨vs,vs[i],kp H1 k,by simp [h2]⟩
  · exact ⟨vs,kp H1 k,by rw [al.length,← hl];exact Nat.le_refl _⟩
  · obtain ⟨T,x1,rfl,nT,rfl,f2⟩:=y
    obtain ⟨d,e1,e2⟩:=al.getV (f2 vs (kp _ k))
    refine ⟨_,_,enum_get 0 ds i d e1,.tuple h1 nT (.cons ?_ (.cons (e2.mono g) .nil))⟩
    rw [show (0:Int) + (i:Nat)=(i:Nat) by omega];exact .int _
theorem l_own {K:PySem.W.Frag} {f:Str} {C:Addr} {fs:List (Str × D)} {d:D} {Q:DV→Prop} (h1:Cls K C) (h2:NoAttr K C f) (h3:fs.lookup f=some d) (q:Q (.d d)):fldR K f (.d (.ins C fs)) Q:=by
  unfold fldR
  show Cls K C∧NoAttr K C f∧(match fs.lookup f with | some d=>Q (.d d) | none=>False)
  rw [h3]
  exact ⟨h1,h2,q⟩
mutual
def Pl:D→Prop
  | .lst ds=>Pls ds
  | .tup ds=>Pls ds
  | .ins _ _=>False
  | .dk _=>False
  | .dt _=>False
  | .any=>False
  | .raw _=>False
  | .kt _=>False
  | .non=>True
  | .bl _=>True
  | .int _=>True
  | .str _=>True
def Pls:List D→Prop
  | []=>True
  | d::r=>Pl d∧Pls r
end
theorem Pl.kind {d:D} (h:Pl d):kindD d=true:=by
  cases d<;>first | rfl | (unfold Pl at h;exact h.elim)
theorem Pl.tup {ds:List D} (h:Pl (.tup ds)):Pls ds:=by rw [Pl] at h;exact h
theorem Pl.lst {ds:List D} (h:Pl (.lst ds)):Pls ds:=by rw [Pl] at h;exact h
theorem Pls.hd {d:D} {r:List D} (h:Pls (d::r)):Pl d:=by rw [Pls] at h;exact h.1
theorem Pls.tl {d:D} {r:List D} (h:Pls (d::r)):Pls r:=by rw [Pls] at h;exact h.2
theorem Pls.mem:∀ {ds:List D} {d:D},Pls ds→d∈ds→Pl d
  | _::_,_,h,.head _=>h.hd
  | _::_,_,h,.tail _ m=>Pls.mem h.tl m
theorem Pls.of:∀ {ds:List D},(∀ d∈ds,Pl d)→Pls ds
  | [],_=>by simp [Pls]
  | d::r,h=>by rw [Pls];exact ⟨h d (List.mem_cons_self ..),Pls.of fun x hx=>h x (List.mem_cons_of_mem _ hx)⟩
theorem pl_tup {ds:List D} (h:Pls ds):Pl (.tup ds):=by rw [Pl];exact h
theorem pl_lst {ds:List D} (h:Pls ds):Pl (.lst ds):=by rw [Pl];exact h
theorem pl_int {i:Int}:Pl (.int i):=by simp [Pl]
theorem pl_bl {b:Bool}:Pl (.bl b):=by simp [Pl]
theorem pl_str {z:Str}:Pl (.str z):=by simp [Pl]
theorem pl_non:Pl .non:=by simp [Pl]
theorem pls_nil:Pls []:=by simp [Pls]
theorem pls_cons {d:D} {r:List D} (h:Pl d) (t:Pls r):Pls (d::r):=by rw [Pls];exact ⟨h,t⟩
theorem pl_rD (q:Rat):Pl (rD q):=pl_tup (pls_cons pl_int (pls_cons pl_int pls_nil))
theorem Pl.pair {d:D} (h:Pl d):pairK d:=by
  cases d with
  | tup ds=>
    match ds,h with
    | [],_=>exact True.intro
    | [_],_=>exact True.intro
    | [a,b],h=>exact ⟨h.tup.hd.kind,h.tup.tl.hd.kind⟩
    | _::_::_::_,_=>exact True.intro
  | kt _=>rw [Pl] at h;exact h.elim
  | _=>exact True.intro
def itemsD:D→Option (List D)
  | .lst ds=>some ds
  | .tup ds=>some ds
  | _=>none
theorem isBs_seq (d:D) (h:Pl d):isBs ["list","tuple"] d=(itemsD d).isSome:=by
  cases d with
  | kt _=>rw [Pl] at h;exact h.elim
  | _=>rfl
theorem l_lenD {d:D} {ds:List D} {Q:DV→Prop} (h:itemsD d=some ds) (q:Q (.d (.int ds.length))):lenR [.d d] Q:=by
  cases d with
  | lst es=>cases h;exact l_lenL rfl q
  | tup es=>cases h;exact l_lenT q
  | _=>cases h
theorem l_iterD {d:D} {ds:List D} {P:List D→Prop} (h:itemsD d=some ds) (q:P ds):iterR (.d d) P:=by
  cases d with
  | lst es=>cases h;exact l_iterL q
  | tup es=>cases h;exact l_iterT q
  | _=>cases h
theorem Pl.items {d:D} {ds:List D} (h:Pl d) (e:itemsD d=some ds):Pls ds:=by
  cases d with
  | lst es=>cases e;exact h.lst
  | tup es=>cases e;exact h.tup
  | _=>cases e
theorem gc_bits {n d:Int} (h:0 < d) (hb:d.natAbs < 2 ^ 8000):CDivW n (gcI n d):=by
  have g:=gcI_pos (n:=n) h
  refine ⟨g,?_⟩
  have l:gcI n d≤d:=Int.le_of_dvd h (Int.gcd_dvd_right n d)
  have:(gcI n d).natAbs < 2 ^ 8000:=Nat.lt_of_le_of_lt (by omega) hb
  exact Nat.lt_of_lt_of_le (PySem.Flt.log2_lt_of (by decide) this) (by decide)
theorem ratOf_none {x:D} (k2:pairK x) (h:ratOf x=none):wholeD x=false∧ratioD x=false:=by
  unfold ratOf at h
  split at h
  · cases h
  · rename_i a b
    split at h
    · cases h
    · rename_i z
      refine ⟨rfl,?_⟩
      show (decide (1≤b) && decide (gcI a b=1))=false
      rw [Bool.and_eq_false_iff]
      by_cases q:1≤b
      · exact .inr (decide_eq_false fun y=>z ⟨q,y⟩)
      · exact .inl (decide_eq_false q)
  · rename_i z1 z2
    refine ⟨?_,?_⟩
    · cases x<;>first | rfl | exact absurd rfl (z1 _)
    · cases x with
      | tup ds=>
        match ds with
        | []=>rfl
        | [_]=>exact ratioD_ne (by simp)
        | _::_::_::_=>exact ratioD_ne (by simp)
        | [a,b]=>cases a<;>cases b<;>first | rfl | exact absurd rfl (z2 _ _)
      | _=>rfl
theorem ratOf_some {x:D} {q:Rat} (h:ratOf x=some q):(∃ i:Int,x=.int i∧rD q=rt i 1)∨(wholeD x=false∧ratioD x=true∧x=rD q):=by
  unfold ratOf at h
  split at h
  · rename_i i
    cases h
    exact .inl ⟨i,rfl,rfl⟩
  · rename_i a b
    split at h
    · rename_i z
      cases h
      refine .inr ⟨rfl,?_,(rD_of z.1 z.2).symm⟩
      show (decide (1≤b) && decide (gcI a b=1))=true
      rw [decide_eq_true z.1,decide_eq_true z.2];rfl
    · cases h
  · cases h
end DL
namespace DL
theorem div_bd {n m:Int} (hp:0 < m):(Rat.divInt n m).num.natAbs≤n.natAbs∧(Rat.divInt n m).den≤m.natAbs:=by
  have e:=rD_low (n:=n) hp
  unfold rD rt at e
  injection e with e
  injection e with e1 e2
  injection e1 with e1
  injection e2 with e2 _
  injection e2 with e2
  have g:=gcI_pos (n:=n) hp
  refine ⟨?_,?_⟩
  · rw [e1];exact Int.natAbs_ediv_le_natAbs _ _
  · have:((Rat.divInt n m).den:Int)≤m:=by rw [e2];exact Int.ediv_le_self _ (by omega)
    omega
section
variable {te:TD} {t u:TDS} {E:EndsD} {sl s':DSt} {i:Nat}
end
end DL
namespace DL
open PySem PySem.Spec PyProof.Rows L2
section
variable {X:Cx} {W:WX} {e:Expr} {es:List Expr} {ta te:TD} {tr tk:TDA} {p pos kpos:Pos} {kws:List Keyword} {nm:Option Str}
end
section
variable {X:Cx} {W:WX} {e:Expr} {te:TD} {tk:TDA} {kpos:Pos} {kws:List Keyword} {nm:Str}
end
def Lent (x:DV):Prop:=(∃ d,x=.d d)∨∃ ds,x=.bor (.lst ds)
def itemsV:DV→Option (List D)
  | .d d=>itemsD d
  | .bor (.lst ds)=>some ds
  | _=>none
theorem fnIB_of {P:Program} {w:World} {K:PySem.W.Frag} {mg:Str→Option Value} {base:Heap} {n qual:Str} {params:Arguments} {body:List Stmt} {scope:Scope} {dvs:List V} {kws:List (Str × V)} {f C:Addr} {fd:FuncData} {N ps:List Str} {k:Nat} {sp:SpI} {t:TDS}
    (F:FunD K n qual params body scope dvs kws f fd) (S:FnScope N ps scope) (len:∀ args Q E,sp args Q E→args.length + 1=ps.length) (nsee:∀ args Q E,sp args Q E→∀ x∈args,Lent x)
    (hd:∀ (cdv:Value) (A:Around) (outer:List Env) (s:Shared) (H:Hp) (E:XK),Room k (A.deeper (envOfC qual scope s.heap.objs.size f cdv))→(cxOf (L2N.CX P w) P w K mg base N qual scope f cdv A outer s H E).A.guards=some []→
      DSs (cxOf (L2N.CX P w) P w K mg base N qual scope f cdv A outer s H E) (fun cls d _ H'=>E cls d H') body t)
    (hr:∀ args Q E x,sp args Q E→t { nx:=endI x C Q,rt:=fun _ _=>False,bk:=fun _=>False,ct:=fun _=>False,xc:=fun cls fs _=>E cls fs } (startD N (.own (.ins x C [])::args))):FnR P w K mg base (k + 1) f fd ps (upIn K C sp):=by
  refine fnR_of F S (fun vs H Q E h=>?_) (fun cdv A outer s H vs Q E hroom hg h=>?_)
  · obtain ⟨x,vs',G,so,args,QD,ED,rfl,_,_,_,_,w1,q,_⟩:=h
    rw [List.length_cons,w1.length];exact len _ _ _ q
  · obtain ⟨x,vs',G,so,args,QD,ED,rfl,hrep,ow,gx,sx,w1,q,hq,hx⟩:=h
    have only:∀ a,Own (startD N (.own (.ins x C [])::args)) (L2.start N (.ref x::vs')) a→a=x:=fun a ⟨i,o,e1,e2⟩=>by
      rcases start_get0 e1 with ⟨rfl,_⟩ | ⟨j,rfl,z⟩
      · have:(L2.start N (.ref x::vs'))[0]?=some (some (.ref x)):=start_at rfl
        rw [this] at e2;cases e2;rfl
      · obtain ⟨_,_,_,n⟩:=w1.get z
        exact absurd rfl (n o)
    have rep:Rep K G so (L2.start N (.ref x::vs')) H (startD N (.own (.ins x C [])::args)):=by
      refine ⟨hrep,by unfold startD L2.start;simp [w1.length],fun i d e=>?_,fun i j o o' a e1 e2 _ _=>?_,fun i o a e1 e2=>?_,fun i o e1=>?_⟩
      · rcases start_get0 e with ⟨rfl,rfl⟩ | ⟨j,rfl,z⟩
        · exact ⟨.ref x,start_at rfl,x,rfl,gx,sx,ow⟩
        · obtain ⟨v,e1,e2,_⟩:=w1.get z
          exact ⟨v,start_at (by simpa using e1),VOk.slot e2⟩
      · rcases start_get0 e1 with ⟨rfl,_⟩ | ⟨j',rfl,z⟩
        · rcases start_get0 e2 with ⟨rfl,_⟩ | ⟨j',rfl,z⟩
          · rfl
          · obtain ⟨_,_,_,n⟩:=w1.get z
            exact absurd rfl (n o')
        · obtain ⟨_,_,_,n⟩:=w1.get z
          exact absurd rfl (n o)
      · rcases start_get0 e1 with ⟨_,z⟩ | ⟨j',rfl,z⟩
        · cases z
        · intro oo
          have ax:=only a oo
          subst ax
          rcases nsee _ _ _ q _ (List.mem_of_getElem? z) with ⟨d,y⟩ | ⟨ds,y⟩
          · cases y
          · cases y
            obtain ⟨v,g1,g2,_⟩:=w1.get z
            obtain ⟨b,rfl,_,vs1,g3,_⟩:=g2
            have:(L2.start N (.ref a::vs'))[j' + 1]?=some (some (.ref b)):=start_at (by simpa using g1)
            rw [this] at e2
            cases e2
            obtain ⟨_,dx,vs2,g4,_⟩:=ow
            rw [g3] at g4;cases g4
      · rcases start_get0 e1 with ⟨_,z⟩ | ⟨j',rfl,z⟩
        · cases z
        · rcases nsee _ _ _ q _ (List.mem_of_getElem? z) with ⟨d,y⟩ | ⟨ds,y⟩<;>cases y
    refine ⟨_,hd cdv A outer s H E hroom hg,G,so,_,_,rep,hr args QD ED x q,⟨fun σ' H' G' sl' p z=>?_,fun _ _ _ _ _ z=>z.elim,fun _ _ _ _ _ z=>z.elim,fun _ _ _ _ _ _ z=>z.elim,fun cls d σ' H' G' fs sl' p z1 z2=>?_⟩⟩
    · obtain ⟨fs,e,z⟩:=z
      obtain ⟨v,_,a,rfl,ga,_,ok⟩:=p.rep.slots 0 _ e
      have ax:a=x:=ok.1
      subst ax
      exact hq H' G' fs ⟨⟨p.ex,p.rep.h,fun b o e s n=>p.keep b o e s fun z=>n (only b z),fun b n1 g s n=>p.frm b n1 g s fun z=>n (only b z)⟩,ok,ga⟩ z
    · exact hx cls d H' G' fs ⟨p.ex,p.rep.h,fun b o e s n=>p.keep b o e s fun z=>n (only b z),fun b n1 g s n=>p.frm b n1 g s fun z=>n (only b z)⟩ z1 z2
@[irreducible] def enumVR (x:DV) (P:List D→Prop):Prop:=match itemsV x with
  | some ds=>P (enumFrom 0 ds)
  | none=>False
def dEnumV (te:TD):TDI:=fun sl Q E=>te sl (fun x s1=>enumVR (pubV x) fun ds=>Q ds s1) E
theorem di_enumV {X:Cx} {W:WX} {e:Expr} {te:TD} {pos p:Pos} {elts:List Expr} {kk:Nat} {tpos:Pos} (hg:Gl X "enumerate") (hm:X.mg "enumerate"=none) (h:DE X W e te) (hs:starEach [e] X.env=[(false,eval e X.env)]:=by rfl):DI X W (.Tuple elts kk tpos) (.Call (.Name "enumerate" p) [e] [] pos) (dEnumV te):=by
  refine pi_imp (pi_enumU hg hm (pa_cons h pa_nil hs) hs) fun σ H R ⟨G,so,sl,Q,E,rep,q,hq,hx⟩=>?_
  refine ⟨G,so,sl,_,E,rep,q,fun x H1 G1 dx s1 p1 h1=>?_,hx⟩
  obtain ⟨G1',p2⟩:=p1.pub
  unfold enumVR at h1
  have w:=p2.val
  generalize pubV dx=z at h1 w p2
  split at h1
  · rename_i ds ed
    unfold itemsV at ed
    split at ed
    · rename_i d
      cases d with
      | tup es=>
        cases ed
        have w1:DOk X.K G1' x (.tup ds):=w
        cases w1 with
        | tup g al=>exact ⟨_,_,rfl,.inr ⟨ex_t p2.rep.h.ex g,hq _ H1 G1' _ s1 p2.toPost (it_enumT p2.rep g al) h1⟩⟩
      | lst es=>
        cases ed
        have w1:DOk X.K G1' x (.lst ds):=w
        cases w1 with
        | lst g al=>exact ⟨_,_,rfl,.inl ⟨SqL.of (p2.rep.h.ex _ _ g),hq _ H1 G1' _ s1 p2.toPost (it_enum (p2.rep.h.ex _ _ g) al (p2.rep.h.nsrc g) (rep_own p2.rep g)) h1⟩⟩
      | _=>cases ed
    · cases ed
      obtain ⟨a,rfl,sa,vs,g,al⟩:=w
      exact ⟨_,_,rfl,.inl ⟨SqL.of g,hq _ H1 G1' _ s1 p2.toPost (it_enum g al sa (p2.sepv a _ (.inr rfl) rfl)) h1⟩⟩
    · cases ed
  · exact h1.elim
theorem l_enumV {x:DV} {ds:List D} {P:List D→Prop} (h:itemsV x=some ds) (q:P (enumFrom 0 ds)):enumVR (pubV x) P:=by
  unfold enumVR
  have:pubV x=x:=by
    cases x with
    | own o=>cases h
    | _=>rfl
  rw [this,h];exact q
theorem l_iterV {x:DV} {ds:List D} {P:List D→Prop} (h:itemsV x=some ds) (q:P ds):iterR (pubV x) P:=by
  unfold itemsV at h
  split at h
  · exact l_iterD h q
  · cases h;exact l_iterB q
  · cases h
section
variable {K:PySem.W.Frag} {G G2:Hp} {so:So} {σ:L2.St} {H H2:Hp} {sl s2:DSt} {a:Addr} {u:HO}
end
section
variable {X:Cx} {W:WX} {o value:Expr} {to te:TD} {pos pos':Pos}
end
section
variable {X:Cx} {W:WX} {a b:Expr} {ta tb:TD} {i j:Nat} {x y:Str} {pos:Pos}
end
theorem meets_bool_ref {prog:Program} {w:World} {x:Addr} {S:PySem.Spec} (h:∀ (A:Around) (R:Result→Shared→Prop) (s:Shared),S A R s→wpAny (model prog w) A.in1 (truthy (.ref x)) (fun b s'=>R (.ok (.ret (.bool b))) s') (fun e s'=>R (.error e) s') s) :
    MeetsIn prog w (Builtin.«bool.__new__» ⟨[.type "bool",.ref x],[]⟩) S:=
  MeetsIn.of_wp fun A R s hs=>by
    have h1:=h A R s hs
    have f1:=F.conv_sub_bool
    repeat (any_goals (first | assumption | (with_reducible refine wpAny_mono h1 (fun b s' hb=>?_) (fun _ _ z=>z)) | wp_step))
    all_goals first | exact ⟨_,rfl,hb⟩ | skip
theorem call_bool_ref {prog:Program} {w:World} {A:Around} {E:Value→Shared→Prop} {s:Shared} {x:Addr} {Q:Value→Shared→Prop} (h:wpAny (model prog w) A.in1.in1 (truthy (.ref x)) (fun b s'=>Q (.bool b) s') E s):wpAny (model prog w) A (call (.type "bool") [.ref x]) Q E s:=
  callType_newIn F.called_bool F.newNe_bool (F.typeCall_bool_1 _) (F.newCall_bool_1 _) (fun obj=>F.args_object_init_2 obj _) F.entry_bool_new (S:=fun A' R s'=>wpAny (model prog w) A'.in1 (truthy (.ref x)) (fun b s''=>R (.ok (.ret (.bool b))) s'') (fun e s''=>R (.error e) s'') s') (meets_bool_ref fun A' R s' z=>z)
    (wpAny_mono h (fun b s'' z=>⟨rfl,z⟩) fun _ _ z=>z)
section
variable {X:Cx} {k:Nat} {f C:Addr} {fd:FuncData} {ps:List Str} {sp:SpD}
def rBoolI (K:PySem.W.Frag) (C:Addr) (sp:SpD):List V→Hp→VK→Prop:=fun xs H Q=>∃ a dx fs,xs=[.ref a]∧H a=some (.ins C dx fs)∧upSp K sp xs H (fun v H'=>∃ b:Bool,v=.bl b∧Q v H') fun _ _ _=>False
theorem call_boolI (hm:Meth X.K C "__bool__" f) (F:FnG X.prog X.w X.K X.mg X.base k f fd ps sp) (hr:Room (k + 2) X.A) (hg:X.A.guards=some []) (hb:Binds X.K fd ps []):CallR X (.type "bool") (rBoolI X.K C sp):=by
  intro pins s σ H xs us Q I r h
  obtain ⟨a,dx,fs,rfl,e,q⟩:=h
  obtain ⟨u,rfl,ru⟩:∃ u,us=[u]∧RelV (.ref a) u:=by
    cases r with
    | cons ru t=>cases t;exact ⟨_,rfl,ru⟩
  cases ru
  obtain ⟨mA,J,_⟩:=ins_get I.hok e
  obtain ⟨od,J,_⟩:=J.look
  obtain ⟨m,hF⟩:=I.fr
  refine call_bool_ref (PySem.W.truthy_K (h₀:=X.base) hF I.ok.mod.kin J hm.at_ hm.fn ?_)
  refine wpAny_mono (run_dun (A:=X.A.in1.in1) F (hr.in1.in1) hg rfl hb I r q) (fun v s' hv=>?_) fun _ _ x=>x
  obtain ⟨y,H',I',ry,b,rfl,hq⟩:=hv
  obtain rfl:v=.bool b:=ry
  exact ⟨.bl b,H',I',rfl,hq⟩
@[irreducible] def boolIR (C:Addr) (sp:SpD):List DV→(DV→Prop)→Prop
  | [.d (.ins D fs)],Q=>D=C∧sp [.d (.ins D fs)] (fun v=>match v with
    | .d (.bl n)=>Q (.d (.bl n))
    | _=>False) fun _ _=>False
  | _,_=>False
theorem sem_boolI {K:PySem.W.Frag}:CallSem K (rBoolI K C sp) (boolIR C sp):=by
  intro G so H xs dxs Q R h w q k
  unfold boolIR at q
  split at q
  · rename_i D fs
    obtain ⟨rfl,q⟩:=q
    obtain ⟨v,rfl,w1,_⟩:=w.v1
    obtain ⟨a,dx,vs,rfl,e,_⟩:=VOk.inst h w1 rfl
    refine ⟨a,dx,vs,rfl,e,G,so,_,_,_,h,.cons w1 (fun _ e=>(nomatch e)) .nil,q,fun v H' G' dv p z=>?_,fun _ _ _ _ _ _ _ z=>z⟩
    split at z
    · rename_i n
      have:v=.bl n:=by
        have:=p.val
        cases this;rfl
      subst this
      exact ⟨n,rfl,k _ H' G' _ p z⟩
    · exact z.elim
  · exact q.elim
theorem l_boolI {fs:List (Str × D)} {Q:DV→Prop} (h:sp [.d (.ins C fs)] (fun v=>match v with | .d (.bl n)=>Q (.d (.bl n)) | _=>False) fun _ _=>False):boolIR C sp [.d (.ins C fs)] Q:=by
  unfold boolIR
  exact ⟨rfl,h⟩
end
def cvB (K:PySem.W.Frag) (C f:Str) (d:D):Bool:=PySem.W.readsIn K (He.ga K C) (.type "type") && (decide (PySem.W.specialIn K (.ref (He.ga K C)) "__getattribute__"=some (some (.builtin "type.__getattribute__"))) && (match PySem.W.findCls K (.ref (He.ga K C)) (.type "type") f with
  | some (.val u)=>datB K d u
  | _=>false))
def CConst (K:PySem.W.Frag) (C:Addr) (f:Str) (d:D):Prop:=∃ v u,ClX.CRead K C (.type "type")∧ClX.CVal K C (.type "type") f v u∧∀ G,DOk K G v d
theorem cvB_ok {K:PySem.W.Frag} {C f:Str} {d:D} (h:cvB K C f d=true):CConst K (He.ga K C) f d:=by
  obtain ⟨h1,h2⟩:=He.ba h
  obtain ⟨h3,h4⟩:=He.ba h2
  split at h4
  · rename_i u e
    obtain ⟨v,r,w⟩:=datB_ok d u h4
    exact ⟨v,u,⟨h1,of_decide_eq_true h3⟩,⟨e,r⟩,w⟩
  · cases h4
theorem cv_ok {l:LX} {fa:List He.Fa} {fn:List He.DefD} {h:Heap} {K:PySem.W.Frag} {C f:Str} {d:D} (S:SaysX l fa fn h K) {i:Nat} (e:l.xs[i]?=some (fun K=>cvB K C f d)):CConst K (He.ga K C) f d:=
  cvB_ok (List.all_eq_true.mp (He.ba (He.ba S.c).2).2 _ (List.mem_of_getElem? e))
theorem de_cval {X:Cx} {W:WX} {e:Expr} {C:Addr} {f:Str} {d:D} {pos:Pos} (c:CConst X.K C f d) (he:PE X e (tC (.ref C))) (hb:attributeBase e f X.env (eval e X.env)=eval e X.env:=by rfl):DE X W (.Attribute e f pos) (dC d):=by
  obtain ⟨v,u,c1,c2,w⟩:=c
  refine pe_imp (ClX.pe_cval he hb) fun σ H R ⟨G,so,sl,Q,E,rep,q,hq,_⟩=>?_
  exact ⟨C,_,v,u,rfl,c1,c2,hq v H G _ sl ((Post.refl rep).thenV (.dat rep.h (w G))) q⟩
inductive Fa2 {α β:Type} (R:α→β→Prop):List α→List β→Prop
  | nil:Fa2 R [] []
  | cons {x:α} {y:β} {xs:List α} {ys:List β} (h:R x y) (t:Fa2 R xs ys):Fa2 R (x::xs) (y::ys)
section
variable {α β γ:Type} {R:α→β→Prop} {xs:List α} {ys:List β}
theorem Fa2.mono {S:α→β→Prop} (h:Fa2 R xs ys) (k:∀ x y,R x y→S x y):Fa2 S xs ys:=by
  induction h with
  | nil=>exact .nil
  | cons h _ ih=>exact .cons (k _ _ h) ih
end
section
variable {g:TDG} {tt:TDT} {te:TD} {vs:List Nat} {Q:DV→DSt→Prop}
end
def eqKs:List Key→List D→Bool
  | [],[]=>true
  | k::ks,d::ds=>eqF (keyD k) d && eqKs ks ds
  | _,_=>false
def eqKs':List D→List Key→Bool
  | [],[]=>true
  | d::ds,k::ks=>eqF d (keyD k) && eqKs' ds ks
  | _,_=>false
mutual
def eqD:D→D→Bool
  | .lst a,.lst b=>eqDs a b
  | .tup a,.tup b=>eqDs a b
  | .kt a,.kt b=>decide (a=b)
  | .kt a,.tup b=>eqKs a b
  | .tup a,.kt b=>eqKs' a b
  | x,y=>eqF x y
def eqDs:List D→List D→Bool
  | [],[]=>true
  | a::r,b::s=>eqD a b && eqDs r s
  | _,_=>false
end
theorem key_eqv (k:Key):∀ (d:D) (q:PyData),d.py=some q→PyData.eqv (keyPy k) q=eqF (keyD k) d∧PyData.eqv q (keyPy k)=eqF d (keyD k):=by
  intro d q h
  cases k<;>cases d<;>rw [D.py] at h<;>first | (cases h;done) | (cases h;exact ⟨by rw [keyPy,PyData.eqv];rfl,by rw [keyPy,PyData.eqv];rfl⟩) | (obtain ⟨qs,hq,rfl⟩:=Option.map_eq_some_iff.mp h;exact ⟨by rw [keyPy,PyData.eqv];rfl,by rw [keyPy,PyData.eqv];rfl⟩)
theorem eqKs_py:∀ (ks:List Key) (b:List D) (qs:List PyData),D.pyAll b=some qs→PyData.eqvAll (ks.map keyPy) qs=eqKs ks b∧PyData.eqvAll qs (ks.map keyPy)=eqKs' b ks
  | [],[],qs,h=>by rw [D.pyAll] at h;cases h;exact ⟨rfl,rfl⟩
  | [],d::b,qs,h=>by
    rw [D.pyAll] at h
    split at h<;>cases h
    exact ⟨rfl,rfl⟩
  | k::ks,[],qs,h=>by rw [D.pyAll] at h;cases h;exact ⟨rfl,rfl⟩
  | k::ks,d::b,qs,h=>by
    rw [D.pyAll] at h
    split at h
    · rename_i p ps e1 e2
      cases h
      obtain ⟨h1,h2⟩:=key_eqv k d p e1
      obtain ⟨i1,i2⟩:=eqKs_py ks b ps e2
      rw [List.map_cons,PyData.eqvAll,PyData.eqvAll,h1,h2,i1,i2,eqKs,eqKs']
      exact ⟨rfl,rfl⟩
    · cases h
theorem eqKK_py:∀ (a b:List Key),PyData.eqvAll (a.map keyPy) (b.map keyPy)=decide (a=b)
  | [],[]=>rfl
  | [],_::_=>rfl
  | _::_,[]=>rfl
  | j::a,k::b=>by
    rw [List.map_cons,List.map_cons,PyData.eqvAll,eqKK_py a b]
    have e:PyData.eqv (keyPy j) (keyPy k)=decide (j=k):=by
      cases j with
      | inl i=>cases k with
        | inl m=>rw [keyPy,keyPy,PyData.eqv,key_ll]
        | inr z=>rw [keyPy,keyPy,PyData.eqv,key_lr]
      | inr y=>cases k with
        | inl m=>rw [keyPy,keyPy,PyData.eqv,key_rl]
        | inr z=>
          rw [keyPy,keyPy,PyData.eqv,key_rr]
          by_cases e:y=z
          · subst e;simp
          · rw [decide_eq_false e];exact beq_eq_false_iff_ne.mpr e
    rw [e]
    by_cases h1:j=k
    · subst h1;simp
    · simp [h1]
mutual
theorem eqD_py:∀ (d e:D) (p q:PyData),d.py=some p→e.py=some q→PyData.eqv p q=eqD d e
  | .lst a,e,p,q,h1,h2=>by
    rw [D.py] at h1
    obtain ⟨ps,hp,rfl⟩:=Option.map_eq_some_iff.mp h1
    cases e with
    | lst b=>
      rw [D.py] at h2
      obtain ⟨qs,hq,rfl⟩:=Option.map_eq_some_iff.mp h2
      rw [PyData.eqv,eqD];exact eqDs_py a b ps qs hp hq
    | tup b=>
      rw [D.py] at h2
      obtain ⟨qs,hq,rfl⟩:=Option.map_eq_some_iff.mp h2
      rw [PyData.eqv];rfl
    | ins _ _=>rw [D.py] at h2;cases h2
    | dk _=>rw [D.py] at h2;cases h2
    | dt _=>rw [D.py] at h2;cases h2
    | any=>rw [D.py] at h2;cases h2
    | raw _=>rw [D.py] at h2;cases h2
    | _=>rw [D.py] at h2;cases h2;rw [PyData.eqv];rfl
  | .tup a,e,p,q,h1,h2=>by
    rw [D.py] at h1
    obtain ⟨ps,hp,rfl⟩:=Option.map_eq_some_iff.mp h1
    cases e with
    | tup b=>
      rw [D.py] at h2
      obtain ⟨qs,hq,rfl⟩:=Option.map_eq_some_iff.mp h2
      rw [PyData.eqv,eqD];exact eqDs_py a b ps qs hp hq
    | lst b=>
      rw [D.py] at h2
      obtain ⟨qs,hq,rfl⟩:=Option.map_eq_some_iff.mp h2
      rw [PyData.eqv];rfl
    | kt b=>
      rw [D.py] at h2
      cases h2
      rw [PyData.eqv,eqD];exact (eqKs_py b a ps hp).2
    | ins _ _=>rw [D.py] at h2;cases h2
    | dk _=>rw [D.py] at h2;cases h2
    | dt _=>rw [D.py] at h2;cases h2
    | any=>rw [D.py] at h2;cases h2
    | raw _=>rw [D.py] at h2;cases h2
    | _=>rw [D.py] at h2;cases h2;rw [PyData.eqv];rfl
  | .non,e,p,q,h1,h2=>by
    rw [D.py] at h1;cases h1
    cases e with
    | lst b=>rw [D.py] at h2;obtain ⟨qs,hq,rfl⟩:=Option.map_eq_some_iff.mp h2;rw [PyData.eqv];rfl
    | tup b=>rw [D.py] at h2;obtain ⟨qs,hq,rfl⟩:=Option.map_eq_some_iff.mp h2;rw [PyData.eqv];rfl
    | ins _ _=>rw [D.py] at h2;cases h2
    | dk _=>rw [D.py] at h2;cases h2
    | dt _=>rw [D.py] at h2;cases h2
    | any=>rw [D.py] at h2;cases h2
    | raw _=>rw [D.py] at h2;cases h2
    | _=>rw [D.py] at h2;cases h2;rw [PyData.eqv];rfl
  | .bl x,e,p,q,h1,h2=>by
    rw [D.py] at h1;cases h1
    cases e with
    | lst b=>rw [D.py] at h2;obtain ⟨qs,hq,rfl⟩:=Option.map_eq_some_iff.mp h2;rw [PyData.eqv];rfl
    | tup b=>rw [D.py] at h2;obtain ⟨qs,hq,rfl⟩:=Option.map_eq_some_iff.mp h2;rw [PyData.eqv];rfl
    | ins _ _=>rw [D.py] at h2;cases h2
    | dk _=>rw [D.py] at h2;cases h2
    | dt _=>rw [D.py] at h2;cases h2
    | any=>rw [D.py] at h2;cases h2
    | raw _=>rw [D.py] at h2;cases h2
    | _=>rw [D.py] at h2;cases h2;rw [PyData.eqv];rfl
  | .int x,e,p,q,h1,h2=>by
    rw [D.py] at h1;cases h1
    cases e with
    | lst b=>rw [D.py] at h2;obtain ⟨qs,hq,rfl⟩:=Option.map_eq_some_iff.mp h2;rw [PyData.eqv];rfl
    | tup b=>rw [D.py] at h2;obtain ⟨qs,hq,rfl⟩:=Option.map_eq_some_iff.mp h2;rw [PyData.eqv];rfl
    | ins _ _=>rw [D.py] at h2;cases h2
    | dk _=>rw [D.py] at h2;cases h2
    | dt _=>rw [D.py] at h2;cases h2
    | any=>rw [D.py] at h2;cases h2
    | raw _=>rw [D.py] at h2;cases h2
    | _=>rw [D.py] at h2;cases h2;rw [PyData.eqv];rfl
  | .str x,e,p,q,h1,h2=>by
    rw [D.py] at h1;cases h1
    cases e with
    | lst b=>rw [D.py] at h2;obtain ⟨qs,hq,rfl⟩:=Option.map_eq_some_iff.mp h2;rw [PyData.eqv];rfl
    | tup b=>rw [D.py] at h2;obtain ⟨qs,hq,rfl⟩:=Option.map_eq_some_iff.mp h2;rw [PyData.eqv];rfl
    | ins _ _=>rw [D.py] at h2;cases h2
    | dk _=>rw [D.py] at h2;cases h2
    | dt _=>rw [D.py] at h2;cases h2
    | any=>rw [D.py] at h2;cases h2
    | raw _=>rw [D.py] at h2;cases h2
    | _=>rw [D.py] at h2;cases h2;rw [PyData.eqv];rfl
  | .ins _ _,e,p,q,h1,h2=>by rw [D.py] at h1;cases h1
  | .dk _,e,p,q,h1,h2=>by rw [D.py] at h1;cases h1
  | .dt _,e,p,q,h1,h2=>by rw [D.py] at h1;cases h1
  | .any,e,p,q,h1,h2=>by rw [D.py] at h1;cases h1
  | .raw _,e,p,q,h1,h2=>by rw [D.py] at h1;cases h1
  | .kt a,e,p,q,h1,h2=>by
    rw [D.py] at h1
    cases h1
    cases e with
    | tup b=>
      rw [D.py] at h2
      obtain ⟨qs,hq,rfl⟩:=Option.map_eq_some_iff.mp h2
      rw [PyData.eqv,eqD];exact (eqKs_py a b qs hq).1
    | kt b=>
      rw [D.py] at h2
      cases h2
      rw [PyData.eqv,eqD];exact eqKK_py a b
    | lst b=>
      rw [D.py] at h2
      obtain ⟨qs,hq,rfl⟩:=Option.map_eq_some_iff.mp h2
      rw [PyData.eqv];rfl
    | ins _ _=>rw [D.py] at h2;cases h2
    | dk _=>rw [D.py] at h2;cases h2
    | dt _=>rw [D.py] at h2;cases h2
    | any=>rw [D.py] at h2;cases h2
    | raw _=>rw [D.py] at h2;cases h2
    | _=>rw [D.py] at h2;cases h2;rw [PyData.eqv];rfl
theorem eqDs_py:∀ (a b:List D) (ps qs:List PyData),D.pyAll a=some ps→D.pyAll b=some qs→PyData.eqvAll ps qs=eqDs a b
  | [],[],ps,qs,h1,h2=>by rw [D.pyAll] at h1 h2;cases h1;cases h2;rfl
  | [],y::b,ps,qs,h1,h2=>by
    rw [D.pyAll] at h1;rw [D.pyAll] at h2;cases h1
    split at h2<;>cases h2
    rfl
  | x::a,[],ps,qs,h1,h2=>by
    rw [D.pyAll] at h1;rw [D.pyAll] at h2;cases h2
    split at h1<;>cases h1
    rfl
  | x::a,y::b,ps,qs,h1,h2=>by
    rw [D.pyAll] at h1 h2
    split at h1
    · rename_i p' ps' e1 e2
      cases h1
      split at h2
      · rename_i q' qs' e3 e4
        cases h2
        rw [PyData.eqvAll,eqDs,eqD_py x y p' q' e1 e3,eqDs_py a b ps' qs' e2 e4]
      · cases h2
    · cases h1
end
theorem fine_sh {b:Nat} {d:D} (h:Fine b d) (hd:dep d≤60:=by decide) (hb:0 < b:=by decide) (hb2:b≤500:=by decide):∃ p,d.py=some p∧SeqAt.shaped p=true:=by
  obtain ⟨p,w⟩:=fine_shw hb hb2 d h
  exact ⟨p,w.py,by simp [SeqAt.shaped,w.lay,Nat.le_trans w.dp (show dep d≤64 by omega)]⟩
theorem l_eqE {n:Bool} {v w:DV} {d e:D} {Q:DV→Prop} (hv:v.dat=some d) (hw:w.dat=some e) (h1:∃ p,d.py=some p∧SeqAt.shaped p=true) (h2:∃ p,e.py=some p∧SeqAt.shaped p=true) (q:Q (.d (.bl (if n then !eqD d e else eqD d e)))):eqR n v w Q:=by
  obtain ⟨p,p1,p2⟩:=h1
  obtain ⟨p',p3,p4⟩:=h2
  unfold eqR
  split
  · cases hv;cases hw
    exact q
  · cases hv;cases hw
    rename_i i j
    have z:eqD (.str i) (.str j)=decide (i=j):=by
      show (i == j)=_
      rw [Bool.eq_iff_iff];simp
    rw [z] at q
    exact q
  · cases hv;cases hw
    rename_i i j
    have z:eqD (.bl i) (.bl j)=decide (i=j):=by
      show (i == j)=_
      rw [Bool.eq_iff_iff];simp
    rw [z] at q
    exact q
  · unfold eqDeep
    rw [hv,hw]
    dsimp only
    rw [p1,p3]
    refine ⟨p2,p4,?_⟩
    rw [eqD_py d e p p' p1 p3]
    exact q
mutual
def NB:D→Bool
  | .lst ds=>NBs ds
  | .tup ds=>NBs ds
  | .int _=>true
  | .str _=>true
  | .non=>true
  | _=>false
def NBs:List D→Bool
  | []=>true
  | d::r=>NB d && NBs r
end
mutual
theorem eqD_refl:∀ d:D,Pl d→eqD d d=true
  | .lst a,h=>by rw [eqD];exact eqDs_refl a h.lst
  | .tup a,h=>by rw [eqD];exact eqDs_refl a h.tup
  | .non,_=>rfl
  | .bl b,_=>by show (b == b)=true;simp
  | .int i,_=>by show (i == i)=true;simp
  | .str z,_=>by show (z == z)=true;simp
  | .ins _ _,h=>by rw [Pl] at h;exact h.elim
  | .dk _,h=>by rw [Pl] at h;exact h.elim
  | .dt _,h=>by rw [Pl] at h;exact h.elim
  | .any,h=>by rw [Pl] at h;exact h.elim
  | .raw _,h=>by rw [Pl] at h;exact h.elim
  | .kt _,h=>by rw [Pl] at h;exact h.elim
theorem eqDs_refl:∀ ds:List D,Pls ds→eqDs ds ds=true
  | [],_=>by rw [eqDs]
  | d::r,h=>by rw [eqDs,eqD_refl d h.hd,eqDs_refl r h.tl];rfl
end
theorem str_nil (x:Str):Str.empty++x=x:=by
  show (⟨#[]++x.cps⟩:Str)=x
  rw [Array.empty_append]
theorem int_len {b:Nat} {i:Int} (h:i.natAbs < 10 ^ b) (hb:0 < b:=by decide) (h2:b≤500:=by decide):(toString i:Str).length≤b + 1:=(Shw.intN hb h2 h).ln
theorem str_app_len (x y:Str):(x++y).length=x.length + y.length:=by
  show (x.cps++y.cps).size=x.cps.size + y.cps.size
  rw [Array.size_append]
theorem l_varL {i:Nat} {sl:DSt} {Q:DV→DSt→Prop} {E:XP} {x:DV} (h:Lent x) (e:sl[i]?=some (some x)) (q:Q x sl):dVar i sl Q E:=by
  unfold dVar
  rw [e]
  rcases h with ⟨d,rfl⟩ | ⟨ds,rfl⟩<;>exact q
def dVarL (i:Nat):TD:=fun sl Q _=>∃ x,sl[i]?=some (some x)∧Lent x∧Q x sl
theorem de_varL {X:Cx} {W:WX} {i:Nat} {n:Str} {pos:Pos} (h:PE X (.Name n pos) (tVar i)):DE X W (.Name n pos) (dVarL i):=pe_imp (de_var (W:=W) h) fun σ H R ⟨G,so,sl,Q,E,rep,⟨x,e,hl,q⟩,hq,hx⟩=>
  ⟨G,so,sl,Q,E,rep,l_varL hl e q,hq,hx⟩
structure Sm (b d w:Nat) (x:D):Prop where
  f:Fine b x
  d:dep x≤d
  w:wt b x≤w
structure Sms (b d w:Nat) (xs:List D):Prop where
  f:Fines b xs
  d:deps xs≤d
  w:wts b xs≤w
section
variable {b d w d' w' m:Nat} {x:D} {xs ys:List D}
theorem Sm.mono (h:Sm b d w x) (h1:d≤d') (h2:w≤w'):Sm b d' w' x:=⟨h.f,Nat.le_trans h.d h1,Nat.le_trans h.w h2⟩
theorem Sms.mono (h:Sms b d w xs) (h1:d≤d') (h2:w≤w'):Sms b d' w' xs:=⟨h.f,Nat.le_trans h.d h1,Nat.le_trans h.w h2⟩
theorem sms_nil:Sms b 0 0 []:=⟨by simp [Fines],by simp [deps],by simp [wts]⟩
theorem sms_cons (h:Sm b d w x) (t:Sms b d' w' xs):Sms b (max d d') (w + 2 + w') (x::xs):=⟨fcons h.f t.f,by rw [deps];have:=h.d;have:=t.d;omega,by rw [wts];have:=h.w;have:=t.w;omega⟩
theorem sms_all (h:∀ x∈xs,Sm b d w x) (hl:xs.length≤m):Sms b d (m * (w + 2)) xs:=by
  induction xs generalizing m with
  | nil=>exact sms_nil.mono (by omega) (by omega)
  | cons x r ih=>
    obtain ⟨k,rfl⟩:∃ k,m=k + 1:=⟨m - 1,by simp at hl;omega⟩
    have z:=ih (m:=k) (fun y hy=>h y (List.mem_cons_of_mem _ hy)) (by simpa using hl)
    have z1:=sms_cons (h x (List.mem_cons_self ..)) z
    refine z1.mono (by omega) ?_
    rw [Nat.succ_mul];omega
theorem sm_tup (h:Sms b d w xs):Sm b (d + 1) (w + 3) (.tup xs):=⟨ftup h.f,by rw [dep];have:=h.d;omega,by rw [wt];have:=h.w;omega⟩
theorem sm_lst (h:Sms b d w xs):Sm b (d + 1) (w + 3) (.lst xs):=⟨flst h.f,by rw [dep];have:=h.d;omega,by rw [wt];have:=h.w;omega⟩
theorem sm_int {i:Int} (h:i.natAbs < 10 ^ b):Sm b 0 (b + 1) (.int i):=⟨fint h,Nat.le_refl _,by rw [wt];omega⟩
theorem sm_bl {i:Bool}:Sm b 0 5 (.bl i):=⟨fbl,Nat.le_refl _,Nat.le_refl _⟩
theorem sm_non:Sm b 0 5 .non:=⟨fnon,Nat.le_refl _,Nat.le_refl _⟩
theorem sm_str {z:Str} (h:∀ c∈z.cps.toList,c < 0x110000) (hl:z.length≤m):Sm b 0 (10 * m + 2) (.str z):=⟨fstr h,Nat.le_refl _,by rw [wt];omega⟩
theorem sm_rat {q:Rat} (h1:q.num.natAbs < 10 ^ b) (h2:q.den < 10 ^ b):Sm b 1 (b + b + 9) (rD q):=
  (sm_tup (sms_cons (sm_int h1) (sms_cons (sm_int (i:=(q.den:Int)) (by omega)) sms_nil))).mono (by omega) (by omega)
theorem Sm.sh (h:Sm b d w x) (hd:d≤60:=by decide) (hb:0 < b:=by decide) (hb2:b≤500:=by decide):∃ p,x.py=some p∧SeqAt.shaped p=true:=fine_sh h.f (Nat.le_trans h.d hd) hb hb2
theorem same_lstS {Q:DV→Prop} {E:XE'} {ds es:List D} (he:ds=es) (h:Sms b d w es) (q:Q (.d (.bl true))) (h1:d≤60:=by decide) (h2:w≤16000000:=by decide) (hb:0 < b:=by decide) (hb2:b≤500:=by decide):spSame [.d (.lst ds),.d (.lst es)] Q E:=same_lst b he h.f q (Nat.le_trans h.d h1) (Nat.le_trans h.w h2) hb hb2
end
def okS (z:Str):Prop:=∀ c∈z.cps.toList,c < 0x110000
theorem ok_app {x y:Str} (h:okS x) (h2:okS y):okS (x++y):=by
  intro c hc
  have e:(x++y).cps.toList=x.cps.toList++y.cps.toList:=by
    show (x.cps++y.cps).toList=_
    rw [Array.toList_append]
  rw [e] at hc
  rcases List.mem_append.mp hc with hc | hc
  · exact h c hc
  · exact h2 c hc
theorem ok_of (s:String):okS (Str.ofString s):=by
  intro c hc
  rw [Str.ofString_eq_toList] at hc
  have hc':c∈s.toList.map Char.toNat:=hc
  obtain ⟨ch,_,rfl⟩:=List.mem_map.mp hc'
  have:=ch.valid
  have h2:ch.toNat.isValidChar:=this
  rcases h2 with h2 | h2<;>omega
mutual
def nk:D→Bool
  | .lst ds=>nks ds
  | .tup ds=>nks ds
  | .kt _=>false
  | _=>true
def nks:List D→Bool
  | []=>true
  | d::r=>nk d && nks r
end
mutual
theorem fine_pl {b:Nat}:∀ d:D,Fine b d→nk d=true→Pl d
  | .lst ds,h,n=>pl_lst (fines_pl ds (by simpa only [Fine] using h) (by simpa only [nk] using n))
  | .tup ds,h,n=>pl_tup (fines_pl ds (by simpa only [Fine] using h) (by simpa only [nk] using n))
  | .non,_,_=>pl_non
  | .bl _,_,_=>pl_bl
  | .int _,_,_=>pl_int
  | .str _,_,_=>pl_str
  | .ins _ _,h,_=>by simp [Fine] at h
  | .dk _,h,_=>by simp [Fine] at h
  | .dt _,h,_=>by simp [Fine] at h
  | .any,h,_=>by simp [Fine] at h
  | .raw _,h,_=>by simp [Fine] at h
  | .kt _,_,n=>by simp [nk] at n
theorem fines_pl {b:Nat}:∀ ds:List D,Fines b ds→nks ds=true→Pls ds
  | [],_,_=>pls_nil
  | d::r,h,n=>by
    rw [Fines] at h
    rw [nks,Bool.and_eq_true] at n
    exact pls_cons (fine_pl d h.1 n.1) (fines_pl r h.2 n.2)
end
theorem Sm.pl {b d w:Nat} {x:D} (h:Sm b d w x) (n:nk x=true):Pl x:=fine_pl x h.f n
theorem Sms.hd {b d w:Nat} {x:D} {xs:List D} (h:Sms b d w (x::xs)):Sm b d w x:=by
  have f:=h.f;have hd:=h.d;have hw:=h.w
  rw [Fines] at f;rw [deps] at hd;rw [wts] at hw
  exact ⟨f.1,by omega,by omega⟩
theorem Sms.tl {b d w:Nat} {x:D} {xs:List D} (h:Sms b d w (x::xs)):Sms b d w xs:=by
  have f:=h.f;have hd:=h.d;have hw:=h.w
  rw [Fines] at f;rw [deps] at hd;rw [wts] at hw
  exact ⟨f.2,by omega,by omega⟩
theorem Sms.mem {b d w:Nat} {x:D}:∀ {xs:List D},Sms b d w xs→x∈xs→Sm b d w x
  | _::_,h,.head _=>h.hd
  | _::_,h,.tail _ m=>Sms.mem h.tl m
theorem Sms.len {b d w:Nat}:∀ {xs:List D},Sms b d w xs→xs.length≤w:=by
  intro xs h
  have hw:=h.w
  have:∀ ys:List D,ys.length≤wts b ys:=by
    intro ys
    induction ys with
    | nil=>simp
    | cons y r ih=>rw [wts,List.length_cons];omega
  have:=this xs
  omega
theorem Sm.unlst {b d w:Nat} {xs:List D} (h:Sm b (d + 1) w (.lst xs)):Sms b d w xs:=by
  have f:=h.f;have hd:=h.d;have hw:=h.w
  rw [dep] at hd;rw [wt] at hw
  exact ⟨by simpa only [Fine] using f,by omega,by omega⟩
theorem Sm.untup {b d w:Nat} {xs:List D} (h:Sm b (d + 1) w (.tup xs)):Sms b d w xs:=by
  have f:=h.f;have hd:=h.d;have hw:=h.w
  rw [dep] at hd;rw [wt] at hw
  exact ⟨by simpa only [Fine] using f,by omega,by omega⟩
theorem Sm.lst0 {b w:Nat} {xs:List D} (h:Sm b 0 w (.lst xs)):False:=by have:=h.d;rw [dep] at this;omega
theorem Sm.tup0 {b w:Nat} {xs:List D} (h:Sm b 0 w (.tup xs)):False:=by have:=h.d;rw [dep] at this;omega
theorem Sm.items {b d w:Nat} {x:D} {xs:List D} (h:Sm b (d + 1) w x) (e:itemsD x=some xs):Sms b d w xs:=by
  cases x with
  | lst es=>cases e;exact h.unlst
  | tup es=>cases e;exact h.untup
  | _=>cases e
section
variable {K:PySem.W.Frag} {G H:Hp} {so:So} {v:V} {dv:DV}
theorem FAll.keys {κ:Type}:∀ {vs:List (κ × V)} {kvs:List (κ × D)},FAll K G vs kvs→vs.map (·.1)=kvs.map (·.1)
  | _,_,.nil=>rfl
  | _,_,.cons _ t=>by rw [List.map_cons,List.map_cons,FAll.keys t]
end
section
variable {X:Cx} {W:WX} {a b:Expr} {ta tb:TD} {pos:Pos}
end
section
variable {K:PySem.W.Frag}
theorem DAll.strs {G:Hp}:∀ (ys:List Str),DAll K G (ys.map V.str) (ys.map D.str)
  | []=>.nil
  | y::r=>.cons (.str y) (DAll.strs r)
end
section
variable {K:PySem.W.Frag}
end
section
variable {K:PySem.W.Frag} {G:Hp}
end
section
variable {X:Cx} {W:WX} {pos pos':Pos} {o k value:Expr} {te tk:TD} {i:Nat}
end
section
variable {K:PySem.W.Frag} {G H:Hp}
end
section
variable {K:PySem.W.Frag} {G H:Hp} {so:So} {σ:L2.St} {sl:DSt} {i:Nat} {a:Addr} {kvs:List (Key × D)} {vs:List (Key × V)} {od:Obj}
end
section
variable {X:Cx} {k:Nat} {f C:Addr} {fd:FuncData} {ps:List Str} {sp:SpD}
end
section
variable {X:Cx} {W:WX} {o key value:Expr} {tk te:TD} {pos pos':Pos} {i:Nat}
end
def kdH (K:PySem.W.Frag) (a:Addr):List Int:=match K.lookup a with
  | some ⟨_,_,.dict es _,_⟩=>es.toList.map (·.hash)
  | _=>[]
def icB (K:PySem.W.Frag) (C:Addr) (f:Str) (d:D):Bool:=match PySem.W.findIn K (.ref C) f with
  | some (some u)=>decide (PySem.W.specialIn K u "__get__"=some none) && (!(PySem.W.copiedNames.contains f) && datB K d u)
  | _=>false
def supB (K:PySem.W.Frag) (C D:Addr) (m:Str) (f2:Addr):Bool:=(PySem.W.clsIn K D).isSome && (decide (PySem.W.mroIn K C (.ref D)=some true) && (decide (PySem.W.nsIn K cStatics "thirdparty.any"=some none) && (decide (PySem.W.ks_superIn K C D m=some (some (.ref f2))) && (decide (PySem.W.typeIn K (.ref f2)=some (.type "function")) && PySem.W.fnIn K f2))))
def meB (K:PySem.W.Frag) (C:Addr) (m:Str) (f:Addr):Bool:=decide (PySem.W.findIn K (.ref C) m=some (some (.ref f))) && (PySem.W.isFn K (.ref f) && PySem.W.keepIn K (.ref f))
def prB (K:PySem.W.Frag) (C:Addr) (m:Str) (p:Addr):Bool:=decide (PySem.W.findIn K (.ref C) m=some (some (.ref p)))
def ktB (K:PySem.W.Frag) (B C:Addr) (b:Bool):Bool:=decide (PySem.W.kitOne K (.ref B) (.ref C)=some b)
def fnWs (K:PySem.W.Frag) (p:Str × Option Str):He.FnW:=match K.lookup (He.fAd K p) with
  | some ⟨_,_,.func fd,_⟩=>some (fd.name,fd.qualname,fd.params,fd.body,fd.scope,fd.globals,[],fd.builtins)
  | _=>none
def shB (K:PySem.W.Frag) (file:Str) (q:He.DefD) (C:Str):Bool:=PySem.W.keepIn K (.ref (He.fAd K q.at_)) && (match K.lookup (He.fAd K q.at_) with
  | some ⟨_,_,.func fd,_⟩=>He.dflB K fd.defaults (q.dvs K) && (He.kwdB K fd.kwdefaults (q.kws K) && (match fd.closure,fd.code with
    | [(x,cc)],.ref cda=>decide (x="__class__") && (PySem.W.codeIn K (.ref cda) fd.qualname && ((match K.lookup cda with
        | some ⟨_,_,.fields vs,_⟩=>(match (vs[2]? : Option Value) with
          | some (.str f _)=>decide (f=file)
          | _=>false)
        | _=>false) && (match K.lookup cc with
        | some ⟨_,_,.cell (some (.ref D)),_⟩=>decide (D=He.ga K C)
        | _=>false)))
    | _,_=>false))
  | _=>false)
end DL
set_option maxHeartbeats 4000000
namespace K12
open PySem PySem.Spec PyProof.Rows L2 DL
def topS (i:Nat):Stmt:=PySem.Challenge.pw_missingmiles_k12_answers_told.main.body.getD i (.Pass ⟨0,0,0,0⟩)
abbrev s_is_whole:Stmt:=topS 10
abbrev i_is_whole:Nat:=0
abbrev s_is_number:Stmt:=topS 11
abbrev i_is_number:Nat:=1
abbrev s_is_ratio:Stmt:=topS 12
abbrev i_is_ratio:Nat:=2
abbrev s_is_valued:Stmt:=topS 13
abbrev i_is_valued:Nat:=3
abbrev s_lowest:Stmt:=topS 14
abbrev i_lowest:Nat:=4
abbrev s_ratio_of:Stmt:=topS 15
abbrev i_ratio_of:Nat:=5
abbrev s_ratio_text:Stmt:=topS 22
abbrev i_ratio_text:Nat:=6
abbrev s_is_row:Stmt:=topS 29
abbrev i_is_row:Nat:=7
abbrev s_Problem___init__:Stmt:=inClass (topS 30) 1
abbrev i_Problem___init__:Nat:=8
abbrev s_Problem___eq__:Stmt:=inClass (topS 30) 9
abbrev i_Problem___eq__:Nat:=9
abbrev s_own_copy:Stmt:=topS 32
abbrev i_own_copy:Nat:=10
abbrev s_as_list:Stmt:=topS 33
abbrev i_as_list:Nat:=11
abbrev s_Answer___init__:Stmt:=inClass (topS 34) 1
abbrev i_Answer___init__:Nat:=12
abbrev s_Answer_problem:Stmt:=inClass (topS 34) 2
abbrev i_Answer_problem:Nat:=13
abbrev s_Answer_holds:Stmt:=inClass (topS 34) 4
abbrev i_Answer_holds:Nat:=14
abbrev s_Answer___bool__:Stmt:=inClass (topS 34) 5
abbrev i_Answer___bool__:Nat:=15
abbrev s_Solved___init__:Stmt:=inClass (topS 35) 1
abbrev i_Solved___init__:Nat:=16
abbrev s_Solved_numbers:Stmt:=inClass (topS 35) 2
abbrev i_Solved_numbers:Nat:=17
abbrev s_Solved___bool__:Stmt:=inClass (topS 35) 4
abbrev i_Solved___bool__:Nat:=18
abbrev s_Barred___init__:Stmt:=inClass (topS 36) 1
abbrev i_Barred___init__:Nat:=19
abbrev s_Barred_weights:Stmt:=inClass (topS 36) 2
abbrev i_Barred_weights:Nat:=20
abbrev s_Top___init__:Stmt:=inClass (topS 37) 1
abbrev i_Top___init__:Nat:=21
abbrev s_Top_factors:Stmt:=inClass (topS 37) 2
abbrev i_Top_factors:Nat:=22
abbrev s_Top_weights:Stmt:=inClass (topS 37) 3
abbrev i_Top_weights:Nat:=23
abbrev s_Top_told:Stmt:=inClass (topS 37) 4
abbrev i_Top_told:Nat:=24
abbrev s_Answer_told:Stmt:=inClass (topS 34) 3
abbrev i_Answer_told:Nat:=25
abbrev s_Endless___init__:Stmt:=inClass (topS 38) 1
abbrev i_Endless___init__:Nat:=26
abbrev s_Endless_factors:Stmt:=inClass (topS 38) 2
abbrev i_Endless_factors:Nat:=27
abbrev s_Endless_direction:Stmt:=inClass (topS 38) 3
abbrev i_Endless_direction:Nat:=28
abbrev s_Answer___repr__:Stmt:=inClass (topS 34) 6
abbrev i_Answer___repr__:Nat:=29
abbrev s__law_source:Stmt:=topS 40
abbrev i__law_source:Nat:=30
abbrev s__law_draw:Stmt:=topS 41
abbrev i__law_draw:Nat:=31
abbrev s__law_of:Stmt:=topS 42
abbrev i__law_of:Nat:=32
abbrev s__law_same:Stmt:=topS 43
abbrev i__law_same:Nat:=33
abbrev s__law_low:Stmt:=topS 44
abbrev i__law_low:Nat:=34
abbrev s__law_wide:Stmt:=topS 45
abbrev i__law_wide:Nat:=35
abbrev s__law_pair:Stmt:=topS 46
abbrev i__law_pair:Nat:=36
abbrev s__law_text:Stmt:=topS 47
abbrev i__law_text:Nat:=37
abbrev s_law:Stmt:=topS 48
abbrev i_law:Nat:=38
abbrev sx_InvalidRatio:Stmt:=inClass (topS 4) 0
abbrev xf_InvalidRatio:List (Str × (Str ⊕ Str)):=[("code",.inl "InvalidRatio"),("given",.inr "given")]
abbrev xd_InvalidRatio (given:D):List (Str × D):=[("given",given),("code",.str "InvalidRatio")]
abbrev sx_InvalidNumber:Stmt:=inClass (topS 5) 0
abbrev xf_InvalidNumber:List (Str × (Str ⊕ Str)):=[("code",.inl "InvalidNumber"),("given",.inr "given")]
abbrev xd_InvalidNumber (given:D):List (Str × D):=[("given",given),("code",.str "InvalidNumber")]
abbrev sx_InvalidRow:Stmt:=inClass (topS 6) 0
abbrev xf_InvalidRow:List (Str × (Str ⊕ Str)):=[("code",.inl "InvalidRow"),("at",.inr "at")]
abbrev xd_InvalidRow (at_:D):List (Str × D):=[("at",at_),("code",.str "InvalidRow")]
theorem xq_InvalidRatio (given:D):xdD ["given"] xf_InvalidRatio [given]=xd_InvalidRatio given:=by first | rfl | kernel_rfl
theorem xr_InvalidRatio {E:Value→List (Str × D)→Prop} {v:Value} {given:D} (h:E v (xd_InvalidRatio given)):E v (xdD ["given"] xf_InvalidRatio [given]):=by rw [xq_InvalidRatio];exact h
theorem xq_InvalidNumber (given:D):xdD ["given"] xf_InvalidNumber [given]=xd_InvalidNumber given:=by first | rfl | kernel_rfl
theorem xr_InvalidNumber {E:Value→List (Str × D)→Prop} {v:Value} {given:D} (h:E v (xd_InvalidNumber given)):E v (xdD ["given"] xf_InvalidNumber [given]):=by rw [xq_InvalidNumber];exact h
theorem xq_InvalidRow (at_:D):xdD ["at"] xf_InvalidRow [at_]=xd_InvalidRow at_:=by first | rfl | kernel_rfl
theorem xr_InvalidRow {E:Value→List (Str × D)→Prop} {v:Value} {at_:D} (h:E v (xd_InvalidRow at_)):E v (xdD ["at"] xf_InvalidRow [at_]):=by rw [xq_InvalidRow];exact h
section
variable {P:Program} {w:World} {K:PySem.W.Frag} {mg:Str→Option Value} {base:Heap} {a:Nat→Addr} {d:Nat→FuncData}
def df0:He.DefD:=⟨("is_whole",none),"is_whole","is_whole",defArgs s_is_whole,defBody s_is_whole,defScope s_is_whole,[],[]⟩
def df1:He.DefD:=⟨("is_number",none),"is_number","is_number",defArgs s_is_number,defBody s_is_number,defScope s_is_number,[],[]⟩
def df2:He.DefD:=⟨("is_ratio",none),"is_ratio","is_ratio",defArgs s_is_ratio,defBody s_is_ratio,defScope s_is_ratio,[],[]⟩
def df3:He.DefD:=⟨("is_valued",none),"is_valued","is_valued",defArgs s_is_valued,defBody s_is_valued,defScope s_is_valued,[],[]⟩
def df4:He.DefD:=⟨("lowest",none),"lowest","lowest",defArgs s_lowest,defBody s_lowest,defScope s_lowest,[],[]⟩
def df5:He.DefD:=⟨("ratio_of",none),"ratio_of","ratio_of",defArgs s_ratio_of,defBody s_ratio_of,defScope s_ratio_of,[],[]⟩
def df6:He.DefD:=⟨("ratio_text",none),"ratio_text","ratio_text",defArgs s_ratio_text,defBody s_ratio_text,defScope s_ratio_text,[],[]⟩
def df7:He.DefD:=⟨("is_row",none),"is_row","is_row",defArgs s_is_row,defBody s_is_row,defScope s_is_row,[],[]⟩
def df8:He.DefD:=⟨("Problem",some "__init__"),"__init__","Problem.__init__",defArgs s_Problem___init__,defBody s_Problem___init__,defScope s_Problem___init__,[.adr (He.dflAt ("Problem",some "__init__") 0)],[]⟩
def df9:He.DefD:=⟨("Problem",some "__eq__"),"__eq__","Problem.__eq__",defArgs s_Problem___eq__,defBody s_Problem___eq__,defScope s_Problem___eq__,[],[]⟩
def df10:He.DefD:=⟨("own_copy",none),"own_copy","own_copy",defArgs s_own_copy,defBody s_own_copy,defScope s_own_copy,[],[]⟩
def df11:He.DefD:=⟨("as_list",none),"as_list","as_list",defArgs s_as_list,defBody s_as_list,defScope s_as_list,[],[]⟩
def df12:He.DefD:=⟨("Answer",some "__init__"),"__init__","Answer.__init__",defArgs s_Answer___init__,defBody s_Answer___init__,defScope s_Answer___init__,[],[]⟩
def df13:He.DefD:=⟨("Answer",some "problem"),"problem","Answer.problem",defArgs s_Answer_problem,defBody s_Answer_problem,defScope s_Answer_problem,[],[]⟩
def df14:He.DefD:=⟨("Answer",some "holds"),"holds","Answer.holds",defArgs s_Answer_holds,defBody s_Answer_holds,defScope s_Answer_holds,[],[]⟩
def df15:He.DefD:=⟨("Answer",some "__bool__"),"__bool__","Answer.__bool__",defArgs s_Answer___bool__,defBody s_Answer___bool__,defScope s_Answer___bool__,[],[]⟩
def df16:He.DefD:=⟨("Solved",some "__init__"),"__init__","Solved.__init__",defArgs s_Solved___init__,defBody s_Solved___init__,defScope s_Solved___init__,[],[]⟩
def df17:He.DefD:=⟨("Solved",some "numbers"),"numbers","Solved.numbers",defArgs s_Solved_numbers,defBody s_Solved_numbers,defScope s_Solved_numbers,[],[]⟩
def df18:He.DefD:=⟨("Solved",some "__bool__"),"__bool__","Solved.__bool__",defArgs s_Solved___bool__,defBody s_Solved___bool__,defScope s_Solved___bool__,[],[]⟩
def df19:He.DefD:=⟨("Barred",some "__init__"),"__init__","Barred.__init__",defArgs s_Barred___init__,defBody s_Barred___init__,defScope s_Barred___init__,[],[]⟩
def df20:He.DefD:=⟨("Barred",some "weights"),"weights","Barred.weights",defArgs s_Barred_weights,defBody s_Barred_weights,defScope s_Barred_weights,[],[]⟩
def df21:He.DefD:=⟨("Top",some "__init__"),"__init__","Top.__init__",defArgs s_Top___init__,defBody s_Top___init__,defScope s_Top___init__,[],[]⟩
def df22:He.DefD:=⟨("Top",some "factors"),"factors","Top.factors",defArgs s_Top_factors,defBody s_Top_factors,defScope s_Top_factors,[],[]⟩
def df23:He.DefD:=⟨("Top",some "weights"),"weights","Top.weights",defArgs s_Top_weights,defBody s_Top_weights,defScope s_Top_weights,[],[]⟩
def df24:He.DefD:=⟨("Top",some "told"),"told","Top.told",defArgs s_Top_told,defBody s_Top_told,defScope s_Top_told,[],[]⟩
def df25:He.DefD:=⟨("Answer",some "told"),"told","Answer.told",defArgs s_Answer_told,defBody s_Answer_told,defScope s_Answer_told,[],[]⟩
def df26:He.DefD:=⟨("Endless",some "__init__"),"__init__","Endless.__init__",defArgs s_Endless___init__,defBody s_Endless___init__,defScope s_Endless___init__,[],[]⟩
def df27:He.DefD:=⟨("Endless",some "factors"),"factors","Endless.factors",defArgs s_Endless_factors,defBody s_Endless_factors,defScope s_Endless_factors,[],[]⟩
def df28:He.DefD:=⟨("Endless",some "direction"),"direction","Endless.direction",defArgs s_Endless_direction,defBody s_Endless_direction,defScope s_Endless_direction,[],[]⟩
def df29:He.DefD:=⟨("Answer",some "__repr__"),"__repr__","Answer.__repr__",defArgs s_Answer___repr__,defBody s_Answer___repr__,defScope s_Answer___repr__,[],[]⟩
def df30:He.DefD:=⟨("_law_source",none),"_law_source","_law_source",defArgs s__law_source,defBody s__law_source,defScope s__law_source,[],[]⟩
def df31:He.DefD:=⟨("_law_draw",none),"_law_draw","_law_draw",defArgs s__law_draw,defBody s__law_draw,defScope s__law_draw,[],[]⟩
def df32:He.DefD:=⟨("_law_of",none),"_law_of","_law_of",defArgs s__law_of,defBody s__law_of,defScope s__law_of,[],[]⟩
def df33:He.DefD:=⟨("_law_same",none),"_law_same","_law_same",defArgs s__law_same,defBody s__law_same,defScope s__law_same,[],[]⟩
def df34:He.DefD:=⟨("_law_low",none),"_law_low","_law_low",defArgs s__law_low,defBody s__law_low,defScope s__law_low,[],[]⟩
def df35:He.DefD:=⟨("_law_wide",none),"_law_wide","_law_wide",defArgs s__law_wide,defBody s__law_wide,defScope s__law_wide,[],[]⟩
def df36:He.DefD:=⟨("_law_pair",none),"_law_pair","_law_pair",defArgs s__law_pair,defBody s__law_pair,defScope s__law_pair,[],[]⟩
def df37:He.DefD:=⟨("_law_text",none),"_law_text","_law_text",defArgs s__law_text,defBody s__law_text,defScope s__law_text,[],[]⟩
def df38:He.DefD:=⟨("law",none),"law","law",defArgs s_law,defBody s_law,defScope s_law,[],[]⟩
def fnL:List He.DefD:=[df0,df1,df2,df3,df4,df5,df6,df7,df8,df9,df10,df11,df12,df14,df15,df17,df18,df20,df22,df23,df24,df25,df27,df28,df29,df30,df31,df32,df33,df34,df35,df36,df37,df38]
def ps13:PSpec:=⟨"Answer","problem",df13,false⟩
def faL:List He.Fa:=([.glo "is_whole",.glo "is_number",.glo "is_ratio",.glo "is_valued",.glo "lowest",.glo "ratio_of",.glo "ratio_text",.glo "is_row",.mkr "Problem",.meth "Problem" "__eq__",.glo "own_copy",.glo "as_list",.mkr "Answer",.meth "Answer" "holds",.meth "Answer" "__bool__",.mkr "Solved",.meth "Solved" "numbers",.meth "Solved" "__bool__",.mkr "Barred",.meth "Barred" "weights",.mkr "Top",.meth "Top" "factors",.meth "Top" "weights",.meth "Top" "told",.meth "Answer" "told",.mkr "Endless",.meth "Endless" "factors",.meth "Endless" "direction",.meth "Answer" "__repr__",.glo "_law_source"]:List He.Fa)++([.glo "_law_draw",.glo "_law_of",.glo "_law_same",.glo "_law_low",.glo "_law_wide",.glo "_law_pair",.glo "_law_text",.glo "law",.glo "Problem",.cls "Problem",.noat "Problem" "own_size",.noat "Problem" "own_rows",.glo "Answer",.cls "Answer",.noat "Answer" "own_problem",.glo "Solved",.cls "Solved",.noat "Solved" "own_values",.noat "Solved" "own_problem",.glo "Barred",.cls "Barred",.noat "Barred" "own_weights",.noat "Barred" "own_problem",.glo "Top",.cls "Top",.noat "Top" "own_factors",.noat "Top" "number",.noat "Top" "own_weights",.noat "Top" "own_values",.noat "Top" "own_problem"]:List He.Fa)++([.glo "Endless",.cls "Endless",.noat "Endless" "own_factors",.noat "Endless" "own_direction",.noat "Endless" "own_values",.noat "Endless" "own_problem",.glo "InvalidRatio",.glo "InvalidNumber",.glo "InvalidRow",.free "abs",.free "all",.free "bool",.free "enumerate",.free "int",.free "isinstance",.free "len",.free "list",.free "range",.free "repr",.free "str",.free "super",.free "tuple"]:List He.Fa)
def xs_InvalidRatio:XSpec:=⟨"InvalidRatio",0,["code","given"],defArgs sx_InvalidRatio,defBody sx_InvalidRatio,defScope sx_InvalidRatio⟩
def xs_InvalidNumber:XSpec:=⟨"InvalidNumber",0,["code","given"],defArgs sx_InvalidNumber,defBody sx_InvalidNumber,defScope sx_InvalidNumber⟩
def xs_InvalidRow:XSpec:=⟨"InvalidRow",0,["code","at"],defArgs sx_InvalidRow,defBody sx_InvalidRow,defScope sx_InvalidRow⟩
def lyL:LZ:={ cs:=[("MOST_UNKNOWNS",.int 60)],bs:=[("gcd","math.gcd")],xs:=[fun K=>datB K (.tup []) (.ref (He.dflAt ("Problem",some "__init__") 0 K)),fun K=>cvB K "Answer" "KIND" (.str "open"),fun K=>cvB K "Barred" "KIND" (.str "barred"),fun K=>cvB K "Endless" "KIND" (.str "endless"),fun K=>meB K (He.ga K "Barred") "__bool__" (He.ma K (He.ga K "Answer") "__bool__"),fun K=>meB K (He.ga K "Barred") "__repr__" (He.ma K (He.ga K "Answer") "__repr__"),fun K=>meB K (He.ga K "Barred") "told" (He.ma K (He.ga K "Answer") "told"),fun K=>meB K (He.ga K "Endless") "__bool__" (He.ma K (He.ga K "Solved") "__bool__"),fun K=>meB K (He.ga K "Endless") "__repr__" (He.ma K (He.ga K "Answer") "__repr__"),fun K=>meB K (He.ga K "Endless") "numbers" (He.ma K (He.ga K "Solved") "numbers"),fun K=>meB K (He.ga K "Endless") "told" (He.ma K (He.ga K "Answer") "told"),fun K=>meB K (He.ga K "Solved") "__repr__" (He.ma K (He.ga K "Answer") "__repr__"),fun K=>meB K (He.ga K "Solved") "told" (He.ma K (He.ga K "Answer") "told"),fun K=>meB K (He.ga K "Top") "__bool__" (He.ma K (He.ga K "Solved") "__bool__"),fun K=>meB K (He.ga K "Top") "__repr__" (He.ma K (He.ga K "Answer") "__repr__"),fun K=>meB K (He.ga K "Top") "numbers" (He.ma K (He.ga K "Solved") "numbers"),fun K=>prB K (He.ga K "Barred") "problem" (He.ma K (He.ga K "Answer") "problem"),fun K=>prB K (He.ga K "Endless") "problem" (He.ma K (He.ga K "Answer") "problem"),fun K=>prB K (He.ga K "Solved") "problem" (He.ma K (He.ga K "Answer") "problem"),fun K=>prB K (He.ga K "Top") "problem" (He.ma K (He.ga K "Answer") "problem"),fun K=>icB K (He.ga K "Answer") "KIND" (.str "open"),fun K=>icB K (He.ga K "Barred") "KIND" (.str "barred"),fun K=>icB K (He.ga K "Endless") "KIND" (.str "endless"),fun K=>icB K (He.ga K "Solved") "KIND" (.str "solved"),fun K=>icB K (He.ga K "Top") "KIND" (.str "top"),fun K=>ktB K (He.ga K "Answer") (He.ga K "Answer") true,fun K=>ktB K (He.ga K "Solved") (He.ga K "Answer") true,fun K=>ktB K (He.ga K "Barred") (He.ga K "Answer") true,fun K=>ktB K (He.ga K "Top") (He.ga K "Answer") true,fun K=>ktB K (He.ga K "Endless") (He.ga K "Answer") true,fun K=>ktB K (He.ga K "Answer") (He.ga K "Solved") false,fun K=>ktB K (He.ga K "Solved") (He.ga K "Solved") true,fun K=>ktB K (He.ga K "Barred") (He.ga K "Solved") false,fun K=>ktB K (He.ga K "Top") (He.ga K "Solved") true,fun K=>ktB K (He.ga K "Endless") (He.ga K "Solved") true,fun K=>ktB K (He.ga K "Answer") (He.ga K "Top") false,fun K=>ktB K (He.ga K "Solved") (He.ga K "Top") false,fun K=>ktB K (He.ga K "Barred") (He.ga K "Top") false,fun K=>ktB K (He.ga K "Top") (He.ga K "Top") true,fun K=>ktB K (He.ga K "Endless") (He.ga K "Top") false,fun K=>supB K (He.ga K "Barred") (He.ga K "Barred") "__init__" (He.ma K (He.ga K "Answer") "__init__"),fun K=>supB K (He.ga K "Endless") (He.ga K "Endless") "__init__" (He.ma K (He.ga K "Solved") "__init__"),fun K=>supB K (He.ga K "Endless") (He.ga K "Solved") "__init__" (He.ma K (He.ga K "Answer") "__init__"),fun K=>supB K (He.ga K "Solved") (He.ga K "Solved") "__init__" (He.ma K (He.ga K "Answer") "__init__"),fun K=>supB K (He.ga K "Top") (He.ga K "Solved") "__init__" (He.ma K (He.ga K "Answer") "__init__"),fun K=>supB K (He.ga K "Top") (He.ga K "Top") "__init__" (He.ma K (He.ga K "Solved") "__init__"),fun K=>shB K (PySem.Challenge.rw_missingmiles_k12_answers_told.prog.main.file) df16 "Solved",fun K=>shB K (PySem.Challenge.rw_missingmiles_k12_answers_told.prog.main.file) df19 "Barred",fun K=>shB K (PySem.Challenge.rw_missingmiles_k12_answers_told.prog.main.file) df21 "Top",fun K=>shB K (PySem.Challenge.rw_missingmiles_k12_answers_told.prog.main.file) df26 "Endless"],file:=PySem.Challenge.rw_missingmiles_k12_answers_told.prog.main.file,ask:=false,ex:=[xs_InvalidRatio,xs_InvalidNumber,xs_InvalidRow],ci:=["Answer","Barred","Endless","Problem","Solved","Top"],pr:=[ps13] }
def newA (vis:Nat):List Addr→List Addr × Nat
  | []=>([],vis)
  | a::r=>match Nat.beq (Nat.land (Nat.shiftRight vis a) 1) 1 with
    | true=>newA vis r
    | false=>(a::(newA (Nat.lor vis (Nat.shiftLeft 1 a)) r).1,(newA (Nat.lor vis (Nat.shiftLeft 1 a)) r).2)
def lvA (g:Addr→Option Obj):Nat→List Addr→Nat→List Addr
  | 0,_,_=>[]
  | n + 1,fr,vis=>match newA vis (fr.flatMap fun a=>match g a with
      | some o=>He.refsD o
      | none=>[]) with
    | (nx,vis2)=>nx++lvA g n nx vis2
def asA (g:Addr→Option Obj) (n:Nat):List Addr:=(fun as=>as++cStatics::as.flatMap fun a=>match g a with
  | some ⟨_,_,.func fd,_⟩=>fd.closure.map (·.2)++He.refV fd.code
  | some ⟨.type c,_,.seq its _,_⟩=>if c == "tuple" then its.toList.flatMap He.refV else []
  | _=>[]) (mainGlobals::lvA g n [mainGlobals] (Nat.shiftLeft 1 mainGlobals))
def obsXA (n:Nat) (l:LX) (fa:List He.Fa) (fn:List He.DefD) (g:Addr→Option Obj):AlX:=(l.ok g (He.frT g (asA g n)),He.obsD fa fn (He.frT g (asA g n)))
theorem saysA_of {n:Nat} {l:LX} {fa:List He.Fa} {fn:List He.DefD} {h:Heap} (e:obsXA n l fa fn h.get?=valX fn):SaysX l fa fn h (He.frT h.get? (asA h.get? n)):=by
  have e1:l.ok h.get? (He.frT h.get? (asA h.get? n))=true:=congrArg (fun z:AlX=>z.1) e
  obtain ⟨h1,h2⟩:=He.ba e1
  have key:∀ q∈lamFns (He.frT h.get? (asA h.get? n)),PySem.W.codeHdIn (He.frT h.get? (asA h.get? n)) q.1 q.2.1=true∧(∃ o,h.get? q.2.1=some o∧He.emptyTab o=true)∧∀ q'∈lamFns (He.frT h.get? (asA h.get? n)),q.2.1=q'.2.1→q.2.2=q'.2.2:=fun q hq=>by
    obtain ⟨z1,z2⟩:=He.ba (List.all_eq_true.mp h2 q hq)
    obtain ⟨z3,z4⟩:=He.ba z2
    refine ⟨z1,?_,fun q' hq' e=>?_⟩
    · split at z3
      · rename_i o y
        exact ⟨o,y,z3⟩
      · cases z3
    · have y:=List.all_eq_true.mp z4 q' hq'
      rw [Bool.or_eq_true,bne_iff_ne,beq_iff_eq] at y
      exact y.resolve_left fun z=>z e
  refine ⟨h1,congrArg (fun z:AlX=>z.2) e,fun p hp=>(key p hp).1,fun p hp=>?_,fun p hp=>?_,fun q hq q' hq'=>(key q hq).2.2 q' hq'⟩
  · obtain ⟨_,⟨o,q,z⟩,_⟩:=key p hp
    exact He.frT_none q z
  · obtain ⟨_,⟨o,q,z⟩,_⟩:=key p hp
    rw [q,He.emptyTab_eq z]
def obsYA (n:Nat) (l:LY) (fa:List He.Fa) (fn:List He.DefD) (g:Addr→Option Obj):AlY:=(l.ok g (He.frT g (asA g n)),He.obsD fa fn (He.frT g (asA g n)),l.ex.map fun e=>exObs (He.frT g (asA g n)) (He.ga (He.frT g (asA g n)) e.name))
theorem saysYA_of {n:Nat} {l:LY} {fa:List He.Fa} {fn:List He.DefD} {h:Heap} (e:obsYA n l fa fn h.get?=valY l fn):SaysY l fa fn h (He.frT h.get? (asA h.get? n)):=by
  have e1:l.ok h.get? (He.frT h.get? (asA h.get? n))=true:=congrArg (fun z:AlY=>z.1) e
  have e2:He.obsD fa fn (He.frT h.get? (asA h.get? n))=He.valD fn:=congrArg (fun z:AlY=>z.2.1) e
  have e3:(l.ex.map fun e=>exObs (He.frT h.get? (asA h.get? n)) (He.ga (He.frT h.get? (asA h.get? n)) e.name))=l.ex.map fun e=>some e.text:=congrArg (fun z:AlY=>z.2.2) e
  obtain ⟨a1,a2⟩:=He.ba e1
  have b:obsXA n l.toLX fa fn h.get?=valX fn:=by
    show (l.toLX.ok h.get? (He.frT h.get? (asA h.get? n)),He.obsD fa fn (He.frT h.get? (asA h.get? n)))=(true,He.valD fn)
    rw [a1,e2]
  exact { saysA_of b with x:=fun e he=>xB_ok (List.all_eq_true.mp a2 e he) (List.map_inj_left.mp e3 e he) }
def obsZA (n:Nat) (l:LZ) (fa:List He.Fa) (fn:List He.DefD) (g:Addr→Option Obj):AlZ:=(l.ok (He.frT g (asA g n)),obsYA n l.toLY fa fn g,l.pr.map fun q=>fnWa (He.frT g (asA g n)) (gAt (He.frT g (asA g n)) (He.ga (He.frT g (asA g n)) q.cls) q.prop))
theorem saysZA_of {n:Nat} {l:LZ} {fa:List He.Fa} {fn:List He.DefD} {h:Heap} (e:obsZA n l fa fn h.get?=valZ l fn):SaysZ l fa fn h (He.frT h.get? (asA h.get? n)):=by
  have e1:l.ok (He.frT h.get? (asA h.get? n))=true:=congrArg (fun z:AlZ=>z.1) e
  have e2:obsYA n l.toLY fa fn h.get?=valY l.toLY fn:=congrArg (fun z:AlZ=>z.2.1) e
  have e3:(l.pr.map fun q=>fnWa (He.frT h.get? (asA h.get? n)) (gAt (He.frT h.get? (asA h.get? n)) (He.ga (He.frT h.get? (asA h.get? n)) q.cls) q.prop))=l.pr.map fun q=>q.df.val:=congrArg (fun z:AlZ=>z.2.2) e
  obtain ⟨a1,a2⟩:=He.ba e1
  exact { saysYA_of e2 with ci:=fun C hC=>cB_ok (List.all_eq_true.mp a1 C hC),pr:=fun q hq=>pB_ok (List.all_eq_true.mp a2 q hq) (List.map_inj_left.mp e3 q hq) }
structure KSpec where
  name:Str
  keys:List Str
  chk:PySem.W.Frag→Addr→Bool
abbrev AlK:Type:=Bool × AlY × (List He.FnW × List (Bool × List Int))
def obsSA (n:Nat) (l:LZ) (kd:List KSpec) (ss:List He.DefD) (fa:List He.Fa) (fn:List He.DefD) (g:Addr→Option Obj):AlK:=(l.ok (He.frT g (asA g n)),obsYA n l.toLY fa fn g,((l.pr.map fun q=>fnWa (He.frT g (asA g n)) (gAt (He.frT g (asA g n)) (He.ga (He.frT g (asA g n)) q.cls) q.prop))++ss.map fun d=>fnWs (He.frT g (asA g n)) d.at_,kd.map fun q=>(q.chk (He.frT g (asA g n)) (He.ga (He.frT g (asA g n)) q.name),kdH (He.frT g (asA g n)) (He.ga (He.frT g (asA g n)) q.name))))
def valSA (l:LZ) (kd:List KSpec) (ss:List He.DefD) (fn:List He.DefD) (w:World):AlK:=(true,valY l.toLY fn,((l.pr.map fun q=>q.df.val)++ss.map He.DefD.val,kd.map fun q=>(true,q.keys.map fun kv=>PyData.keyHash w.params kv)))
theorem saysSA_of {n:Nat} {l:LZ} {kd:List KSpec} {ss:List He.DefD} {fa:List He.Fa} {fn:List He.DefD} {h:Heap} {w:World} (e:obsSA n l kd ss fa fn h.get?=valSA l kd ss fn w):SaysZ l fa fn h (He.frT h.get? (asA h.get? n))∧(∀ q∈kd,q.chk (He.frT h.get? (asA h.get? n)) (He.ga (He.frT h.get? (asA h.get? n)) q.name)=true∧kdH (He.frT h.get? (asA h.get? n)) (He.ga (He.frT h.get? (asA h.get? n)) q.name)=q.keys.map fun kv=>PyData.keyHash w.params kv)∧∀ d∈ss,fnWs (He.frT h.get? (asA h.get? n)) d.at_=d.val:=by
  have e0:((l.pr.map fun q=>fnWa (He.frT h.get? (asA h.get? n)) (gAt (He.frT h.get? (asA h.get? n)) (He.ga (He.frT h.get? (asA h.get? n)) q.cls) q.prop))++ss.map fun d=>fnWs (He.frT h.get? (asA h.get? n)) d.at_)=(l.pr.map fun q=>q.df.val)++ss.map He.DefD.val:=congrArg (fun z:AlK=>z.2.2.1) e
  obtain ⟨ep,es⟩:=List.append_inj e0 (by rw [List.length_map,List.length_map])
  have e1:obsZA n l fa fn h.get?=valZ l fn:=by
    have a1:l.ok (He.frT h.get? (asA h.get? n))=true:=congrArg (fun z:AlK=>z.1) e
    have a2:obsYA n l.toLY fa fn h.get?=valY l.toLY fn:=congrArg (fun z:AlK=>z.2.1) e
    show (l.ok _,obsYA n l.toLY fa fn h.get?,_)=(true,valY l.toLY fn,_)
    rw [a1,a2,ep]
  have e2:(kd.map fun q=>(q.chk (He.frT h.get? (asA h.get? n)) (He.ga (He.frT h.get? (asA h.get? n)) q.name),kdH (He.frT h.get? (asA h.get? n)) (He.ga (He.frT h.get? (asA h.get? n)) q.name)))=kd.map fun q=>(true,q.keys.map fun kv=>PyData.keyHash w.params kv):=congrArg (fun z:AlK=>z.2.2.2) e
  refine ⟨saysZA_of e1,fun q hq=>?_,fun d hd=>List.map_inj_left.mp es d hd⟩
  have e3:=List.map_inj_left.mp e2 q hq
  exact ⟨congrArg Prod.fst e3,congrArg Prod.snd e3⟩
def hookSA (n:Nat) (l:LZ) (kd:List KSpec) (ss:List He.DefD) (fa:List He.Fa) (fn:List He.DefD):PySem.W.Hook where
  α:=AlK
  obs:=fun s=>obsSA n l kd ss fa fn s.heap.get?
  val:=fun w=>valSA l kd ss fn w
  says:=fun w h=>∃ K:PySem.W.Frag,K.In h∧SaysZ l fa fn h K∧(∀ q∈kd,q.chk K (He.ga K q.name)=true∧kdH K (He.ga K q.name)=q.keys.map fun kv=>PyData.keyHash w.params kv)∧∀ d∈ss,fnWs K d.at_=d.val
  of:=fun _ _ e=>⟨_,He.frT_in,saysSA_of e⟩
  keeps:=fun _ _ _ ⟨K,hK,c,ck⟩ k=>⟨K,PySem.W.Frag.In.keeps hK k,⟨⟨⟨c.c,c.s,c.tc,c.tn,fun p hp=>k _ _ (c.te p hp),c.tu⟩,c.x⟩,c.ci,c.pr⟩,ck⟩
theorem obsSA_eq {n:Nat} {l:LZ} {kd:List KSpec} {ss:List He.DefD} {fa:List He.Fa} {fn:List He.DefD} {g:Addr→Option Obj} {s:Shared} (h:∀ a,g a=s.heap.get? a):obsSA n l kd ss fa fn g=(hookSA n l kd ss fa fn).obs s:=by
  have e:g=s.heap.get?:=funext h
  rw [e]<;>rfl
def ssL:List He.DefD:=[df16,df19,df21,df26]
def kdL:List KSpec:=[]
abbrev RR:PySem.W.OpenRow:=PySem.W.OpenLaw.row PySem.Challenge.rw_missingmiles_k12_answers_told
abbrev hk:PySem.W.Hook:=hookSA 4 lyL kdL ssL faL fnL
def ob (s:PySem.W.SharedT):AlK:=obsSA 4 lyL kdL ssL faL fnL (HandSHeadRun.getT s)
theorem ob_eq (s:PySem.W.SharedT):ob s=hk.obs s.abs:=obsSA_eq (HandSHeadRun.getT_eq s)
def names:List PySem.Str:=(["_wall","MilesError","InvalidRatio","InvalidNumber","InvalidRow","ZERO","ONE","is_whole","is_number","is_ratio","is_valued","lowest","ratio_of","plus","minus","times","inverse","below","dot","ratio_text","Tableau","exchanged","least_weights","MOST_UNKNOWNS","is_row","Problem","are_ratios","own_copy","as_list","Answer"]:List PySem.Str)++(["Solved","Barred","Top","Endless","_law_source","_law_draw","_law_of","_law_same","_law_low","_law_wide","_law_pair","_law_text"]:List PySem.Str)
abbrev qv:Program:=PySem.W.view RR.prog [0,48]
theorem run_joinG {α γ:Type} {β0:Type} {β1:Type} {β2:Type} {β3:Type} {o:Option α} {f0:α→β0} {b0:β0} {f1:α→β1} {b1:β1} {f2:α→β2} {b2:β2} {f3:α→β3} {b3:β3} {f:α→γ} {b:γ} (h0:o.map f0=some b0) (h1:o.map f1=some b1) (h2:o.map f2=some b2) (h3:o.map f3=some b3) (h:∀ x,f0 x=b0→f1 x=b1→f2 x=b2→f3 x=b3→f x=b):o.map f=some b:=by
  cases o with
  | none=>cases h0
  | some x=>
    show some (f x)=some b
    rw [h x (Option.some.inj h0) (Option.some.inj h1) (Option.some.inj h2) (Option.some.inj h3)]
theorem run_tup {T1:Type} {T6:Type} {T7:Type} {T8:Type} {T9:Type} {a0 b0:Bool} (h0:a0=b0) {a1 b1:T1} (h1:a1=b1) {a2 b2:Bool} (h2:a2=b2) {a3 b3:Bool} (h3:a3=b3) {a4 b4:Bool} (h4:a4=b4) {a5 b5:Bool} (h5:a5=b5) {a6 b6:T6} (h6:a6=b6) {a7 b7:T7} (h7:a7=b7) {a8 b8:T8} (h8:a8=b8) {a9 b9:T9} (h9:a9=b9):(a0,a1,(a2,(a3,(a4 && a5,a6),a7),(a8,a9)))=(b0,b1,(b2,(b3,(b4 && b5,b6),b7),(b8,b9))):=by
  subst h0 h1 h2 h3 h4 h5 h6 h7 h8 h9
  rfl
theorem runG0 (w:World):(HandSHeadRun.wholeF (fun p=>HandSHeadRun.stepQ (HandSHeadRun.denQ HandSHeadRun.tabQ) p w) HandSHeadRun.fenceQ 9000 RR.prog).map (fun x=>(HandSHeadRun.looksF RR.prog x.1.heap x.2.abs,lyL.ok (He.frT (HandSHeadRun.getT x.2) (asA (HandSHeadRun.getT x.2) 4)),lyL.toLY.ex.map fun e=>exObs (He.frT (HandSHeadRun.getT x.2) (asA (HandSHeadRun.getT x.2) 4)) (He.ga (He.frT (HandSHeadRun.getT x.2) (asA (HandSHeadRun.getT x.2) 4)) e.name),(lyL.pr.map fun q=>fnWa (He.frT (HandSHeadRun.getT x.2) (asA (HandSHeadRun.getT x.2) 4)) (gAt (He.frT (HandSHeadRun.getT x.2) (asA (HandSHeadRun.getT x.2) 4)) (He.ga (He.frT (HandSHeadRun.getT x.2) (asA (HandSHeadRun.getT x.2) 4)) q.cls) q.prop))++ssL.map fun d=>fnWs (He.frT (HandSHeadRun.getT x.2) (asA (HandSHeadRun.getT x.2) 4)) d.at_,kdL.map fun q=>(q.chk (He.frT (HandSHeadRun.getT x.2) (asA (HandSHeadRun.getT x.2) 4)) (He.ga (He.frT (HandSHeadRun.getT x.2) (asA (HandSHeadRun.getT x.2) 4)) q.name),kdH (He.frT (HandSHeadRun.getT x.2) (asA (HandSHeadRun.getT x.2) 4)) (He.ga (He.frT (HandSHeadRun.getT x.2) (asA (HandSHeadRun.getT x.2) 4)) q.name))))=some ((true,true,lyL.toLY.ex.map fun e=>some e.text,(lyL.pr.map fun q=>q.df.val)++ssL.map He.DefD.val,kdL.map fun q=>(true,q.keys.map fun kv=>PyData.keyHash w.params kv))):=by
  kernel_rfl
theorem runG1 (w:World):(HandSHeadRun.wholeF (fun p=>HandSHeadRun.stepQ (HandSHeadRun.denQ HandSHeadRun.tabQ) p w) HandSHeadRun.fenceQ 9000 RR.prog).map (fun x=>(HandSHeadRun.seenQ qv names (importedModules RR.prog.main.body) (fun s=>PySem.W.xlAt qv [] s && PySem.W.recOk RR.toRowW.records s) x.2.abs,faL.all fun f=>f.ok (He.frT (HandSHeadRun.getT x.2) (asA (HandSHeadRun.getT x.2) 4))))=some ((PySem.W.openGood qv names,true)):=by
  kernel_rfl
theorem runG2 (w:World):(HandSHeadRun.wholeF (fun p=>HandSHeadRun.stepQ (HandSHeadRun.denQ HandSHeadRun.tabQ) p w) HandSHeadRun.fenceQ 9000 RR.prog).map (fun x=>lyL.toLY.ok (HandSHeadRun.getT x.2) (He.frT (HandSHeadRun.getT x.2) (asA (HandSHeadRun.getT x.2) 4)))=some (true):=by
  kernel_rfl
theorem runG3 (w:World):(HandSHeadRun.wholeF (fun p=>HandSHeadRun.stepQ (HandSHeadRun.denQ HandSHeadRun.tabQ) p w) HandSHeadRun.fenceQ 9000 RR.prog).map (fun x=>(fnL.all fun d=>d.ok (He.frT (HandSHeadRun.getT x.2) (asA (HandSHeadRun.getT x.2) 4)),fnL.map fun d=>He.fnW (He.frT (HandSHeadRun.getT x.2) (asA (HandSHeadRun.getT x.2) 4)) d.at_))=some ((true,fnL.map He.DefD.val)):=by
  kernel_rfl
theorem runA (w:World):(HandSHeadRun.wholeF (fun p=>HandSHeadRun.stepQ (HandSHeadRun.denQ HandSHeadRun.tabQ) p w) HandSHeadRun.fenceQ 9000 RR.prog).map (fun x=>(HandSHeadRun.looksF RR.prog x.1.heap x.2.abs,HandSHeadRun.seenQ qv names (importedModules RR.prog.main.body) (fun s=>PySem.W.xlAt qv [] s && PySem.W.recOk RR.toRowW.records s) x.2.abs,ob x.2))=some (true,PySem.W.openGood qv names,hk.val w):=
  run_joinG (runG0 w) (runG1 w) (runG2 w) (runG3 w) fun x e0 e1 e2 e3=>run_tup (congrArg (fun z=>z.1) e0) (congrArg (fun z=>z.1) e1) (congrArg (fun z=>z.2.1) e0) e2 (congrArg (fun z=>z.2) e1) (congrArg (fun z=>z.1) e3) (congrArg (fun z=>z.2) e3) (congrArg (fun z=>z.2.2.1) e0) (congrArg (fun z=>z.2.2.2.1) e0) (congrArg (fun z=>z.2.2.2.2) e0)
theorem run (w:World):HandSHeadRun.RunEqI RR qv hk ob 9000 names w:=runA w
end
end K12
set_option maxHeartbeats 2000000
namespace DL
open PySem PySem.Spec PyProof.Rows L2
section
variable {g:TDG} {tt:TDT} {te:TD} {vs:List Nat} {Q:DV→DSt→Prop}
theorem lcL_some (R:D→Prop) (S:DSt) {ds0:List D} (hl:ds0.length≤szl)
    (step:∀ d∈ds0,∀ (M:D→DSt→Prop) (A:DSt→Prop),(∀ y,R y→M y S)→A S→g d S fun s1=>tt s1 (fun b s2=>Br b (te s2 (fun x s3=>match pubV x with
      | .d y=>M y (wipeD s3 vs)
      | _=>False) fun _ _ _=>False) (A (wipeD s2 vs))) fun _ _ _=>False) (q:∀ xs:List D,xs.length≤ds0.length→(∀ x∈xs,R x)→Q (.own (.lst xs)) S):dLcL g tt te vs Q ds0 [] S:=by
  have go:∀ (ds acc:List D),acc.length + ds.length≤ds0.length→(∀ d∈ds,d∈ds0)→(∀ x∈acc,R x)→dLcL g tt te vs Q ds acc S:=by
    intro ds
    induction ds with
    | nil=>intro acc h1 _ h3;rw [lcL_nil];exact q acc (by simpa using h1) h3
    | cons d r ih=>
      intro acc h1 h2 h3
      rw [List.length_cons] at h1
      rw [lcL_cons]
      refine step d (h2 d (List.mem_cons_self ..)) (fun y s=>acc.length < szl∧dLcL g tt te vs Q r (acc++[y]) s) (fun s=>dLcL g tt te vs Q r acc s) (fun y hy=>⟨by omega,?_⟩) ?_
      · refine ih (acc++[y]) (by rw [List.length_append,List.length_singleton];omega) (fun d' h=>h2 d' (List.mem_cons_of_mem _ h)) (fun x hx=>?_)
        rcases List.mem_append.mp hx with h | h
        · exact h3 x h
        · rw [List.mem_singleton.mp h];exact hy
      · exact ih acc (by omega) (fun d' h=>h2 d' (List.mem_cons_of_mem _ h)) h3
  exact go ds0 [] (by simp) (fun _ h=>h) (fun _ h=>(nomatch h))
end
def Ln (L B:Nat) (q:Rat):Prop:=∃ a:Nat,q=mkRat (a:Int) L∧a≤B
theorem Ln.mono {L B C:Nat} {q:Rat} (h:Ln L B q) (le:B≤C):Ln L C q:=let ⟨a,e,l⟩:=h;⟨a,e,Nat.le_trans l le⟩
section
variable {g:TDG} {tt:TDT} {te:TD} {vs:List Nat} {Q:DV→DSt→Prop}
end
theorem seq_cutN (C:Prop) {t u:TDS} {E:EndsD} {sl:DSt} (h:∀ N:DSt→Prop,(C→N sl)→t { E with nx:=N } sl) (q:C→u E sl):dSeq t u E sl:=
  seq_cut (fun s=>C∧s=sl) (fun N hN=>h N fun c=>hN _ ⟨c,rfl⟩) (fun s ⟨c,e⟩=>e ▸ q c)
def setK (i:Nat) (u:TDS) (E:EndsD):DV→DSt→Prop
  | .see _,_=>False
  | y,s1=>u E (s1.set i (some y))
theorem set_st {te:TD} {i:Nat} {u:TDS} {E:EndsD} {sl:DSt} (h:te sl (setK i u E) E.xc):dSeq (dSet te i) u E sl:=by
  have e:(fun (x:DV) (s1:DSt)=>match x with
    | .see _=>False
    | y=>u E (s1.set i (some y)))=setK i u E:=funext fun x=>funext fun s=>by cases x<;>rfl
  show te sl (fun x s1=>match x with
    | .see _=>False
    | y=>u E (s1.set i (some y))) E.xc
  rw [e];exact h
theorem set_go {i:Nat} {u:TDS} {E:EndsD} {x:D} {s s':DSt} (e:s.set i (some (.d x))=s') (h:u E s'):setK i u E (.d x) s:=by subst e;exact h
theorem set_goO {i:Nat} {u:TDS} {E:EndsD} {x:OO} {s s':DSt} (e:s.set i (some (.own x))=s') (h:u E s'):setK i u E (.own x) s:=by subst e;exact h
theorem g2 {i j:Nat} {x y:D} {s s':DSt} {Q:DSt→Prop} (e:((s.set i (some (.d x))).set j (some (.d y)))=s') (h:Q s'):gConsD (gD i) (gConsD (gD j) gNilD) [x,y] s Q:=by subst e;exact h
structure Vl where
  q:Rat
  bare:Bool
def numS (i:Int):Str:=(toString i:String)
def ratS (q:Rat):Str:=if (q.den:Int)=1 then numS q.num else numS q.num++("/":Str)++numS (q.den:Int)
inductive Itm where
  | tx (z:Str) | vl (x:Vl)
inductive Lf where
  | road (ride:Bool) (ly a b:Str) (v:Vl)
  | place (x a:Str) (v w:Vl)
  | same (a b:Str)
  | forget (a:Str)
  | cap (ly:Str) (v:Vl)
  | scale (ly:Str) (v:Vl)
  | turn
  | round (ly:Str)
def Lf.word:Lf→Str
  | .road r _ _ _ _=>if r then "ride" else "road"
  | .place ..=>"place"
  | .same ..=>"same"
  | .forget ..=>"forget"
  | .cap ..=>"cap"
  | .scale ..=>"scale"
  | .turn=>"turn"
  | .round ..=>"round"
def Lf.rest:Lf→List Itm
  | .road _ ly a b v=>[.tx ly,.tx a,.tx b,.vl v]
  | .place x a v w=>[.tx x,.tx a,.vl v,.vl w]
  | .same a b=>[.tx a,.tx b]
  | .forget a=>[.tx a]
  | .cap ly v=>[.tx ly,.vl v]
  | .scale ly v=>[.tx ly,.vl v]
  | .turn=>[]
  | .round ly=>[.tx ly]
section
variable {g:TDG} {tt:TDT} {te:TD} {vs:List Nat} {Q:DV→DSt→Prop}
end
def Lf.places:Lf→Prop
  | .place ..=>True
  | _=>False
theorem lg {n:Nat} (h:n < 10 ^ 100):n.log2 < 1920:=by
  by_cases z:n=0
  · subst z;decide
  · rw [Nat.log2_lt z]
    refine Nat.lt_of_lt_of_le h ?_
    refine Nat.le_trans (Nat.pow_le_pow_left (show 10≤2 ^ 4 by decide) 100) ?_
    rw [← Nat.pow_mul]
    exact Nat.pow_le_pow_right (by decide) (by decide)
theorem num_len {i:Int} (h:i.natAbs < 10 ^ 100):(numS i).length≤101:=int_len (b:=100) h
theorem empty_app (x:Str):Str.empty++x=x:=by
  cases x with
  | mk a=>
    show (⟨#[]++a⟩:Str)=⟨a⟩
    rw [Array.empty_append]
end DL
namespace DL
end DL
namespace DL
open PySem PySem.Spec PyProof.Rows L2
def dM1 (rd:Str→Str→(DV→Prop)→Prop) (to te:TD):TD:=fun sl Q E=>to sl (fun x s1=>match x with
  | .d (.str a)=>te s1 (fun y s2=>match y with
    | .d (.str b)=>rd a b fun z=>Q z s2
    | _=>False) E
  | _=>False) E
def M1Sem (K:PySem.W.Frag) (r:V→List V→Hp→VK→Prop) (rd:Str→Str→(DV→Prop)→Prop):Prop:=∀ (G:Hp) (so:So) (H:Hp) (a b:Str) (Q:DV→Prop) (R:VK),HRep K G so H→rd a b Q→
  (∀ v H' G' dv,PostV K G so H v H' G' dv→Q dv→R v H')→r (.str a) [.str b] H R
section
variable {X:Cx} {W:WX} {o e:Expr} {to te:TD} {apos pos:Pos}
theorem de_m1 {id:String} {name:Str} {r:V→List V→Hp→VK→Prop} {rd:Str→Str→(DV→Prop)→Prop} (slot:Slot "str" name id) (ty:typeOf (.builtin id)=pure (.type "method_descriptor")) (rule:MtR X id r) (hr:M1Sem X.K r rd) (ho:DE X W o to) (he:DE X W e te)
    (hs:starEach [e] X.env=[(false,eval e X.env)]:=by rfl) (hbase:attributeBase o name X.env (eval o X.env)=eval o X.env:=by rfl) (hline:(apos.endLine == pos.line)=true:=by rfl) :
    DE X W (.Call (.Attribute o name apos) [e] [] pos) (dM1 rd to te):=by
  refine pe_imp (pe_m1 slot ty rule ho he hs hbase hline) fun σ H R ⟨G,so,sl,Q,E,rep,q,hq,hx⟩=>?_
  refine ⟨G,so,sl,_,E,rep,q,fun x H1 G1 dx s1 p1 h1=>?_,hx⟩
  split at h1
  · rename_i a
    have w:=p1.val
    cases w
    refine ⟨⟨a,rfl⟩,G1,so,s1,_,E,p1.rep,h1,fun y H2 G2 dy s2 p2 h2=>?_,hx.step p1.toPost⟩
    split at h2
    · rename_i b
      have w2:=p2.val
      cases w2
      exact hr G2 so H2 a b _ _ p2.rep.h h2 fun v H' G' dv pv z=>hq v H' G' dv s2 ((p1.toPost.trans p2.toPost).thenV pv) z
    · exact h2.elim
  · exact h1.elim
end
section
variable {K:PySem.W.Frag}
@[irreducible] def splitR (a b:Str) (Q:DV→Prop):Prop:=(b.length == 0)=false∧a.length + 2≤szl∧Q (.own (.lst ((Txt.split a b).map .str)))
theorem sem_split:M1Sem K (fun x xs H Q=>∃ a b,x=.str a∧xs=[.str b]∧(b.length == 0)=false∧a.length + 2≤sizeLine∧rNewStrs (Txt.split a b) H Q) splitR:=fun G so H a b Q R h q k=>by
  unfold splitR at q
  exact ⟨a,b,rfl,rfl,q.1,by rw [← szl_eq];exact q.2.1,fun p n=>k _ _ G _ (.list h n (DAll.strs _)) q.2.2⟩
end
theorem l_split {a b:Str} {Q:DV→Prop} (h:(b.length == 0)=false) (hl:a.length + 2≤szl) (q:Q (.own (.lst ((Txt.split a b).map .str)))):splitR a b Q:=by unfold splitR;exact ⟨h,hl,q⟩
abbrev tl (x:Str):List Nat:=TL.tl x
theorem ext_tl {x y:Str} (h:tl x=tl y):x=y:=TL.ext_tl h
def sgL (i:Int):List Nat:=if i < 0 then [45] else []
theorem tl_numS (i:Int):tl (numS i)=sgL i++TL.numL i.natAbs:=by
  unfold sgL
  cases i with
  | ofNat n=>
    rw [if_neg (by show ¬ ((n:Nat):Int) < 0;omega)]
    show TL.tl (Str.ofString (toString ((n:Nat):Int)))=_
    rw [TL.tl_num];rfl
  | negSucc m=>
    rw [if_pos (Int.negSucc_lt_zero m)]
    have e2:(toString (Int.negSucc m):String)="-"++toString ((m + 1:Nat):Int):=rfl
    have e3:numS (Int.negSucc m)=("-":Str)++Str.ofString (toString ((m + 1:Nat):Int)):=by
      refine ext_tl ?_
      show TL.tl (Str.ofString (toString (Int.negSucc m)))=_
      rw [e2,TL.tl_ofString,String.toList_append,List.map_append,show tl (("-":Str)++Str.ofString (toString ((m + 1:Nat):Int)))=TL.tl ("-":Str)++TL.tl (Str.ofString (toString ((m + 1:Nat):Int))) from TL.tl_append _ _,TL.tl_ofString,TL.tl_ofString]
    rw [e3]
    show TL.tl (("-":Str)++_)=_
    rw [TL.tl_append,TL.tl_num];rfl
def denL (q:Rat):List Nat:=if (q.den:Int)=1 then [] else 47::TL.numL q.den
theorem tl_ratS (q:Rat):tl (ratS q)=sgL q.num++TL.numL q.num.natAbs++denL q:=by
  unfold ratS denL
  by_cases e:(q.den:Int)=1
  · rw [if_pos e,if_pos e,List.append_nil];exact tl_numS _
  · rw [if_neg e,if_neg e]
    show TL.tl (numS q.num++("/":Str)++numS (q.den:Int))=_
    rw [TL.tl_append,TL.tl_append,show TL.tl (numS q.num)=_ from tl_numS q.num,show TL.tl (numS (q.den:Int))=_ from tl_numS (q.den:Int)]
    unfold sgL
    rw [if_neg (by omega:¬ (q.den:Int) < 0),List.nil_append,List.append_assoc]
    rfl
theorem ratS_len {q:Rat} {b:Nat} (h1:q.num.natAbs < 10 ^ b) (h2:q.den < 10 ^ b) (hb:0 < b) (hb2:b≤500):(ratS q).length≤2 * b + 3∧okS (ratS q):=by
  have a:(numS q.num).length≤b + 1:=int_len h1 hb hb2
  have c:(numS (q.den:Int)).length≤b + 1:=int_len (i:=(q.den:Int)) (by simpa using h2) hb hb2
  have e:(("/":String):Str).length=1:=by decide
  unfold ratS
  split
  · exact ⟨by omega,ok_of _⟩
  · refine ⟨?_,ok_app (ok_app (ok_of _) (ok_of "/")) (ok_of _)⟩
    rw [str_app_len,str_app_len]
    omega
structure FnV (P:Program) (w:World) (K:PySem.W.Frag) (mg:Str→Option Value) (base:Heap) (k:Nat) (f:Addr) (sp:SpD):Prop where
  run:∀ (A:Around) (outer:List Env) (s:Shared) (H:Hp) (us:List Value) (vs:List V) (Q:VK) (E:XK),Room k A→A.guards=some []→Env0 P w K mg base A outer s H→Vals vs us→upSp K sp vs H Q E→
    codeAny (model P w) A (.call (.ref f) ⟨us,[]⟩) (CR (L2N.CX P w) outer P w H s Q E) s
theorem FnV.mono {P:Program} {w:World} {K:PySem.W.Frag} {mg:Str→Option Value} {base:Heap} {j k:Nat} {f:Addr} {sp:SpD} (F:FnV P w K mg base j f sp) (h:j≤k):FnV P w K mg base k f sp:=
  ⟨fun A outer s H us vs Q E hr=>F.run A outer s H us vs Q E (hr.mono h)⟩
section
variable {X:Cx} {W:WX} {k:Nat} {f C:Addr} {sp:SpD} {x m:Str} {p pos apos:Pos} {e o:Expr} {es:List Expr} {ta:TDA} {to:TD} {pl:Sem Bool}
end
section
variable {n:Nat} {sp:SpD} {ta:TDA}
end
end DL
namespace DL
open PySem PySem.Spec PyProof.Rows L2 PySem.W
end DL
namespace DL
open PySem PySem.Spec PyProof.Rows L2
section
variable {X:Cx} {W:WX} {o e:Expr} {to te:TD} {apos pos:Pos}
end
end DL
set_option maxHeartbeats 4000000
namespace DL
open PySem PySem.Spec PyProof.Rows L2
section
variable {X:Cx} {W:WX} {elt tg iter:Expr} {ifs:List Expr} {scope:Scope} {own:List (Str × Nat)} {pos spos:Pos} {ti:TDI} {g:TDG} {tt:TDT} {te:TD} {ix:List Nat}
end
section
variable {K:PySem.W.Frag} {G G':Hp} {so:So} {σ:L2.St} {H H':Hp} {sl sl':DSt} {v:V} {dv:DV}
end
section
variable {X:Cx} {W:WX} {e a b c:Expr} {ta tb tc te:TD} {pos apos:Pos}
end
end DL
namespace DL
open PySem PySem.Spec PyProof.Rows L2 PySem.W PySem.Calls
section
variable {prog:Program} {w:World} {A:Around} {E:Value→Shared→Prop} {s:Shared} {a kS:Addr} {b:Bool} {vs:List Value} {keys:Array Value} {e e1:Nat} {P:PySem.Fin→Shared→Prop}
end
theorem PostH.trans {K:PySem.W.Frag} {G G1 G2:Hp} {so:So} {H H1 H2:Hp} (a:PostH K G so H H1 G1) (b:PostH K G1 so H1 H2 G2):PostH K G so H H2 G2:=
  ⟨a.ex.trans b.ex,b.hrep,fun c o e s=>b.keep c o (a.keep c o e s) s,fun c n g s=>b.frm c (by rw [keep_nq a.keep n s.q];exact n) (a.frm c n g s) s⟩
theorem PostH.refl {K:PySem.W.Frag} {G:Hp} {so:So} {H:Hp} (h:HRep K G so H):PostH K G so H H G:=⟨Ex.refl G,h,fun _ _ e _=>e,fun _ _ g _=>g⟩
section
variable {X:Cx} {σ:L2.St} {A:Around} {pins:List (Addr × Obj)} {G H:Hp} {so:So} {s:Shared} {f:Value} {Gc:Hp→Prop} {kf:D→(PyData→Prop)→Prop} {a kS:Addr} {b:Bool} {us:List Value} {vs:List V} {ds:List D} {kz:List PyData} {E:Value→Shared→Prop} {P:PySem.Fin→Shared→Prop} {e1:Nat}
end
section
variable {X:Cx} {W:WX} {k:Nat} {f:Addr} {fd:FuncData} {ps:List Str} {sp:SpD}
end
section
variable {X:Cx} {W:WX} {e fe:Expr} {te:TD} {p kpos pos:Pos} {q:Addr} {kf:D→(PyData→Prop)→Prop}
end
def LamHO (q:Str) (params:Arguments) (body:Expr) (scope:Scope) (f c':Addr):HO:=.ext fun h=>∃ (doc pm ctv:Value),h.get? f=some (kdv_obj "<lambda>" q params (.expr body) scope [] .none doc pm c' ctv)
def LamG (q:Str) (params:Arguments) (body:Expr) (scope:Scope) (f:Addr) (G:Hp):Prop:=∃ c',G f=some (LamHO q params body scope f c')∧G c'=some (LamX.CodeO c' q)
theorem LamG.mono {q:Str} {params:Arguments} {body:Expr} {scope:Scope} {f:Addr} {G G1:Hp} (e:Ex G G1) (h:LamG q params body scope f G):LamG q params body scope f G1:=by
  obtain ⟨c',h1,h2⟩:=h
  exact ⟨c',e _ _ h1,e _ _ h2⟩
section
variable {X:Cx} {k:Nat} {q x:Str} {params:Arguments} {body:Expr} {scope:Scope} {te:TD}
end
section
variable {X:Cx} {pins:List (Addr × Obj)} {σ:L2.St} {H:Hp} {s:Shared} {c P:Addr} {ps:Array Value} {params:Arguments} {body:Expr} {scope:Scope} {pos:Pos} {Q E:Value→Shared→Prop}
end
section
variable {K:PySem.W.Frag} {G G1:Hp} {so:So} {σ:L2.St} {H H1 H2:Hp} {sl s1:DSt}
end
section
variable {X:Cx} {W:WX} {e:Expr} {te tl:TD} {p kpos pos lpos:Pos} {c:Addr} {k:Nat} {x:Str} {params:Arguments} {body:Expr} {scope:Scope}
end
end DL
namespace DL
open PySem PySem.Spec PyProof.Rows L2
section
variable {X:Cx} {W:WX} {a b:Expr} {ta tb:TD} {pos:Pos}
end
section
variable {β γ:Type}
end
section
variable {M:Model} {prog:Program} {w:World} {A:Around} {E:Value→Shared→Prop} {s:Shared} {K:PySem.W.Frag} {x C f:Addr} {ox:Obj} {od:Option Obj} {b:Value} {nm:String} {T:String}
end
section
variable {X:Cx} {W:WX} {k:Nat} {f C:Addr} {fd:FuncData} {ps:List Str} {sp:SpD} {a b:Expr} {ta tb:TD} {pos:Pos}
end
section
variable {K:PySem.W.Frag} {G H:Hp}
end
section
variable {X:Cx}
end
section
variable {prog:Program} {w:World} {κ:Type} [DecidableEq κ] {knd:HeapKind prog w κ} {A:Around} {E:Value→Shared→Prop} {s:Shared}
end
section
variable {X:Cx} {pins:List (Addr × Obj)} {σ:L2.St} {H:Hp} {s:Shared}
end
end DL
namespace DL
open PySem PySem.Spec PyProof.Rows L2 PySem.W
end DL
namespace DL
open PySem PySem.Spec PyProof.Rows L2
section
variable {prog:Program} {w:World} {A:Around} {E:Value→Shared→Prop} {s:Shared} {K:PySem.W.Frag} {x y C f:Addr} {ox oy:Obj} {od od':Option Obj} {nm:String}
end
section
variable {X:Cx} {W:WX} {k:Nat} {f C:Addr} {fd:FuncData} {ps:List Str} {sp:SpD} {a b:Expr} {ta tb:TD} {pos:Pos}
end
section
open PySem.W PySem.Calls PyProof.V DT
variable {prog:Program} {w:World} {A:Around} {E:Value→Shared→Prop} {s:Shared} {v d:Addr} {es:Array DictEntry} {ep:Nat}
end
section
variable {X:Cx}
end
section
variable {X:Cx} {W:WX}
end
section
variable {g:TDG} {tt:TDT} {te:TD} {vs:List Nat} {Q:DV→DSt→Prop}
end
section
variable {K:PySem.W.Frag} {X:Cx}
end
section
variable {α:Type} [DecidableEq α] (U:α→α→Bool)
def kStep (C:α→Bool) (acc:List α) (f:α):List α:=if decide (f∈acc)=false∧C f=true then acc++[f] else acc
abbrev kept (C:α→Bool) (P:List α):List α:=P.foldl (kStep C) []
variable {U}
end
section
variable {X:Cx} {W:WX} {k:Nat} {f C:Addr} {sp:SpD} {m:Str} {pos apos:Pos} {o e:Expr} {es:List Expr} {ta:TDA} {to:TD} {pl:Sem Bool}
end
section
variable {g:TDG} {tt:TDT} {tk tv:TD} {vs:List Nat} {Q:DV→DSt→Prop}
end
section
variable {X:Cx} {W:WX} {kx vx tg iter:Expr} {ifs:List Expr} {scope:Scope} {own:List (Str × Nat)} {pos:Pos} {ti:TDI} {g:TDG} {tt:TDT} {tk tv:TD} {ix:List Nat}
end
section
variable {X:Cx} {kx vx tg iter:Expr} {ifs:List Expr} {scope:Scope} {own:List (Str × Nat)} {pos spos py:Pos} {wi:TI} {g:TG} {tt:TT} {tk tv:TE} {i:Nat} {y:Str}
end
section
variable {X:Cx} {W:WX} {kx vx tg iter:Expr} {ifs:List Expr} {scope:Scope} {own:List (Str × Nat)} {pos spos:Pos} {ti:TDI} {g:TDG} {tt:TDT} {tk tv:TD} {ix:List Nat}
end
section
variable {X:Cx} {W:WX} {a b:Expr} {ta tb:TD} {pos:Pos}
end
section
variable {P:Program} {w:World} {A:Around} {E:Value→Shared→Prop} {s:Shared}
abbrev mh (P:Program) (w:World) (k:List Key):Int:=tupleKeyHash (mixKind P w) k
def rowsM (P:Program) (w:World) (L:List (Addr × List Key)):List (Int × Value):=L.map fun p=>(mh P w p.2,Value.ref p.1)
def hsM (P:Program) (w:World) (L:List (Addr × List Key)):List Int:=L.map fun p=>mh P w p.2
structure SetM (P:Program) (w:World) (h:Heap) (a:Addr) (L:List (Addr × List Key)) (es:Array (Int × Value)) (ep:Nat) (t:SetTable):Prop where
  ob:∃ o,h.get? a=some o∧o.ExactSet∧o.data=.set es ep t
  rows:es.toList=rowsM P w L
  tab:L2.TabOk t (hsM P w L)
  nd:(L.map (·.2)).Nodup
  led:w.params.followText "set-order"=true∨t.led=true
  room:L.length * 5 < t.mask * 3
  few:L.length < 64
theorem rowsM_len {es:Array (Int × Value)} {L:List (Addr × List Key)} (h:es.toList=rowsM P w L):es.size=L.length:=by
  have z:=congrArg List.length h
  rw [Array.length_toList] at z
  rw [z,rowsM,List.length_map]
variable {a:Addr} {L:List (Addr × List Key)} {es:Array (Int × Value)} {ep:Nat} {t:SetTable} {h:Heap}
theorem SetM.size (R:SetM P w h a L es ep t):es.size=L.length:=rowsM_len R.rows
theorem SetM.keep {h':Heap} (R:SetM P w h a L es ep t) (k:∀ o,h.get? a=some o→h'.get? a=some o):SetM P w h' a L es ep t:=by
  obtain ⟨o,ho,r⟩:=R.ob
  exact ⟨⟨o,k o ho,r⟩,R.rows,R.tab,R.nd,R.led,R.room,R.few⟩
end
section
variable {X:Cx}
end
section
variable {X:Cx} {W:WX} {e:Expr} {te:TD} {tl th:TDO} {pos p2:Pos} {lo hi:Option Expr} {K:PySem.W.Frag}
end
section
variable {g:TDG} {tt:TDT} {te:TD} {vs:List Nat} {F:List (List Key)→DSt→Prop}
end
section
variable {X:Cx} {W:WX} {elt tg iter:Expr} {ifs:List Expr} {scope:Scope} {own:List (Str × Nat)} {pos p lpos:Pos} {ti:TDI} {g:TDG} {tt:TDT} {te:TD} {ix:List Nat}
end
section
variable {g:TDG} {tt:TDT} {te:TD} {vs:List Nat} {F:List (List Key)→DSt→Prop}
end
section
variable {prog:Program} {w:World} {A:Around} {R:Result→Shared→Prop} {s:Shared} {elt t i:Expr} {ifs:List Expr} {gens:List Comprehension} {scope:Scope} {pos:Pos} {it acc:Value} {env:Env} {d:Nat}
end
def Ends (Y:Cx) (pins:List (Addr × Obj)) (σ:L2.St) (vs:List Nat) (Nx:Hp→Prop) (F:Shared→Prop):Prop:=∀ (σ':L2.St) (s':Shared) (H':Hp),Inv Y pins σ' H' s'→σ'.length=σ.length→(∀ (j:Nat) v,(wipe σ vs)[j]?=some (some v)→σ'[j]?=some (some v))→Nx H'→F s'
section
variable {Y:Cx} {elt:Expr} {gens:List Comprehension} {scope:Scope} {pos:Pos} {acc:Value}
end
section
variable {X:Cx}
end
section
variable {K:PySem.W.Frag} {G H:Hp} {so:So} {σ:L2.St} {sl:DSt}
end
section
variable {X:Cx} {tg e:Expr} {te:TD}
end
abbrev DBody:=(List D→DSt→Prop)→List D→DSt→Prop
section
variable {body:DBody} {g:TDG} {tt:TDT} {vs:List Nat} {F:List D→DSt→Prop} {acc:List D} {sl:DSt}
end
structure ClX where
  tg:Expr
  iter:Expr
  ifs:List Expr
  ti:TDI
  g':TG
  g:TDG
  tt:TDT
  vs:List Nat
  ix:List Nat
structure CSt (K:PySem.W.Frag) (C:Addr) (n:Nat) (G:Hp) (so:So) (σ:L2.St) (H:Hp) (sl:DSt) (us:List V) (acc:List D):Prop where
  rep:Rep K G so σ H sl
  hC:H C=some (.lst us)
  gC:G C=none
  nt:so.Nt C
  no:¬ Own sl σ C
  al:DAll K G us acc
  nb:∀ (j:Nat) (o:OO),sl[j]?=some (some (.bor o))→σ[j]?=some (some (.ref C))→False
  ln:σ.length=n
structure CR (C:Addr) (so:So) (G:Hp) (σ:L2.St) (H:Hp) (sl:DSt) (G':Hp) (σ':L2.St) (H':Hp) (sl':DSt):Prop where
  ex:Ex G G'
  keep:∀ a o,a≠C→H a=some o→so.Nt a→H' a=some o
  frm:∀ a,H a≠none→G a=none→so.Nt a→¬ Own sl σ a→G' a=none
  sub:∀ a,Own sl' σ' a→Own sl σ a
  bs:∀ (j:Nat) (o:OO),sl'[j]?=some (some (.bor o))→∃ o',sl[j]?=some (some (.bor o'))
section
variable {K:PySem.W.Frag} {C:Addr} {n:Nat} {G G' G2:Hp} {so:So} {σ σ' σ2:L2.St} {H H' H2:Hp} {sl sl' sl2:DSt} {us:List V} {acc:List D}
theorem CR.refl:CR C so G σ H sl G σ H sl:=⟨Ex.refl _,fun _ _ _ e _=>e,fun _ _ g _ _=>g,fun _ z=>z,fun _ o e=>⟨o,e⟩⟩
theorem CR.trans (hC:G' C=none→G2 C=none) (a:CR C so G σ H sl G' σ' H' sl') (b:CR C so G' σ' H' sl' G2 σ2 H2 sl2):CR C so G σ H sl G2 σ2 H2 sl2 where
  ex:=a.ex.trans b.ex
  keep:=fun x o nx e s=>b.keep x o nx (a.keep x o nx e s) s
  frm:=fun x n1 g1 s w=>by
    have g':=a.frm x n1 g1 s w
    by_cases z:x=C
    · subst z;exact hC g'
    · obtain ⟨o,e⟩:=Option.ne_none_iff_exists'.mp n1
      exact b.frm x (by rw [a.keep x o z e s];simp) g' s fun q=>w (a.sub x q)
  sub:=fun x z=>a.sub x (b.sub x z)
  bs:=fun j o e=>let ⟨o1,e1⟩:=b.bs j o e;a.bs j o1 e1
theorem CR.wipe (vs:List Nat):CR C so G σ H sl G (L2.wipe σ vs) H (wipeD sl vs):=⟨Ex.refl _,fun _ _ _ e _=>e,fun _ _ g _ _=>g,fun _ z=>own_wipe z,fun _ o e=>⟨o,(wipeD_some e).1⟩⟩
theorem CSt.wipe (c:CSt K C n G so σ H sl us acc) (vs:List Nat):CSt K C n G so (L2.wipe σ vs) H (wipeD sl vs) us acc where
  rep:=c.rep.wipe vs
  hC:=c.hC
  gC:=c.gC
  nt:=c.nt
  no:=fun z=>c.no (own_wipe z)
  al:=c.al
  nb:=fun j o e1 e2=>c.nb j o (wipeD_some e1).1 (wipe_some e2).1
  ln:=(wipe_length σ vs).trans c.ln
end
section
variable {K:PySem.W.Frag} {n:Nat} {C:Addr}
end
section
variable {X:Cx} {W:WX} {elt tg iter:Expr} {ifs:List Expr} {scope:Scope} {own:List (Str × Nat)} {pos:Pos} {ti:TDI} {g':TG} {g:TDG} {tt:TDT} {te:TD} {ix:List Nat} {r:List ClX}
end
section
variable {X:Cx} {W:WX} {elt tg iter tg1 iter1 tg2 iter2:Expr} {ifs ifs1 ifs2:List Expr} {scope:Scope} {own:List (Str × Nat)} {pos:Pos} {ti ti1 ti2:TDI} {g' g1' g2':TG} {g g1 g2:TDG} {tt tt1 tt2:TDT} {te:TD} {ix ix1 ix2:List Nat}
end
section
variable {X:Cx} {W:WX} {a b:Expr} {ta tb:TD} {i j:Nat} {x y:Str} {pos:Pos}
end
section
variable {prog:Program} {w:World} {A:Around} {R:Result→Shared→Prop} {s:Shared} {elt t i:Expr} {ifs:List Expr} {gens:List Comprehension} {scope:Scope} {pos:Pos} {it acc:Value} {env:Env} {d:Nat}
end
section
variable {Y:Cx} {elt:Expr} {gens:List Comprehension} {scope:Scope} {pos:Pos} {acc:Value}
end
section
variable {X:Cx}
end
end DL
namespace DL
open PySem PySem.Spec PyProof.Rows L2 PySem.W
section
variable {X:Cx}
end
end DL
namespace DL
open PySem PySem.Spec PyProof.Rows L2
abbrev SG:=Hp→HO→List D→Prop
structure CG (S:SG) (K:PySem.W.Frag) (C:Addr) (n:Nat) (G:Hp) (so:So) (σ:L2.St) (H:Hp) (sl:DSt) (acc:List D):Prop where
  rep:Rep K G so σ H sl
  ho:∃ o,H C=some o∧S G o acc
  gC:G C=none
  nt:so.Nt C
  no:¬ Own sl σ C
  nb:∀ (j:Nat) (o:OO),sl[j]?=some (some (.bor o))→σ[j]?=some (some (.ref C))→False
  ln:σ.length=n
section
variable {S:SG} {K:PySem.W.Frag} {C:Addr} {n:Nat} {G G' G2:Hp} {so:So} {σ σ' σ2:L2.St} {H H' H2:Hp} {sl sl' sl2:DSt} {us:List V} {acc:List D}
theorem CG.wipe (c:CG S K C n G so σ H sl acc) (vs:List Nat):CG S K C n G so (L2.wipe σ vs) H (wipeD sl vs) acc where
  rep:=c.rep.wipe vs
  ho:=c.ho
  gC:=c.gC
  nt:=c.nt
  no:=fun z=>c.no (own_wipe z)
  nb:=fun j o e1 e2=>c.nb j o (wipeD_some e1).1 (wipe_some e2).1
  ln:=(wipe_length σ vs).trans c.ln
end
section
variable {K:PySem.W.Frag} {n:Nat} {C:Addr}
end
section
variable {X:Cx} {W:WX} {elt tg iter:Expr} {ifs:List Expr} {scope:Scope} {own:List (Str × Nat)} {p pos cpos:Pos} {ti:TDI} {g':TG} {g:TDG} {tt:TDT} {te:TD} {ix:List Nat} {r:List ClX}
end
end DL
namespace DL
open PySem PySem.Spec PySem.Calls PyProof.Rows L2 PySem.W
section
variable {prog:Program} {w:World} {A:Around} {E:Value→Shared→Prop} {s:Shared}
end
section
variable {X:Cx} {e1 e2:Expr} {p2 pos:Pos} {k:Nat} {t:TGs}
end
section
variable {X:Cx} {W:WX} {e:Expr} {te:TD} {i j:Nat} {x y:Str} {pos:Pos}
end
end DL
namespace DL
open PySem PySem.Spec PyProof.Rows L2
def ZSt (S z TI TO i1 i2 l1 l2:Addr) (xs ys:Array Value) (i:Nat) (h:Heap):Prop:=
  IsPair h TI (.ref i1) (.ref i2)∧h.IsListIter i1 l1 i∧h.IsListIter i2 l2 i∧h.IsList l1 xs∧h.IsList l2 ys∧
    ((IsZip h z TI TO .none∧∃ a b,IsPair h TO a b)∨∃ T f oT,IsZipHeld h z TI TO T f∧h.get? T=some oT∧T≠z∧T≠i1∧T≠i2∧T≠S)
theorem ZSt.keep {S z TI TO i1 i2 l1 l2:Addr} {xs ys:Array Value} {i:Nat} {h h':Heap} (st:ZSt S z TI TO i1 i2 l1 l2 xs ys i h) (off:S∉[z,TI,TO,i1,i2,l1,l2]) (k:∀ b o,b≠S→h.get? b=some o→h'.get? b=some o):ZSt S z TI TO i1 i2 l1 l2 xs ys i h':=by
  simp only [List.mem_cons,List.not_mem_nil,or_false,not_or] at off
  obtain ⟨dz,dTI,dTO,di1,di2,dl1,dl2⟩:=off
  obtain ⟨hTI,h1,h2,hl1,hl2,hz⟩:=st
  refine ⟨k _ _ (Ne.symm dTI) hTI,h1.at fun o e=>k _ o (Ne.symm di1) e,h2.at fun o e=>k _ o (Ne.symm di2) e,hl1.at fun o e=>k _ o (Ne.symm dl1) e,hl2.at fun o e=>k _ o (Ne.symm dl2) e,?_⟩
  rcases hz with ⟨hz,a,b,hTO⟩ | ⟨T,f,oT,hz,hT,r1,r2,r3,r4⟩
  · exact .inl ⟨k _ _ (Ne.symm dz) hz,a,b,k _ _ (Ne.symm dTO) hTO⟩
  · exact .inr ⟨T,f,oT,k _ _ (Ne.symm dz) hz,k _ _ r4 hT,r1,r2,r3,r4⟩
section
variable {prog:Program} {w:World} {A:Around} {E:Value→Shared→Prop} {S z TI TO i1 i2 l1 l2:Addr} {xs ys:Array Value} {R:Result→Shared→Prop}
end
section
variable {X:Cx} {pins:List (Addr × Obj)} {σ:L2.St} {H:Hp} {s:Shared}
end
section
variable {X:Cx} {W:WX}
end
section
variable {X:Cx} {W:WX} {o key value:Expr} {tk te:TD} {pos pos':Pos} {i:Nat}
end
section
variable {X:Cx} {W:WX} {elt tg iter tg1 iter1:Expr} {ifs ifs1:List Expr} {scope:Scope} {own:List (Str × Nat)} {p pos cpos:Pos} {ti ti1:TDI} {g' g1':TG} {g g1:TDG} {tt tt1:TDT} {te:TD} {ix ix1:List Nat}
end
section
variable {X:Cx} {W:WX} {pos:Pos} {i j l:Nat} {x y z:Str} {a b c:Expr} {ta:TDA}
end
section
variable {X:Cx} {x:Str} {kvs:List (Str × Str)}
end
section
variable {prog:Program} {w:World} {K:Type} [DecidableEq K] {knd:KeyKind prog w K} {A:Around} {E:Value→Shared→Prop} {s:Shared}
end
section
variable {K:PySem.W.Frag} {G G1:Hp} {so:So} {σ:L2.St} {H H1:Hp} {sl s1:DSt} {p:Addr} {o:HO}
end
section
variable {X:Cx} {W:WX} {kx vx tg iter:Expr} {ifs:List Expr} {scope:Scope} {own:List (Str × Nat)} {pos:Pos} {ti:TDI} {g:TDG} {tt:TDT} {tk tv:TD} {ix:List Nat}
end
section
variable {X:Cx} {pins:List (Addr × Obj)} {σ:L2.St} {H:Hp} {s:Shared}
end
end DL
set_option maxHeartbeats 2000000
namespace DL
open PySem PySem.Spec PyProof.Rows L2
end DL
set_option maxHeartbeats 4000000
namespace DL
open PySem PySem.Spec PyProof.Rows L2
section
variable {X:Cx} {W:WX} {e:Expr} {te:TD} {i j:Nat} {x y:Str} {pos:Pos}
end
abbrev SpM:=List DV→List (Str × D)→(DV→List (Str × D)→Prop)→(Value→List (Str × D)→List (Str × D)→Prop)→Prop
def noMu:DSt→Bool
  | []=>true
  | some (.mu _ _ _)::_=>false
  | some (.gh _ _)::_=>false
  | _::r=>noMu r
theorem noMu_get:∀ {sl:DSt} {j:Nat} {y D:Addr} {gs:List (Str × DL.D)},noMu sl=true→sl[j]?≠some (some (.mu y D gs))
  | [],j,_,_,_,_,e=>by simp at e
  | z::r,0,y,D,gs,h,e=>by
    simp at e;subst e;cases h
  | z::r,j + 1,y,D,gs,h,e=>by
    refine noMu_get (sl:=r) ?_ (by simpa using e)
    unfold noMu at h
    split at h
    · rename_i q;cases q
    · cases h
    · cases h
    · rename_i q;cases q;exact h
theorem noMu_getg:∀ {sl:DSt} {j:Nat} {y:Addr} {g:GR},noMu sl=true→sl[j]?≠some (some (.gh y g))
  | [],j,_,_,_,e=>by simp at e
  | z::r,0,y,g,h,e=>by
    simp at e;subst e;cases h
  | z::r,j + 1,y,g,h,e=>by
    refine noMu_getg (sl:=r) ?_ (by simpa using e)
    unfold noMu at h
    split at h
    · rename_i q;cases q
    · cases h
    · cases h
    · rename_i q;cases q;exact h
section
variable {K:PySem.W.Frag} {G G' H H':Hp} {so:So} {x C:Addr} {v:V} {dv:DV} {fs fs':List (Str × D)}
def MuOk (K:PySem.W.Frag) (G H:Hp) (x C:Addr) (fs:List (Str × D)):Prop:=∃ dx vs,H x=some (.ins C dx vs)∧FAll K G vs fs
abbrev soM (so:So) (x C:Addr):So:=(x,Kd.mt C)::so.drop
structure PostMH (K:PySem.W.Frag) (G:Hp) (so:So) (H:Hp) (x C:Addr) (H' G':Hp) (fs':List (Str × D)):Prop where
  ex:Ex G G'
  hrep:HRep K G' (soM so x C) H'
  keep:∀ a o,H a=some o→so.drop.Nt a→a≠x→H' a=some o
  frm:∀ a,H a≠none→G a=none→so.drop.Nt a→a≠x→G' a=none
  self:MuOk K G' H' x C fs'
structure PostM (K:PySem.W.Frag) (G:Hp) (so:So) (H:Hp) (x C:Addr) (v:V) (H' G':Hp) (dv:DV) (fs':List (Str × D)):Prop extends PostMH K G so H x C H' G' fs' where
  val:VOk K G' (soM so x C) H' v dv
  new:∀ a o,dv=.own o→v=.ref a→H a=none
  nob:∀ o,dv≠.bor o
  ns:∀ o,dv≠.see o
def upM (K:PySem.W.Frag) (C:Addr) (sp:SpM):Sp:=fun vs H Q E=>∃ G so x vs' fs args QD ED,vs=.ref x::vs'∧HRep K G (soM so x C) H∧so.drop.Nt x∧MuOk K G H x C fs∧VsOk K G (soM so x C) H vs' args∧sp args fs QD ED∧
  (∀ v H' G' dv fs',PostM K G so H x C v H' G' dv fs'→QD dv fs'→Q v H')∧(∀ cls d H' G' efs fs',PostMH K G so H x C H' G' fs'→XdOk K G' H' d efs→ED cls efs fs'→E cls d H')
end
section
variable {K:PySem.W.Frag} {W:WX} {G G' H H':Hp} {so:So} {σ:L2.St} {sl:DSt} {x C:Addr} {v:V} {dv:DV} {fs fs':List (Str × D)} {i:Nat}
end
section
variable {X:Cx} {W:WX} {k n:Nat} {f C:Addr} {fd:FuncData} {ps ks:List Str} {sp:SpM} {sel:List Sel} {m nm:Str} {p pos apos kpos:Pos} {o e:Expr} {es:List Expr} {ta:TDA} {te:TD} {pl:Sem Bool} {i:Nat}
end
section
variable {X:Cx} {W:WX} {k n:Nat} {f C:Addr} {fd:FuncData} {ps ks:List Str} {sp:SpI} {sel:List Sel} {x nm:Str} {p pos kpos:Pos} {e:Expr} {es:List Expr} {kws:List Keyword} {ta tk tk':TDA} {te:TD}
end
section
variable {X:Cx} {W:WX} {k n:Nat} {f C:Addr} {fd:FuncData} {ps ks:List Str} {sp:SpM} {sel:List Sel} {m nm:Str} {p pos apos kpos:Pos} {o e:Expr} {es:List Expr} {ta:TDA} {te:TD} {pl:Sem Bool} {i:Nat}
end
section
variable {X:Cx} {W:WX} {x:Str} {c:Value} {body suite:List Stmt} {b0:Stmt} {np pos pos':Pos} {t u:TDS}
end
section
variable {X:Cx} {W:WX} {elt tg iter:Expr} {ifs:List Expr} {scope:Scope} {own:List (Str × Nat)} {pos spos:Pos} {ti:TDI} {g:TDG} {tt:TDT} {te:TD} {ix:List Nat}
end
section
variable {X:Cx} {W:WX} {k n:Nat} {f C r:Addr} {fd:FuncData} {ps ks:List Str} {sp:SpD} {sel:List Sel} {m nm:Str} {p pos apos kpos:Pos} {o e:Expr} {es:List Expr} {kws:List Keyword} {ta tk':TDA} {pl:Sem Bool}
end
end DL
set_option maxHeartbeats 2000000
namespace DL
open PySem PySem.Spec PyProof.Rows L2
section
variable {X:Cx} {pins:List (Addr × Obj)} {σ:L2.St} {H HZ:Hp} {s s1:Shared} {params:Arguments} {xs:List Str} {vs:List Nat}
end
section
variable {X:Cx} {W:WX} {K:PySem.W.Frag} {cs:List Value} {x a:Str} {g c:Addr} {fdg:FuncData} {qg:Str} {pg:Arguments} {bg:List Stmt} {sg:Scope} {Ng xs:List Str} {params:Arguments} {body:Expr} {scope:Scope} {te:TD} {k:Nat} {p lpos pos:Pos} {vs:List Nat}
end
section
variable {X:Cx} {W:WX} {k n:Nat} {f C r:Addr} {fd:FuncData} {ps ks:List Str} {sp:SpD} {sel:List Sel} {m nm:Str} {p pos apos kpos:Pos} {o e:Expr} {es:List Expr} {kws:List Keyword} {ta tk':TDA} {pl:Sem Bool}
end
end DL
set_option maxHeartbeats 4000000
namespace DL
open PySem PySem.Spec PyProof.Rows L2
section
variable {X:Cx} {W:WX} {g0:Stmt} {gs:List Stmt} {tv tu:TS} {pins:List (Addr × Obj)} {D:L2.Ends}
end
section
variable {K:PySem.W.Frag} {W:WX} {G G1 H H1:Hp} {so:So} {σ σ1:L2.St} {sl s1:DSt} {d:Option Addr} {fs:List (Str × D)}
end
section
variable {X:Cx} {W:WX} {body gs:List Stmt} {g0:Stmt} {pos:Pos} {t u:TDS}
end
section
variable {K:PySem.W.Frag} {W:WX} {G G' H H':Hp} {so:So} {σ σ':L2.St} {sl sl':DSt} {x C:Addr} {fs:List (Str × D)} {i:Nat}
end
section
variable {X:Cx} {W:WX} {rest:List Stmt} {u:TDS} {C:Addr} {i:Nat}
end
structure FnVM (P:Program) (w:World) (K:PySem.W.Frag) (mg:Str→Option Value) (base:Heap) (k:Nat) (f C:Addr) (sp:SpM):Prop where
  run:∀ (A:Around) (outer:List Env) (s:Shared) (H:Hp) (us:List Value) (vs:List V) (Q:VK) (E:XK),Room k A→A.guards=some []→Env0 P w K mg base A outer s H→Vals vs us→upM K C sp vs H Q E→
    codeAny (model P w) A (.call (.ref f) ⟨us,[]⟩) (L2.CR (L2N.CX P w) outer P w H s Q E) s
theorem FnVM.mono {P:Program} {w:World} {K:PySem.W.Frag} {mg:Str→Option Value} {base:Heap} {j k:Nat} {f C:Addr} {sp:SpM} (F:FnVM P w K mg base j f C sp) (h:j≤k):FnVM P w K mg base k f C sp:=
  ⟨fun A outer s H us vs Q E hr=>F.run A outer s H us vs Q E (hr.mono h)⟩
section
variable {X:Cx} {W:WX} {k:Nat} {f C:Addr} {sp:SpM} {m:Str} {apos pos:Pos} {o e:Expr} {es:List Expr} {ta:TDA} {pl:Sem Bool} {i:Nat}
end
section
variable {K:PySem.W.Frag} {G H:Hp} {so:So} {σ:L2.St} {sl:DSt} {x C:Addr} {fs:List (Str × D)} {i:Nat}
end
section
variable {X:Cx} {W:WX} {k n:Nat} {f C g:Addr} {fd:FuncData} {ps ks:List Str} {sp:SpD} {sel:List Sel} {m nm:Str} {p pos apos kpos:Pos} {o e:Expr} {es:List Expr} {kws:List Keyword} {ta tk':TDA} {te:TD} {pl:Sem Bool} {i:Nat}
end
section
variable {X:Cx} {W:WX} {x:Str} {kvs:List (Str × Int)} {o b c:Expr} {tb tc:TD} {apos cpos:Pos}
end
section
variable {X:Cx} {W:WX} {k n:Nat} {f:Addr} {fd:FuncData} {ps:List Str} {sp:SpD} {sel:List Sel} {x:Str} {p pos:Pos} {a0:Expr} {es:List Expr} {ta:TDA} {i:Nat}
end
section
variable {X:Cx} {W:WX} {k n:Nat} {f g C:Addr} {fd:FuncData} {ps ks:List Str} {sp:SpD} {sel:List Sel} {m nm:Str} {p pos apos kpos:Pos} {o e:Expr} {es:List Expr} {ta:TDA} {to te:TD} {pl:Sem Bool}
end
section
variable {C:Addr} {sp:SpD}
end
end DL
set_option maxHeartbeats 2000000
namespace DL
open PySem PySem.Spec PyProof.Rows L2
section
variable {K:PySem.W.Frag} {W:WX} {G G1 H H1:Hp} {so:So} {σ σ1:L2.St} {sl s1:DSt} {x C:Addr} {fs:List (Str × D)} {i:Nat}
end
section
variable {X:Cx} {W:WX} {st:Stmt} {rest:List Stmt} {t u:TDS} {i:Nat}
end
section
variable {M:Model} {A:Around} {E:Value→Shared→Prop} {env:Env} {Q:Flow→Shared→Prop}
theorem execs_app (b:List Stmt) (Γ:PySem.Ctx) (hΓ:Γ.In A):∀ (a:List Stmt) (p:Pos) (s:Shared),PySem.Sem.wp M Γ (execs a env) (fun f _ s'=>match f with | .next=>wpAny M A (execs b env) Q E s' | f=>Q f s') (fun e _ s'=>E e s') p s→PySem.Sem.wp M Γ (execs (a++b) env) (fun f _ s'=>Q f s') (fun e _ s'=>E e s') p s
  | [],p,s,h=>by
    have e:execs [] env=pure .next:=by rw [execs]
    rw [e,PySem.Sem.wp_pure'] at h
    exact h Γ p hΓ
  | st::r,p,s,h=>by
    rw [execs_cons,PySem.Sem.wp_bind'] at h
    rw [List.cons_append,execs_cons,PySem.Sem.wp_bind']
    refine PySem.Sem.wp_mono M Γ _ (fun f p' s' h'=>?_) (fun _ _ _ h'=>h') _ _ h
    cases f with
    | next=>exact execs_app b Γ hΓ r p' s' h'
    | ret v=>rw [PySem.Sem.wp_pure'] at h' ⊢;exact h'
    | brk=>rw [PySem.Sem.wp_pure'] at h' ⊢;exact h'
    | cont=>rw [PySem.Sem.wp_pure'] at h' ⊢;exact h'
end
theorem pss_app {X:Cx} {a b:List Stmt} {t u:TS} (h1:PSs X a t) (h2:PSs X b u):PSs X (a++b) (tSeq t u):=by
  refine ⟨fun pins s σ H D I h=>fun Γ p hΓ=>execs_app b Γ hΓ a p s ?_⟩
  refine PySem.Sem.wp_mono _ Γ _ (fun f p' s' q=>?_) (fun _ _ _ h'=>h') _ _ (h1.run pins s σ H { D with nx:=u D } I h Γ p hΓ)
  cases f with
  | next=>
    obtain ⟨σ',H',I',q⟩:=q
    exact h2.run pins s' σ' H' D I' q
  | ret v=>exact q
  | brk=>exact q
  | cont=>exact q
section
variable {K:PySem.W.Frag} {G H:Hp} {so:So} {σ:L2.St} {sl:DSt} {x C:Addr} {fs:List (Str × D)} {i:Nat}
end
section
variable {X:Cx} {W:WX} {sts:List Stmt} {u t:TDS} {C:Addr} {i n:Nat}
end
section
variable {C:Addr} {sp:SpD}
end
section
variable {X:Cx} {W:WX} {k n:Nat} {f C:Addr} {fd:FuncData} {ps ks:List Str} {sp:SpI} {sel:List Sel} {x nm:Str} {p pos kpos:Pos} {e:Expr} {es:List Expr} {kws:List Keyword} {ta tk tk':TDA} {te:TD}
end
section
variable {X:Cx} {W:WX} {k n:Nat} {f g C:Addr} {fd:FuncData} {ps ks:List Str} {sp:SpD} {sel:List Sel} {m nm:Str} {p pos apos kpos:Pos} {o e:Expr} {es:List Expr} {kws:List Keyword} {ta tk':TDA} {to te:TD} {pl:Sem Bool}
end
section
variable {X:Cx} {W:WX} {k n:Nat} {f C:Addr} {fd:FuncData} {ps:List Str} {sp:SpM} {sel:List Sel} {x:Str} {p pos:Pos} {a0:Expr} {es:List Expr} {ta:TDA} {i:Nat}
end
end DL
set_option maxHeartbeats 4000000
namespace DL
open PySem PySem.Spec PyProof.Rows L2
section
variable {X:Cx} {W:WX} {rest:List Stmt} {t:TDS} {i:Nat}
end
section
variable {K:PySem.W.Frag} {G:Hp} {so:So} {σ σ1:L2.St} {H H1:Hp} {sl s1:DSt} {v:V} {y:D} {i:Nat}
end
section
variable {X:Cx} {W:WX} {a b c d:Expr} {ta:TD} {tl:TDA} {i j l m:Nat} {x y z w:Str} {pos:Pos}
end
end DL
namespace DL
section
open PySem PySem.SeqAt GQ
open AutoSeq1 (wpAny_loadPart')
open MeetsSeq MeetsSeq2 MeetsSeq3 SeqRoads2
variable {prog:Program} {w:World} {A:Around} {R:Result→Shared→Prop} {E:Value→Shared→Prop}
end
open PySem PySem.Spec PyProof.Rows L2
section
variable {X:Cx}
end
end DL
set_option maxHeartbeats 2000000
namespace DP
open PySem PySem.W PySem.Calls PyProof.Rows PyProof.V PySem.Spec
section
variable {prog:Program} {w:World} {KT:Type} [DecidableEq KT] {knd:KeyKind prog w KT} {A:Around} {E:Value→Shared→Prop} {s:Shared}
end
section
open PySem.SeqAt MeetsSeq MeetsSeq2 MeetsSeq3 SeqRoads2
open AutoSeq1 (wpAny_loadPart')
variable {prog:Program} {w:World} {A:Around} {R:Result→Shared→Prop} {E:Value→Shared→Prop}
end
end DP
namespace DL
open PySem PySem.Spec PyProof.Rows L2
section
variable {X:Cx} {k:Nat} {f C:Addr} {fd:FuncData} {ps:List Str} {sp:SpD}
end
mutual
inductive NT where
  | leaf (d:D)
  | node (a:Addr) (xs:List NT)
end
mutual
def NT.as:NT→List Addr
  | .leaf _=>[]
  | .node a xs=>a::NT.asL xs
def NT.asL:List NT→List Addr
  | []=>[]
  | x::r=>NT.as x++NT.asL r
end
mutual
inductive NOk (K:PySem.W.Frag) (G H:Hp):V→NT→Prop
  | leaf {v:V} {d:D}:DOk K G v d→NOk K G H v (.leaf d)
  | node {a:Addr} {vs:List V} {xs:List NT}:H a=some (.lst vs)→NAll K G H vs xs→NOk K G H (.ref a) (.node a xs)
inductive NAll (K:PySem.W.Frag) (G H:Hp):List V→List NT→Prop
  | nil:NAll K G H [] []
  | cons {v:V} {x:NT} {vs:List V} {xs:List NT}:NOk K G H v x→NAll K G H vs xs→NAll K G H (v::vs) (x::xs)
end
section
variable {K:PySem.W.Frag} {G G' H H':Hp}
mutual
theorem NOk.keep (e:Ex G G'):∀ {v:V} {t:NT},(∀ a∈t.as,H' a=H a)→NOk K G H v t→NOk K G' H' v t
  | _,.leaf _,_,.leaf h=>.leaf (h.mono e)
  | .ref a,.node _ _,k,.node h r=>.node (by rw [k a (by rw [NT.as];exact List.mem_cons_self ..)];exact h) (NAll.keep e (fun b hb=>k b (by rw [NT.as];exact List.mem_cons_of_mem _ hb)) r)
theorem NAll.keep (e:Ex G G'):∀ {vs:List V} {ts:List NT},(∀ a∈NT.asL ts,H' a=H a)→NAll K G H vs ts→NAll K G' H' vs ts
  | _,_,_,.nil=>.nil
  | _,_,k,.cons h r=>.cons (NOk.keep e (fun b hb=>k b (by rw [NT.asL];exact List.mem_append_left _ hb)) h) (NAll.keep e (fun b hb=>k b (by rw [NT.asL];exact List.mem_append_right _ hb)) r)
end
mutual
theorem NOk.lst:∀ {v:V} {t:NT},NOk K G H v t→∀ a∈t.as,∃ vs,H a=some (.lst vs)
  | _,_,.leaf _,a,m=>by rw [NT.as] at m;cases m
  | _,_,.node h r,b,m=>by
    rw [NT.as] at m
    rcases List.mem_cons.mp m with m | m
    · subst m;exact ⟨_,h⟩
    · exact NAll.lst r b m
theorem NAll.lst:∀ {vs:List V} {ts:List NT},NAll K G H vs ts→∀ a∈NT.asL ts,∃ vs,H a=some (.lst vs)
  | _,_,.nil,a,m=>by rw [NT.asL] at m;cases m
  | _,_,.cons h r,b,m=>by
    rw [NT.asL] at m
    rcases List.mem_append.mp m with m | m
    · exact NOk.lst h b m
    · exact NAll.lst r b m
end
end
def nestG (x:Addr) (t:NT):GR:=⟨t.as,fun K G H=>NOk K G H (.ref x) t∧t.as.Nodup,fun K G G' H H' e k h=>⟨h.1.keep e k,h.2⟩,fun _=>0⟩
def unP (G:Hp) (as:List Addr):Hp:=fun a=>if a∈as then none else G a
def puB (G H:Hp) (as:List Addr):Hp:=fun a=>if a∈as then H a else G a
section
variable {K:PySem.W.Frag} {G G1 H H1:Hp} {as:List Addr}
theorem unP_in {a:Addr} (m:a∈as):unP G as a=none:=by unfold unP;rw [if_pos m]
theorem unP_out {a:Addr} (m:a∉as):unP G as a=G a:=by unfold unP;rw [if_neg m]
theorem puB_in {a:Addr} (m:a∈as):puB G H as a=H a:=by unfold puB;rw [if_pos m]
theorem puB_out {a:Addr} (m:a∉as):puB G H as a=G a:=by unfold puB;rw [if_neg m]
theorem unP_ex:Ex (unP G as) G:=fun a o e=>by
  by_cases m:a∈as
  · rw [unP_in m] at e;cases e
  · rw [unP_out m] at e;exact e
theorem puB_ex (g:∀ a∈as,G a=none):Ex G (puB G H as):=fun a o e=>by
  rw [puB_out (fun m=>by rw [g a m] at e;cases e)];exact e
end
section
variable {K:PySem.W.Frag} {W:WX} {G G1 H H1:Hp} {so:So} {σ σ1:L2.St} {sl s1:DSt} {x:Addr} {t:NT} {i:Nat}
end
section
variable {K:PySem.W.Frag} {W:WX} {G H:Hp} {so:So} {σ:L2.St} {sl:DSt} {x:Addr} {t:NT} {i:Nat} {X:Cx} {e:Expr} {te:TD} {tt:TDT}
end
end DL
set_option maxHeartbeats 4000000
namespace DL
open PySem PySem.Spec PyProof.Rows L2
abbrev nRow (p:Addr × List D):NT:=.node p.1 (p.2.map .leaf)
section
variable {K:PySem.W.Frag} {G G' H H':Hp}
theorem NAll.leaves:∀ {vs:List V} {ds:List D},DAll K G vs ds→NAll K G H vs (ds.map .leaf)
  | _,_,.nil=>.nil
  | _,_,.cons h t=>.cons (.leaf h) (NAll.leaves t)
theorem asL_leaves:∀ (ds:List D),NT.asL (ds.map .leaf)=[]
  | []=>by rw [List.map_nil,NT.asL]
  | d::r=>by rw [List.map_cons,NT.asL,NT.as,asL_leaves r];rfl
theorem asL_rows:∀ (ps:List (Addr × List D)),NT.asL (ps.map nRow)=ps.map (·.1)
  | []=>by rw [List.map_nil,NT.asL];rfl
  | p::r=>by rw [List.map_cons,NT.asL,NT.as,asL_leaves,asL_rows r];rfl
end
structure NstOk (K:PySem.W.Frag) (G H:Hp) (so:So) (sl0 sl:DSt) (σ:L2.St) (H1:Hp) (C:Addr) (us:List V) (ps:List (Addr × List D)):Prop where
  ok:NAll K G H us (ps.map nRow)
  own:∀ p∈ps,so.Nt p.1∧G p.1=none∧p.1≠C∧¬ Own sl σ p.1
  new:∀ p∈ps,H1 p.1=none∨Own sl0 σ p.1
  nd:(ps.map (·.1)).Nodup
section
variable {K:PySem.W.Frag} {G G' H H' H1:Hp} {so:So} {sl0 sl sl':DSt} {σ:L2.St} {C:Addr} {us:List V} {ps:List (Addr × List D)}
theorem NstOk.there (h:NstOk K G H so sl0 sl σ H1 C us ps) (p:Addr × List D) (hp:p∈ps):H p.1≠none:=by
  obtain ⟨vs,q⟩:=NAll.lst h.ok p.1 (by rw [asL_rows];exact List.mem_map_of_mem hp)
  rw [q];simp
theorem NstOk.step (h:NstOk K G H so sl0 sl σ H1 C us ps) (e:Ex G G') (k:∀ a o,H a=some o→so.Nt a→H' a=some o) (f:∀ a,H a≠none→G a=none→so.Nt a→¬ Own sl σ a→G' a=none) (s:∀ a,Own sl' σ a→Own sl σ a):NstOk K G' H' so sl0 sl' σ H1 C us ps:=
  ⟨h.ok.keep e (fun a m=>by
    rw [asL_rows] at m
    obtain ⟨p,hp,rfl⟩:=List.mem_map.mp m
    exact keep_ne k (h.there p hp) (h.own p hp).1),fun p hp=>by
    obtain ⟨m1,m2,m3,m4⟩:=h.own p hp
    exact ⟨m1,f _ (h.there p hp) m2 m1 m4,m3,fun z=>m4 (s _ z)⟩,h.new,h.nd⟩
end
section
variable {W:WX} {vs0:List Nat} {ti:TDI} {g:TDG} {tt:TDT} {te:TD} {ix:List Nat}
end
abbrev nT (C:Addr) (ps:List (Addr × List D)):NT:=.node C (ps.map nRow)
abbrev nestD (C:Addr) (ps:List (Addr × List D)):DV:=.gh C (nestG C (nT C ps))
theorem nT_as (C:Addr) (ps:List (Addr × List D)):(nT C ps).as=C::ps.map (·.1):=by rw [NT.as,asL_rows]
section
variable {K:PySem.W.Frag} {W:WX} {G G1 H H1:Hp} {so:So} {σ σ1:L2.St} {sl s1:DSt} {as:List Addr} {i:Nat} {C:Addr} {ps:List (Addr × List D)} {t:NT}
end
section
variable {X:Cx} {W:WX} {elt tg iter:Expr} {ifs:List Expr} {scope:Scope} {own:List (Str × Nat)} {pos spos:Pos} {ti:TDI} {g:TDG} {tt:TDT} {te:TD} {ix:List Nat} {rest:List Stmt} {u t:TDS} {n:Nat}
end
section
variable {K:PySem.W.Frag} {W:WX} {G G1 H H1:Hp} {so:So} {σ σ1:L2.St} {sl s1:DSt} {i:Nat} {C:Addr} {y:V} {d:D}
theorem NAll.unleaf:∀ {vs:List V} {ds:List D},NAll K G H vs (ds.map .leaf)→DAll K G vs ds
  | _,[],h=>by cases h;exact .nil
  | _,e::r,h=>by
    cases h with
    | cons h t=>
      cases h with
      | leaf h=>exact .cons h (NAll.unleaf t)
theorem NAll.setRow:∀ {us:List V} {ps:List (Addr × List D)} {j k:Nat} {p:Addr × List D} {vs:List V},NAll K G H us (ps.map nRow)→(ps.map (·.1)).Nodup→ps[j]?=some p→H p.1=some (.lst vs)→DOk K G y d→NAll K G (upd H p.1 (.lst (vs.set k y))) us ((ps.set j (p.1,p.2.set k d)).map nRow)
  | _,[],_,_,_,_,_,_,e,_,_=>by simp at e
  | _,q::r,0,k,p,vs,h,nd,e,hp,w=>by
    simp at e;subst e
    cases h with
    | cons h t=>
      cases h with
      | node h l=>
        rw [hp] at h;cases h
        refine .cons (.node upd_same (NAll.leaves (DAll.set w k (NAll.unleaf l)))) (NAll.keep (Ex.refl G) (fun b m=>upd_ne fun z=>?_) t)
        rw [asL_rows] at m
        rw [List.map_cons,List.nodup_cons] at nd
        exact nd.1 (z ▸ m)
  | _,q::r,j + 1,k,p,vs,h,nd,e,hp,w=>by
    have e':r[j]?=some p:=by simpa using e
    have ne:q.1≠p.1:=fun z=>by
      rw [List.map_cons,List.nodup_cons] at nd
      exact nd.1 (z ▸ List.mem_map_of_mem (List.mem_of_getElem? e'))
    cases h with
    | cons h t=>
      refine .cons ?_ (NAll.setRow t (List.nodup_cons.mp nd).2 e' hp w)
      refine NOk.keep (Ex.refl G) (fun b m=>upd_ne fun z=>?_) h
      rw [NT.as,asL_leaves] at m
      exact ne ((List.mem_singleton.mp m).symm.trans z)
theorem set_fst:∀ {ps:List (Addr × List D)} {j:Nat} {p:Addr × List D} {es:List D},ps[j]?=some p→(ps.set j (p.1,es)).map (·.1)=ps.map (·.1)
  | [],_,_,_,e=>by simp at e
  | q::r,0,p,es,e=>by simp at e;subst e;rfl
  | q::r,j + 1,p,es,e=>by
    have z:=set_fst (ps:=r) (j:=j) (p:=p) (es:=es) (by simpa using e)
    show q.1::((r.set j (p.1,es)).map (·.1))=q.1::r.map (·.1)
    rw [z]
theorem slotNest {ps:List (Addr × List D)} (r:Rep K G so σ H sl) (e:sl[i]?=some (some (nestD C ps))):σ[i]?=some (some (.ref C))∧(∃ us,H C=some (.lst us)∧NAll K G H us (ps.map nRow))∧(∀ a∈(nT C ps).as,(a,Kd.mt 0)∈so∧H a≠none)∧C∉ps.map (·.1)∧(ps.map (·.1)).Nodup:=by
  obtain ⟨v,e1,rfl,mx,nk,nd⟩:=r.slots i _ e
  have nd:(nT C ps).as.Nodup:=nd
  rw [nT_as,List.nodup_cons] at nd
  have nk:NOk K G H (.ref C) (nT C ps):=nk
  cases nk with
  | node h l=>exact ⟨e1,⟨_,h,l⟩,mx,nd.1,nd.2⟩
theorem PostS.nest {ps:List (Addr × List D)} {p:Addr × List D} {vs:List V} {j k:Nat} (r:Rep K G so σ H sl) (e:sl[i]?=some (some (nestD C ps))) (nm:noMu (sl.set i none)=true) (ep:ps[j]?=some p) (hp:H p.1=some (.lst vs)) (w:DOk K G y d) :
    PostS K G so σ H sl σ (upd H p.1 (.lst (vs.set k y))) G (sl.set i (some (nestD C (ps.set j (p.1,p.2.set k d))))):=by
  obtain ⟨e1,⟨us,hC,al⟩,mx,cn,nd⟩:=slotNest r e
  have pm:p.1∈(nT C ps).as:=by rw [nT_as];exact List.mem_cons_of_mem _ (List.mem_map_of_mem (List.mem_of_getElem? ep))
  have ps0:(p.1,Kd.mt 0)∈so:=(mx _ pm).1
  have gp:G p.1=none:=(r.h.vol _ _ ps0).g
  have nC:C≠p.1:=fun z=>cn (z ▸ List.mem_map_of_mem (List.mem_of_getElem? ep))
  have nt:∀ a,so.Nt a→a≠p.1:=fun a s z=>s ⟨_,z ▸ ps0⟩
  have li:i < sl.length:=(List.getElem?_eq_some_iff.mp e).1
  have own:∀ a,Own (sl.set i (some (nestD C (ps.set j (p.1,p.2.set k d))))) σ a→Own sl σ a:=fun a ⟨m,o,f1,f2⟩=>by
    rcases get_set f1 with ⟨_,z⟩ | ⟨_,z⟩
    · cases z
    · exact ⟨m,o,z,f2⟩
  have eas:(nT C (ps.set j (p.1,p.2.set k d))).as=(nT C ps).as:=by rw [nT_as,nT_as,set_fst ep]
  refine ⟨Ex.refl G,⟨⟨fun a o q=>?_,fun a kd q=>?_,r.h.ok,tp_upd r.h.tp (by intro _ z;cases z)⟩,by rw [List.length_set];exact r.len,fun m dv f=>?_,fun m n o o' b f1 f2 f3 f4=>?_,fun m o b f1 f2 z=>?_,fun m o f=>?_⟩,fun a o q s _=>by rw [upd_ne (nt a s)];exact q,fun a _ g _ _=>g,fun a _ _ z y=>z (own a y),rfl⟩
  · rw [upd_ne (ne_of_none q gp)];exact r.h.ex a o q
  · by_cases z:a=p.1
    · subst z
      cases r.h.ok.uq _ _ _ q ps0
      exact ⟨gp,.inr ⟨_,.inl upd_same⟩⟩
    · exact (r.h.vol a kd q).keep (Ex.refl G) (r.h.vol a kd q).g (upd_ne z)
  · rcases get_set f with ⟨rfl,z⟩ | ⟨nj,z⟩
    · cases z
      refine ⟨_,e1,rfl,fun a m=>?_,?_,?_⟩
      · have m:a∈(nT C ps).as:=eas ▸ m
        refine ⟨(mx a m).1,?_⟩
        by_cases z:a=p.1
        · subst z;rw [upd_same];simp
        · rw [upd_ne z];exact (mx a m).2
      · exact .node (by rw [upd_ne nC];exact hC) (NAll.setRow al nd ep hp w)
      · show (nT C (ps.set j (p.1,p.2.set k d))).as.Nodup
        rw [eas,nT_as];exact List.nodup_cons.mpr ⟨cn,nd⟩
    · obtain ⟨u,w1,w2⟩:=r.slots m dv z
      refine ⟨u,w1,?_⟩
      have q:∀ x,(sl.set i none)[m]?=some (some x) ↔ sl[m]?=some (some x):=fun x=>by rw [List.getElem?_set_ne (fun z=>nj z.symm)]
      cases dv with
      | d z=>exact w2
      | src=>exact w2
      | own o=>obtain ⟨b,q1,q2,q3,q4⟩:=w2;exact ⟨b,q1,q2,q3,q4.keep (Ex.refl G) (upd_ne (nt b q3))⟩
      | bor o=>obtain ⟨b,q1,q3,q4⟩:=w2;exact ⟨b,q1,q3,q4.keep (Ex.refl G) (upd_ne (nt b q3))⟩
      | see o=>exact absurd z (r.nse m o)
      | mu x D gs=>exact absurd ((q _).mpr z) (noMu_get nm)
      | gh x g=>exact absurd ((q _).mpr z) (noMu_getg nm)
  · have g:∀ (m:Nat) (o3:OO),(sl.set i (some (nestD C (ps.set j (p.1,p.2.set k d)))))[m]?=some (some (.own o3))→sl[m]?=some (some (.own o3)):=fun m o3 em=>by
      rcases get_set em with ⟨_,q⟩ | ⟨_,q⟩
      · cases q
      · exact q
    exact r.sep m n o o' b (g _ _ f1) (g _ _ f2) f3 f4
  · rcases get_set f1 with ⟨_,q⟩ | ⟨_,q⟩
    · cases q
    · exact r.bor m o b q f2 (own _ z)
  · rcases get_set f with ⟨_,q⟩ | ⟨_,q⟩
    · cases q
    · exact r.nse m o q
end
section
variable {X:Cx} {W:WX} {o key1 key value:Expr} {tj tk te:TD} {pos pos' pos'':Pos} {i:Nat}
end
section
variable {X:Cx} {W:WX} {e:Expr} {te:TD} {tt:TDT}
end
def bad1 (e:Nat→Nat→D) (i j:Nat):Prop:=match ratOf (e i j) with
  | none=>True
  | some q=>q < 0∨(i=j∧q≠0)
def bad2 (n:Nat) (f:Nat→Nat→Rat) (i j:Nat):Prop:=∃ k,k < n∧f i k + f k j < f i j
def ahead (n i j i' j':Nat):Prop:=i' < n∧j' < n∧(i' < i∨(i'=i∧j' < j))
def FirstW (n:Nat) (e:Nat→Nat→D) (Q:D→Prop):Prop:=
  (∀ i j,i < n→j < n→bad1 e i j→(∀ i' j',ahead n i j i' j'→¬ bad1 e i' j')→Q (.tup [.int (i:Int),.int (j:Int)]))∧
  ((∀ i j,i < n→j < n→¬ bad1 e i j)→∀ f:Nat→Nat→Rat,(∀ i j,i < n→j < n→ratOf (e i j)=some (f i j))→
    (∀ i j,i < n→j < n→bad2 n f i j→(∀ i' j',ahead n i j i' j'→¬ bad2 n f i' j')→Q (.tup [.int (i:Int),.int (j:Int)]))∧((∀ i j,i < n→j < n→¬ bad2 n f i j)→Q .non))
theorem FirstW.mono {n:Nat} {e:Nat→Nat→D} {Q Q':D→Prop} (h:FirstW n e Q) (m:∀ d,Q d→Q' d):FirstW n e Q':=
  ⟨fun i j a b c d=>m _ (h.1 i j a b c d),fun a f b=>⟨fun i j c d x y=>m _ ((h.2 a f b).1 i j c d x y),fun c=>m _ ((h.2 a f b).2 c)⟩⟩
section
variable {P:Program} {w:World} {K:PySem.W.Frag} {mg:Str→Option Value} {base:Heap} {x qual:Str} {params:Arguments} {body:List Stmt} {scope:Scope} {dvs:List V} {kws:List (Str × V)} {fa:Addr} {fd:FuncData} {N:List Str} {k:Nat} {t:TDS}
end
section
variable {X:Cx} {W:WX} {k n:Nat} {f:Addr} {fd:FuncData} {ps ks:List Str} {sp:SpD} {sel:List Sel} {x nm:Str} {p pos kpos:Pos} {e:Expr} {es:List Expr} {kws:List Keyword} {ta tk tk':TDA} {te:TD}
end
section
variable {X:Cx} {W:WX} {k n:Nat} {f C:Addr} {fd:FuncData} {ps ks:List Str} {sp:SpD} {sel:List Sel} {m nm:Str} {p pos apos kpos:Pos} {o e:Expr} {es:List Expr} {kws:List Keyword} {ta tk tk':TDA} {to te:TD} {pl:Sem Bool}
end
section
variable {X:Cx} {W:WX} {k:Nat} {C p g:Addr} {f:Str} {fd:FuncData} {ps:List Str} {sp:SpD} {e:Expr} {te:TD} {pos:Pos}
end
section
variable {X:Cx} {W:WX} {k:Nat} {f:Addr} {fd:FuncData} {ps:List Str} {sp:SpD}
end
end DL
namespace PySem.W
open PySem PySem.Calls PyProof.Rows Builtin
section
variable {prog:Program} {w:World} {A:Around} {E:Value→Shared→Prop} {s:Shared} {K:Frag} {x C L f:Addr} {h₀:Heap} {m:Str→Option Value} {ox:Obj} {od:Option Obj} {name:Str}
end
end PySem.W
namespace DL
open PySem PySem.Spec PyProof.Rows L2
mutual
def dpI:D→Nat
  | .lst ds=>dpIs ds + 1
  | .tup ds=>dpIs ds + 1
  | .non=>0
  | .bl _=>0
  | .int _=>0
  | .str _=>0
  | .ins _ _=>0
  | .dk _=>0
  | .dt _=>0
  | .any=>0
  | .raw _=>0
  | .kt _=>0
def dpIs:List D→Nat
  | []=>0
  | d::r=>max (dpI d) (dpIs r)
end
mutual
def okI (C:Addr) (P:List (Str × D)→Prop):D→Prop
  | .non=>True
  | .bl _=>True
  | .str _=>True
  | .int i=>i.natAbs.log2 < 1920
  | .lst ds=>okIs C P ds
  | .tup ds=>okIs C P ds
  | .ins D fs=>D=C∧P fs
  | .dk _=>False
  | .dt _=>False
  | .any=>False
  | .raw _=>False
  | .kt _=>False
def okIs (C:Addr) (P:List (Str × D)→Prop):List D→Prop
  | []=>True
  | d::r=>okI C P d∧okIs C P r
end
section
variable {X:Cx} {pins:List (Addr × Obj)} {σ:L2.St} {G G' H:Hp} {s:Shared} {C:Addr} {P:List (Str × D)→Prop}
def GdOk (X:Cx) (C:Addr) (P:List (Str × D)→Prop) (G:Hp) (g:List Code) (n:Nat):Prop:=∀ (id:String) (v:Value) (rest:List Value) (kw:List (Str × Value)),Code.builtin id ⟨v::rest,kw⟩∈g→∃ a d,v=.ref a∧DOk X.K G (.ref a) d∧okI C P d∧n < dpI d
theorem GdOk.mono {g:List Code} {n m:Nat} (h:GdOk X C P G g n) (e:Ex G G') (l:m≤n):GdOk X C P G' g m:=fun id v rest kw q=>by
  obtain ⟨a,d,e1,e2,e3,e4⟩:=h id v rest kw q
  exact ⟨a,d,e1,e2.mono e,e3,by omega⟩
theorem GdOk.cons {g:List Code} {n m:Nat} {a:Addr} {d:D} {id:String} {rest:List Value} {kw:List (Str × Value)} (h:GdOk X C P G g n) (w:DOk X.K G (.ref a) d) (o:okI C P d) (l:m < dpI d) (l2:m≤n):GdOk X C P G (.builtin id ⟨.ref a::rest,kw⟩::g) m:=fun id' v rest' kw' q=>by
  rcases List.mem_cons.mp q with e | q
  · cases e
    exact ⟨a,d,rfl,w,o,l⟩
  · exact h.mono (Ex.refl G) l2 id' v rest' kw' q
end
theorem Room.shown {k:Nat} {A:Around} {c:Code} (r:Room (k + 1) A) (hw:c.weight≤1) (hu:(A.under c).units=A.units + 1):Room k (A.under c):=
  ⟨r.hd,by have:=r.dp;show A.depth + c.weight + 3 * k + 5 < _;omega,by have:=r.un;rw [hu];omega⟩
section
variable {X:Cx} {k:Nat} {C f:Addr} {fd:FuncData} {ps:List Str} {sp:SpD} {P:List (Str × D)→Prop} {rp:List (Str × D)→Str}
end
section
variable {X:Cx} {k:Nat} {C f:Addr} {fd:FuncData} {ps:List Str} {sp:SpD} {P:List (Str × D)→Prop} {rp:List (Str × D)→Str}
end
section
variable {g:TDG} {tt:TDT} {te:TD} {vs:List Nat} {Q:List (List D)→DSt→Prop}
end
section
variable {X:Cx} {o e:Expr} {es:List Expr} {to:TE} {t:TA} {name:Str} {apos cpos:Pos} {id:String} {r:V→List V→Hp→VK→Prop}
end
section
variable {K:PySem.W.Frag} {W:WX} {G G' H H':Hp} {so:So} {σ σ':L2.St} {sl sl':DSt} {x:Addr} {ds:List D} {i:Nat}
end
section
variable {X:Cx} {W:WX} {i:Nat} {e:Expr} {te:TD} {tt:TDT}
end
section
variable {X:Cx} {W:WX} {i:Nat} {st:Stmt} {t:TDS}
end
section
variable {X:Cx} {W:WX} {o e:Expr} {te:TD} {apos pos:Pos} {i:Nat}
end
end DL
namespace DL
open PySem PySem.Spec PyProof.Rows L2 PySem.W
section
variable {X:Cx} {W:WX} {k:Nat} {f C:Addr} {sp:SpD} {m:Str} {pos apos:Pos} {o:Expr} {to:TD} {pl:Sem Bool}
end
end DL
namespace DL
open PySem PySem.Spec PyProof.Rows L2
abbrev Ent:=Option Addr × List (List Key × D)
structure WSt where
  rk:D
  sp:List D
  es:List (Str × Ent)
def ownA:List (Str × Ent)→List Addr
  | []=>[]
  | (_,some t,_)::r=>t::ownA r
  | (_,none,_)::r=>ownA r
inductive EAll (K:PySem.W.Frag) (G H:Hp):List (Key × V)→List (Str × Ent)→Prop
  | nil:EAll K G H [] []
  | pub {l:Str} {v:V} {kvs:List (List Key × D)} {vs:List (Key × V)} {es:List (Str × Ent)}:DOk K G v (.dt kvs)→EAll K G H vs es→EAll K G H ((.inr l,v)::vs) ((l,none,kvs)::es)
  | own {l:Str} {t:Addr} {ws:List (List Key × V)} {kvs:List (List Key × D)} {vs:List (Key × V)} {es:List (Str × Ent)}:H t=some (.dT ws)→FAll K G ws kvs→EAll K G H vs es→EAll K G H ((.inr l,.ref t)::vs) ((l,some t,kvs)::es)
section
variable {K:PySem.W.Frag} {G G' H H':Hp}
theorem EAll.keep (e:Ex G G'):∀ {vs:List (Key × V)} {es:List (Str × Ent)},(∀ a∈ownA es,H' a=H a)→EAll K G H vs es→EAll K G' H' vs es
  | _,_,_,.nil=>.nil
  | _,_,k,.pub d r=>.pub (d.mono e) (EAll.keep e k r)
  | _,_,k,.own h f r=>.own (by rw [k _ (List.mem_cons_self ..)];exact h) (f.mono e) (EAll.keep e (fun a m=>k a (List.mem_cons_of_mem _ m)) r)
theorem EAll.there:∀ {vs:List (Key × V)} {es:List (Str × Ent)},EAll K G H vs es→∀ a∈ownA es,∃ ws,H a=some (.dT ws)
  | _,_,.nil,a,m=>by cases m
  | _,_,.pub _ r,a,m=>r.there a m
  | _,_,.own h _ r,a,m=>by
    rcases List.mem_cons.mp m with rfl | m
    · exact ⟨_,h⟩
    · exact r.there a m
theorem EAll.keys:∀ {vs:List (Key × V)} {es:List (Str × Ent)},EAll K G H vs es→(vs.map fun kv=>kV kv.1)=(es.map (·.1)).map V.str
  | _,_,.nil=>rfl
  | _,_,.pub _ r=>by rw [List.map_cons,List.map_cons,List.map_cons,r.keys];rfl
  | _,_,.own _ _ r=>by rw [List.map_cons,List.map_cons,List.map_cons,r.keys];rfl
end
section
variable {K:PySem.W.Frag} {G H:Hp}
end
section
variable {K:PySem.W.Frag} {W:WX} {G G1 H H1:Hp} {so:So} {σ σ1:L2.St} {sl s1:DSt} {i:Nat} {x a:Addr} {g g':GR} {o:HO}
variable {w tb CW:Addr} {st:WSt}
end
section
variable {X:Cx} {W:WX} {o key value:Expr} {tk te:TD} {pos pos' p:Pos} {i:Nat} {CW:Addr}
end
abbrev SpW:=List DV→WSt→(DV→WSt→Prop)→(Value→List (Str × D)→WSt→Prop)→Prop
section
variable {K:PySem.W.Frag} {G G' H H':Hp} {so:So} {as:List Addr} {kd:Addr→Addr} {v:V} {dv:DV}
inductive AsOk (K:PySem.W.Frag) (G:Hp) (so:So) (H:Hp):List V→List DV→Prop
  | nil:AsOk K G so H [] []
  | cons {v:V} {d:DV} {vs:List V} {ds:List DV}:VOk K G so H v d→(∀ o,d≠.own o)→AsOk K G so H vs ds→AsOk K G so H (v::vs) (d::ds)
  | gh {x:Addr} {r:GR} {vs:List V} {ds:List DV}:r.as=[]→r.R K G H→AsOk K G so H vs ds→AsOk K G so H (.ref x::vs) (.gh x r::ds)
theorem AsOk.length:∀ {vs:List V} {ds:List DV},AsOk K G so H vs ds→vs.length=ds.length
  | _,_,.nil=>rfl
  | _,_,.cons _ _ t=>congrArg (· + 1) t.length
  | _,_,.gh _ _ t=>congrArg (· + 1) t.length
end
section
variable {K:PySem.W.Frag} {W:WX} {G G' H H':Hp} {so:So} {σ:L2.St} {sl:DSt} {x w tb CW:Addr} {g g':GR} {v:V} {dv:DV} {st st':WSt} {i:Nat}
end
section
variable {X:Cx} {W:WX} {k n:Nat} {f CW:Addr} {fd:FuncData} {ps:List Str} {sp:SpW} {sel:List Sel} {m:Str} {pos apos:Pos} {o e:Expr} {es:List Expr} {ta:TDA} {pl:Sem Bool} {i:Nat}
end
end DL
namespace DL.DCT
open PySem PySem.Spec PyProof.Rows L2 DL
section
variable {prog:Program} {w:World} {A:Around} {R:Result→Shared→Prop} {s:Shared} {kx vx t i:Expr} {ifs:List Expr} {gens:List Comprehension} {scope:Scope} {pos:Pos} {it:Value} {D:Addr} {env:Env} {d:Nat}
end
section
variable {Y:Cx} {kx vx:Expr} {gens:List Comprehension} {scope:Scope} {pos:Pos} {D:Addr}
end
section
variable {X:Cx}
end
abbrev TA:=List (List Key × D)
abbrev DBody:=(TA→DSt→Prop)→TA→DSt→Prop
section
variable {body:DBody} {g:TDG} {tt:TDT} {vs:List Nat} {F:TA→DSt→Prop} {acc:TA} {sl:DSt}
end
structure CSt (K:PySem.W.Frag) (C:Addr) (n:Nat) (G:Hp) (so:So) (σ:L2.St) (H:Hp) (sl:DSt) (us:List (List Key × V)) (acc:TA):Prop where
  rep:Rep K G so σ H sl
  hC:H C=some (.dT us)
  gC:G C=none
  nt:so.Nt C
  no:¬ Own sl σ C
  al:FAll K G us acc
  nb:∀ (j:Nat) (o:OO),sl[j]?=some (some (.bor o))→σ[j]?=some (some (.ref C))→False
  ln:σ.length=n
section
variable {K:PySem.W.Frag} {C:Addr} {n:Nat} {G G' G2:Hp} {so:So} {σ σ' σ2:L2.St} {H H' H2:Hp} {sl sl' sl2:DSt} {us:List (List Key × V)} {acc:TA}
theorem CSt.wipe (c:CSt K C n G so σ H sl us acc) (vs:List Nat):CSt K C n G so (L2.wipe σ vs) H (wipeD sl vs) us acc where
  rep:=c.rep.wipe vs
  hC:=c.hC
  gC:=c.gC
  nt:=c.nt
  no:=fun z=>c.no (own_wipe z)
  al:=c.al
  nb:=fun j o e1 e2=>c.nb j o (wipeD_some e1).1 (wipe_some e2).1
  ln:=(wipe_length σ vs).trans c.ln
end
section
variable {K:PySem.W.Frag} {n:Nat} {C:Addr}
end
section
variable {X:Cx} {W:WX} {kx vx tg iter:Expr} {ifs:List Expr} {scope:Scope} {own:List (Str × Nat)} {pos:Pos} {ti:TDI} {g':TG} {g:TDG} {tt:TDT} {tk tv:TD} {ix:List Nat} {r:List ClX}
end
section
variable {X:Cx} {W:WX} {kx vx tg iter:Expr} {ifs:List Expr} {scope:Scope} {own:List (Str × Nat)} {pos:Pos} {ti:TDI} {g':TG} {g:TDG} {tt:TDT} {tk tv:TD} {ix:List Nat} {r:List ClX}
end
section
variable {X:Cx} {W:WX} {kx vx tg iter tg1 iter1 tg2 iter2:Expr} {ifs ifs1 ifs2:List Expr} {scope:Scope} {own:List (Str × Nat)} {pos:Pos} {ti ti1 ti2:TDI} {g' g1' g2':TG} {g g1 g2:TDG} {tt tt1 tt2:TDT} {tk tv:TD} {ix ix1 ix2:List Nat}
end
end DL.DCT
namespace DL
open PySem PySem.Spec PyProof.Rows L2
section
variable {K:PySem.W.Frag} {G H:Hp}
end
section
variable {K:PySem.W.Frag} {G H:Hp}
end
section
variable {X:Cx} {W:WX} {o key value:Expr} {tk te:TD} {pos pos':Pos} {i j:Nat} {CW:Addr}
end
end DL
namespace DL
open PySem PySem.Spec PyProof.Rows L2 PySem.W PySem.Calls
def cellP (a:Addr) (v:V):Heap→Prop:=fun h=>∃ u,RelV v u∧h.IsCell a (some u)
abbrev CellHO (o:Obj) (a:Addr) (v:V):HO:=.frz o (.ext (cellP a v))
inductive CellsIn (K:PySem.W.Frag) (G:Hp):List (Str × Addr)→List (Str × D)→Prop
  | nil:CellsIn K G [] []
  | cons {x:Str} {a:Addr} {o:Obj} {v:V} {d:D} {cl:List (Str × Addr)} {fv:List (Str × D)}:G a=some (CellHO o a v)→DOk K G v d→CellsIn K G cl fv→CellsIn K G ((x,a)::cl) ((x,d)::fv)
section
variable {K:PySem.W.Frag} {G G1 H H1:Hp} {cs:List Addr} {so:So}
end
section
variable {P:Program} {wd:World} {H H1:Hp} {h h':Heap} {cs:List Addr} {fs:List Addr}
end
section
variable {P:Program} {wd:World} {K:PySem.W.Frag} {mg:Str→Option Value} {base:Heap} {N ps fn:List Str} {q:Str} {scope:Scope} {cl:List (Str × Addr)} {f c':Addr} {A:Around} {outer:List Env} {s:Shared} {H:Hp} {E:XK} {us:List Value} {vs cvs:List V} {h1:Heap} {tk:Nat}
end
theorem CellsIn.mono {K:PySem.W.Frag} {G G1:Hp} (e:Ex G G1):∀ {cl:List (Str × Addr)} {fv:List (Str × D)},CellsIn K G cl fv→CellsIn K G1 cl fv
  | _,_,.nil=>.nil
  | _,_,.cons h d r=>.cons (e _ _ h) (d.mono e) (CellsIn.mono e r)
theorem CellsIn.names {K:PySem.W.Frag} {G:Hp}:∀ {cl:List (Str × Addr)} {fv:List (Str × D)},CellsIn K G cl fv→cl.map (·.1)=fv.map (·.1)
  | _,_,.nil=>rfl
  | _,_,.cons h d r=>by rw [List.map_cons,List.map_cons,r.names]
section
variable {P:Program} {wd:World} {K:PySem.W.Frag} {mg:Str→Option Value} {base:Heap} {N ps fn:List Str} {q:Str} {params:Arguments} {body:Expr} {scope:Scope} {f:Addr} {k:Nat} {te:TD} {fv:List (Str × D)} {G:Hp}
end
section
variable {X:Cx} {W:WX} {x:Str} {j k:Nat} {e:Expr} {es:List Expr} {ta:TDA} {p pos:Pos}
end
section
variable {K:PySem.W.Frag} {G H:Hp} {so:So}
end
inductive CapD (sl:DSt):List (Str × Nat)→List (Str × D)→Prop
  | nil:CapD sl [] []
  | cons {x:Str} {j:Nat} {d:D} {ix:List (Str × Nat)} {fv:List (Str × D)}:sl[j]?=some (some (.d d))→CapD sl ix fv→CapD sl ((x,j)::ix) ((x,d)::fv)
theorem CapD.names {sl:DSt}:∀ {ix:List (Str × Nat)} {fv:List (Str × D)},CapD sl ix fv→fv.map (·.1)=ix.map (·.1)
  | _,_,.nil=>rfl
  | _,_,.cons _ r=>by rw [List.map_cons,List.map_cons,r.names]
section
variable {X:Cx} {pins:List (Addr × Obj)} {σ:L2.St} {H G:Hp} {s:Shared} {so:So} {sl:DSt}
end
section
variable {X:Cx} {W:WX} {k j i:Nat} {f0 f c' w tb CW:Addr} {fd:FuncData} {ps ps0 N fn:List Str} {sp:SpW} {pins:List (Addr × Obj)} {σ:L2.St} {H G:Hp} {so:So} {sl:DSt} {s:Shared} {Q:VK} {u:Value} {x:V} {d:D} {Q':DV→DSt→Prop} {st:WSt} {q:Str} {params:Arguments} {body:Expr} {scope:Scope} {tl:TD} {ix:List (Str × Nat)} {fv:List (Str × D)}
end
section
variable {X:Cx} {W:WX} {k j i:Nat} {f0 CW c:Addr} {fd:FuncData} {ps ps0 N fn:List Str} {sp:SpW} {m:Str} {params:Arguments} {body o e:Expr} {scope:Scope} {tl te:TD} {ix:List (Str × Nat)} {pos apos lpos:Pos} {pl:Sem Bool}
end
abbrev SpK:=List DV→(D→Prop)→Prop
theorem AsOk.drop {K:PySem.W.Frag} {G H:Hp} {so:So}:∀ {vs:List V} {ds:List DV},AsOk K G so H vs ds→AsOk K G so.drop H vs ds
  | _,_,.nil=>.nil
  | _,_,.cons h n t=>.cons h.drop n (AsOk.drop t)
  | _,_,.gh z h t=>.gh z h (AsOk.drop t)
section
variable {X:Cx} {W:WX} {k j:Nat} {f0 f c' c:Addr} {fd:FuncData} {ps ps0 N fn:List Str} {sp:SpK} {pins:List (Addr × Obj)} {σ:L2.St} {H G:Hp} {so:So} {sl:DSt} {s:Shared} {Q:VK} {u:Value} {x:V} {d:D} {Q':DV→DSt→Prop} {q:Str} {params:Arguments} {body:Expr} {scope:Scope} {tl te:TD} {ix:List (Str × Nat)} {fv:List (Str × D)}
variable {pos lpos p:Pos} {e:Expr} {nm:Str}
end
end DL
namespace DL
open PySem PySem.Spec PyProof.Rows L2
abbrev ES:=List (Str × Ent)
def Orph (K:PySem.W.Frag) (G:Hp) (so:So) (σ:L2.St) (H:Hp) (sl:DSt) (tb:Addr) (es:ES):Prop:=∃ ents,H tb=some (.dK ents)∧EAll K G H ents es∧(∀ a∈tb::ownA es,G a=none∧so.Nt a∧¬ Own sl σ a∧H a≠none)∧(tb::ownA es).Nodup
section
variable {K:PySem.W.Frag} {W:WX} {G G1 H H1:Hp} {so:So} {σ σ1:L2.St} {sl s1:DSt} {tb:Addr} {es:ES} {i:Nat} {v:V}
theorem Orph.step (o:Orph K G so σ H sl tb es) (p:PostS K G so σ H sl σ1 H1 G1 s1):Orph K G1 so σ1 H1 s1 tb es:=by
  obtain ⟨ents,h1,h2,h3,h4⟩:=o
  have same:∀ a∈tb::ownA es,H1 a=H a:=fun a m=>by
    obtain ⟨_,s,w,n⟩:=h3 a m
    obtain ⟨u,e⟩:=Option.ne_none_iff_exists'.mp n
    rw [p.keep a u e s w,e]
  refine ⟨ents,by rw [same _ (List.mem_cons_self ..)];exact h1,h2.keep p.ex (fun a m=>same a (List.mem_cons_of_mem _ m)),fun a m=>?_,h4⟩
  obtain ⟨g,s,w,n⟩:=h3 a m
  exact ⟨p.frm a n g s w,s,p.sub a n s w,by rw [same a m];exact n⟩
end
abbrev TGS:=(ES→DSt→Prop)→ES→DSt→Prop
structure OBase where
  G:Hp
  so:So
  σ:L2.St
  H:Hp
  sl:DSt
  tb:Addr
section
variable {K:PySem.W.Frag} {G H:Hp}
end
section
variable {X:Cx} {W:WX} {B:OBase} {st:Stmt} {rest:List Stmt} {t u:TGS} {td:TDS}
variable {i:Nat} {te tk:TD} {o key value:Expr} {pos pos':Pos}
end
abbrev SpWI:=List DV→(WSt→Prop)→Prop
section
variable {K:PySem.W.Frag} {W:WX} {G G1 H H1 H2:Hp} {so:So} {σ σ1:L2.St} {sl s1:DSt} {as:List Addr} {kd:Addr→Addr} {i:Nat} {x:Addr} {g:GR} {d:D}
end
section
variable {K:PySem.W.Frag} {G G2 H H2:Hp}
theorem EAll.tree (ex:Ex G G2):∀ {vs:List (Key × V)} {es:ES},(∀ a∈ownA es,∃ od u,H a=some u∧G2 a=some (.frz od u))→EAll K G H vs es→FAll K G2 vs (es.map fun p=>((.inr p.1:Key),D.dt p.2.2))
  | _,_,_,.nil=>.nil
  | _,_,h,.pub d r=>.cons (d.mono ex) (EAll.tree ex h r)
  | _,_,h,.own e f r=>by
    obtain ⟨od,u,e1,e2⟩:=h _ (List.mem_cons_self ..)
    rw [e] at e1;cases e1
    exact .cons (.dt e2 (f.mono ex)) (EAll.tree ex (fun a m=>h a (List.mem_cons_of_mem _ m)) r)
end
section
variable {X:Cx} {W:WX} {k i:Nat} {f CW w tb:Addr} {fd:FuncData} {ps:List Str} {sp:SpWI} {te:TD} {e:Expr} {nm y:Str} {p py pos spos:Pos} {rest:List Stmt} {u t:TDS} {n:Nat}
end
section
variable {prog:Program} {w:World} {K:Type} [DecidableEq K] {knd:KeyKind prog w K} {A:Around} {E:Value→Shared→Prop} {s:Shared}
end
section
variable {X:Cx} {W:WX} {k i:Nat} {f CW:Addr} {fd:FuncData} {ps:List Str} {sp:SpWI} {te:TD} {e:Expr} {nm y:Str} {p py pos spos:Pos} {rest:List Stmt} {u t:TDS} {n:Nat}
end
section
variable {X:Cx} {W:WX} {B:OBase} {i:Nat} {te tk:TD} {o key value:Expr} {pos pos':Pos} {tb:Addr}
end
end DL
namespace PySem
namespace HandSPX
section
variable {prog:Program} {w:World} {A:Around} {E:Value→Shared→Prop} {R:Result→Shared→Prop} {h:Heap} {g:Array GenState} {d:Drawn} {t:Nat} {os:OsState} {nm q:Str} {C N fI:Addr} {bs bm bmB rest:List Value} {hdct ab:Bool} {sn:List Str} {sub:List Value} {col:Option Bool} {dd:Option Addr} {k0 k1 k2 k3 k5:Option Value} {B newId initId:String} {kw:List (Str × Value)}
end
end HandSPX
end PySem
namespace DL
open PySem PySem.Spec PyProof.Rows L2
section
variable {prog:Program} {w:World} {A:Around} {R:Result→Shared→Prop} {s:Shared} {K:PySem.W.Frag} {mg mb:Str→Option Value} {file:Str} {C fI e t:Addr} {params:Arguments} {body:List Stmt} {scope:Scope} {B newId initId:String} {bmB:List Value} {self:Str} {ps:List Str} {fs:List (Str × (Str ⊕ Str))} {us:List Value} {vs:List V} {val:Str→V}
end
def ExV (a C d:Addr):HO:=.ext fun h=>∃ t,h.get? a=some (PySem.W.excObj C t (some d) .none)
section
variable {X:Cx} {file:Str} {C fI:Addr} {params:Arguments} {body:List Stmt} {scope:Scope} {B newId initId:String} {bmB:List Value} {self:Str} {ps:List Str} {fs:List (Str × (Str ⊕ Str))}
end
structure XcOk (K:PySem.W.Frag) (C:Addr):Prop where
  x:XfC K C
  no:∀ f∈errFields,PySem.W.findIn K (.ref C) f=some none
  ha:PySem.W.findIn K (.ref C) "__class__"=some (some (.builtin "object.__class__"))
  hn:PySem.W.specialIn K (.builtin "object.__class__") "__get__"=some (some (.builtin "getset_descriptor.__get__"))
  ht:PySem.W.takesIn K (.builtin "object.__class__")=some true
  hm:PySem.W.mroIn K C (.type "object")=some true
def ExIn (K:PySem.W.Frag) (G:Hp) (a C:Addr) (fs:List (Str × D)):Prop:=XcOk K C∧∃ d vs,G a=some (ExV a C d)∧G d=some (.xd vs)∧FAll K G vs fs
theorem ExIn.mono {K:PySem.W.Frag} {G G':Hp} {a C:Addr} {fs:List (Str × D)} (e:Ex G G'):ExIn K G a C fs→ExIn K G' a C fs:=fun ⟨h,d,vs,h1,h2,h3⟩=>⟨h,d,vs,e _ _ h1,e _ _ h2,h3.mono e⟩
abbrev XRow:=Addr × Addr × List (Str × D)
section
variable {K:PySem.W.Frag} {W:WX} {G G1 H H1:Hp} {so:So} {σ:L2.St} {sl s1:DSt}
end
section
variable {X:Cx} {W:WX} {C:Addr} {ps ks:List Str} {fs:List (Str × (Str ⊕ Str))} {n:Nat} {x:Str} {p pos:Pos} {e:Expr} {es:List Expr} {kws:List Keyword} {ta tk:TDA}
end
section
variable {K:PySem.W.Frag} {W:WX} {G G1 H H1:Hp} {so:So} {σ:L2.St} {sl s1:DSt} {i:Nat} {x:Addr} {g:GR} {y z:DV}
end
section
variable {X:Cx} {W:WX} {i j k:Nat} {x nm:Str} {e o ce:Expr} {es:List Expr} {p pos pos' lpos:Pos} {t:DSt→(List XRow→DSt→Prop)→Prop} {te:TD}
end
section
variable {X:Cx} {W:WX} {o o2 value key1 key2:Expr} {te:TD} {pos pos1 pos2 tpos:Pos} {i kt:Nat} {n1 n2:Int}
end
section
variable {K:PySem.W.Frag} {sl s1:DSt} {E:XP} {i j k n m:Nat} {p a C:Addr} {fs:List (Str × D)} {rows:List XRow} {r:XRow} {d:D} {b:Bool} {f:Str} {cv:Value} {Q:DV→DSt→Prop} {te:TD}
end
inductive FT where
  | leaf (d:D)
  | lst (a:Addr) (xs:List FT)
  | ins (a C:Addr) (fs:List (Str × FT))
mutual
def FT.as:FT→List Addr
  | .leaf _=>[]
  | .lst a xs=>a::FT.asL xs
  | .ins a _ fs=>a::FT.asF fs
def FT.asL:List FT→List Addr
  | []=>[]
  | x::r=>FT.as x++FT.asL r
def FT.asF:List (Str × FT)→List Addr
  | []=>[]
  | (_,x)::r=>FT.as x++FT.asF r
end
mutual
def FT.d:FT→D
  | .leaf d=>d
  | .lst _ xs=>.lst (FT.dL xs)
  | .ins _ C fs=>.ins C (FT.dF fs)
def FT.dL:List FT→List D
  | []=>[]
  | x::r=>FT.d x::FT.dL r
def FT.dF:List (Str × FT)→List (Str × D)
  | []=>[]
  | (f,x)::r=>(f,FT.d x)::FT.dF r
end
mutual
inductive FOk (K:PySem.W.Frag) (G H:Hp):V→FT→Prop
  | leaf {v:V} {d:D}:DOk K G v d→FOk K G H v (.leaf d)
  | lst {a:Addr} {vs:List V} {xs:List FT}:H a=some (.lst vs)→FOkL K G H vs xs→FOk K G H (.ref a) (.lst a xs)
  | ins {a C dx:Addr} {vs:List (Str × V)} {fs:List (Str × FT)}:H a=some (.ins C dx vs)→G dx=some (.own a)→FOkF K G H vs fs→FOk K G H (.ref a) (.ins a C fs)
inductive FOkL (K:PySem.W.Frag) (G H:Hp):List V→List FT→Prop
  | nil:FOkL K G H [] []
  | cons {v:V} {x:FT} {vs:List V} {xs:List FT}:FOk K G H v x→FOkL K G H vs xs→FOkL K G H (v::vs) (x::xs)
inductive FOkF (K:PySem.W.Frag) (G H:Hp):List (Str × V)→List (Str × FT)→Prop
  | nil:FOkF K G H [] []
  | cons {f:Str} {v:V} {x:FT} {vs:List (Str × V)} {fs:List (Str × FT)}:FOk K G H v x→FOkF K G H vs fs→FOkF K G H ((f,v)::vs) ((f,x)::fs)
end
section
variable {K:PySem.W.Frag} {G G' H H':Hp}
mutual
theorem FOk.keep (e:Ex G G'):∀ {v:V} {t:FT},(∀ a∈t.as,H' a=H a)→FOk K G H v t→FOk K G' H' v t
  | _,.leaf _,_,.leaf h=>.leaf (h.mono e)
  | .ref a,.lst _ _,k,.lst h r=>.lst (by rw [k a (by rw [FT.as];exact List.mem_cons_self ..)];exact h) (FOkL.keep e (fun b hb=>k b (by rw [FT.as];exact List.mem_cons_of_mem _ hb)) r)
  | .ref a,.ins _ _ _,k,.ins h g r=>.ins (by rw [k a (by rw [FT.as];exact List.mem_cons_self ..)];exact h) (e _ _ g) (FOkF.keep e (fun b hb=>k b (by rw [FT.as];exact List.mem_cons_of_mem _ hb)) r)
theorem FOkL.keep (e:Ex G G'):∀ {vs:List V} {ts:List FT},(∀ a∈FT.asL ts,H' a=H a)→FOkL K G H vs ts→FOkL K G' H' vs ts
  | _,_,_,.nil=>.nil
  | _,_,k,.cons h r=>.cons (FOk.keep e (fun b hb=>k b (by rw [FT.asL];exact List.mem_append_left _ hb)) h) (FOkL.keep e (fun b hb=>k b (by rw [FT.asL];exact List.mem_append_right _ hb)) r)
theorem FOkF.keep (e:Ex G G'):∀ {vs:List (Str × V)} {fs:List (Str × FT)},(∀ a∈FT.asF fs,H' a=H a)→FOkF K G H vs fs→FOkF K G' H' vs fs
  | _,_,_,.nil=>.nil
  | _,_,k,.cons h r=>.cons (FOk.keep e (fun b hb=>k b (by rw [FT.asF];exact List.mem_append_left _ hb)) h) (FOkF.keep e (fun b hb=>k b (by rw [FT.asF];exact List.mem_append_right _ hb)) r)
end
mutual
theorem FOk.pub (e:Ex G G'):∀ {v:V} {t:FT},(∀ a∈t.as,G' a=H a)→FOk K G H v t→DOk K G' v t.d
  | _,.leaf _,_,.leaf h=>by rw [FT.d];exact h.mono e
  | .ref a,.lst _ _,k,.lst h r=>by
    rw [FT.d]
    exact .lst (by rw [k a (by rw [FT.as];exact List.mem_cons_self ..)];exact h) (FOkL.pub e (fun b hb=>k b (by rw [FT.as];exact List.mem_cons_of_mem _ hb)) r)
  | .ref a,.ins _ _ _,k,.ins h g r=>by
    rw [FT.d]
    exact .ins (by rw [k a (by rw [FT.as];exact List.mem_cons_self ..)];exact h) (e _ _ g) (FOkF.pub e (fun b hb=>k b (by rw [FT.as];exact List.mem_cons_of_mem _ hb)) r)
theorem FOkL.pub (e:Ex G G'):∀ {vs:List V} {ts:List FT},(∀ a∈FT.asL ts,G' a=H a)→FOkL K G H vs ts→DAll K G' vs (FT.dL ts)
  | _,_,_,.nil=>by rw [FT.dL];exact .nil
  | _,_,k,.cons h r=>by
    rw [FT.dL]
    exact .cons (FOk.pub e (fun b hb=>k b (by rw [FT.asL];exact List.mem_append_left _ hb)) h) (FOkL.pub e (fun b hb=>k b (by rw [FT.asL];exact List.mem_append_right _ hb)) r)
theorem FOkF.pub (e:Ex G G'):∀ {vs:List (Str × V)} {fs:List (Str × FT)},(∀ a∈FT.asF fs,G' a=H a)→FOkF K G H vs fs→FAll K G' vs (FT.dF fs)
  | _,_,_,.nil=>by rw [FT.dF];exact .nil
  | _,_,k,.cons h r=>by
    rw [FT.dF]
    exact .cons (FOk.pub e (fun b hb=>k b (by rw [FT.asF];exact List.mem_append_left _ hb)) h) (FOkF.pub e (fun b hb=>k b (by rw [FT.asF];exact List.mem_append_right _ hb)) r)
end
abbrev LiA (H:Hp) (a:Addr):Prop:=(∃ vs,H a=some (.lst vs))∨∃ C dx vs,H a=some (.ins C dx vs)
mutual
theorem FOk.li:∀ {v:V} {t:FT},FOk K G H v t→∀ a∈t.as,LiA H a
  | _,_,.leaf _,a,m=>by rw [FT.as] at m;cases m
  | _,_,.lst h r,b,m=>by
    rw [FT.as] at m
    rcases List.mem_cons.mp m with m | m
    · subst m;exact .inl ⟨_,h⟩
    · exact FOkL.li r b m
  | _,_,.ins h _ r,b,m=>by
    rw [FT.as] at m
    rcases List.mem_cons.mp m with m | m
    · subst m;exact .inr ⟨_,_,_,h⟩
    · exact FOkF.li r b m
theorem FOkL.li:∀ {vs:List V} {ts:List FT},FOkL K G H vs ts→∀ a∈FT.asL ts,LiA H a
  | _,_,.nil,a,m=>by rw [FT.asL] at m;cases m
  | _,_,.cons h r,b,m=>by
    rw [FT.asL] at m
    rcases List.mem_append.mp m with m | m
    · exact FOk.li h b m
    · exact FOkL.li r b m
theorem FOkF.li:∀ {vs:List (Str × V)} {fs:List (Str × FT)},FOkF K G H vs fs→∀ a∈FT.asF fs,LiA H a
  | _,_,.nil,a,m=>by rw [FT.asF] at m;cases m
  | _,_,.cons h r,b,m=>by
    rw [FT.asF] at m
    rcases List.mem_append.mp m with m | m
    · exact FOk.li h b m
    · exact FOkF.li r b m
end
theorem LiA.there {a:Addr} (h:LiA H a):H a≠none:=by
  rcases h with ⟨_,e⟩ | ⟨_,_,_,e⟩<;>(rw [e];simp)
theorem FOkL.len:∀ {vs:List V} {ts:List FT},FOkL K G H vs ts→vs.length=ts.length
  | _,_,.nil=>rfl
  | _,_,.cons _ r=>congrArg (· + 1) r.len
theorem FOkL.app:∀ {vs ws:List V} {ds es:List FT},FOkL K G H vs ds→FOkL K G H ws es→FOkL K G H (vs++ws) (ds++es)
  | _,_,_,_,.nil,s=>s
  | _,_,_,_,.cons h t,s=>.cons h (FOkL.app t s)
theorem FOkL.leaves:∀ {vs:List V} {ds:List D},DAll K G vs ds→FOkL K G H vs (ds.map .leaf)
  | _,_,.nil=>.nil
  | _,_,.cons h t=>.cons (.leaf h) (FOkL.leaves t)
end
theorem asLF_leaves:∀ (ds:List D),FT.asL (ds.map .leaf)=[]
  | []=>by rw [List.map_nil,FT.asL]
  | d::r=>by rw [List.map_cons,FT.asL,FT.as,asLF_leaves r];rfl
theorem dLF_leaves:∀ (ds:List D),FT.dL (ds.map .leaf)=ds
  | []=>by rw [List.map_nil,FT.dL]
  | d::r=>by rw [List.map_cons,FT.dL,FT.d,dLF_leaves r]
theorem asLF_app:∀ (xs ys:List FT),FT.asL (xs++ys)=FT.asL xs++FT.asL ys
  | [],ys=>by rw [FT.asL];rfl
  | x::r,ys=>by rw [List.cons_append,FT.asL,FT.asL,asLF_app r ys,List.append_assoc]
abbrev TDN:=DSt→(FT→DSt→Prop)→XP→Prop
structure PostN (K:PySem.W.Frag) (G:Hp) (so:So) (σ:L2.St) (H:Hp) (sl:DSt) (v:V) (H' G':Hp) (t:FT) (sl':DSt):Prop extends Post K G so σ H sl H' G' sl' where
  ok:FOk K G' H' v t
  nod:t.as.Nodup
  own:∀ a∈t.as,so.Nt a∧G' a=none∧¬ Own sl' σ a
  new:∀ a∈t.as,H a=none∨Own sl σ a
  bor:∀ a∈t.as,∀ (i:Nat) (o:OO),sl'[i]?=some (some (.bor o))→σ[i]?=some (some (.ref a))→False
def upN (K:PySem.W.Frag) (W:WX) (t:TDN):TE:=fun σ H R=>∃ G so sl Q E,Rep K G so σ H sl∧t sl Q E∧(∀ v H' G' x sl',PostN K G so σ H sl v H' G' x sl'→Q x sl'→R v H')∧XOk K W G so σ H sl E
def DN (X:Cx) (W:WX) (e:Expr) (t:TDN):Prop:=PE X e (upN X.K W t)
def dNown (te:TD):TDN:=fun sl Q E=>te sl (fun x s=>∃ ds,x=.own (.lst ds)∧∀ a,Q (.lst a (ds.map .leaf)) s) E
def dNleaf (te:TD):TDN:=fun sl Q E=>te sl (fun x s=>∃ d,x=.d d∧Q (.leaf d) s) E
section
variable {X:Cx} {W:WX} {e:Expr} {te:TD}
theorem dn_own (h:DE X W e te):DN X W e (dNown te):=pe_imp h fun σ H R ⟨G,so,sl,Q,E,rep,q,hq,hx⟩=>⟨G,so,sl,_,E,rep,q,fun v H' G' dv s p ⟨ds,ed,z⟩=>by
  subst ed
  obtain ⟨a,rfl,g,s1,vs,e1,al⟩:=p.val
  have sa:=p.sepv a _ (.inl rfl) rfl
  have m:∀ b∈(FT.lst a (ds.map .leaf)).as,b=a:=fun b m=>by
    rw [FT.as,asLF_leaves] at m;exact List.mem_singleton.mp m
  exact hq _ H' G' _ s { p.toPost with ok:=.lst e1 (FOkL.leaves al),nod:=by rw [FT.as,asLF_leaves];simp,own:=fun b hb=>by rw [m b hb];exact ⟨s1,g,sa⟩,new:=fun b hb=>by rw [m b hb];exact p.new a _ rfl rfl,bor:=fun b hb i o e1 e2=>by rw [m b hb] at e2;exact p.nbs a _ i o rfl rfl e1 e2 } (z a),hx⟩
theorem dn_leaf (h:DE X W e te):DN X W e (dNleaf te):=pe_imp h fun σ H R ⟨G,so,sl,Q,E,rep,q,hq,hx⟩=>⟨G,so,sl,_,E,rep,q,fun v H' G' dv s p ⟨d,ed,z⟩=>by
  subst ed
  have m:∀ b,b∉(FT.leaf d).as:=fun b m=>by rw [FT.as] at m;cases m
  exact hq v H' G' _ s { p.toPost with ok:=.leaf p.val,nod:=by rw [FT.as];exact .nil,own:=fun b hb=>absurd hb (m b),new:=fun b hb=>absurd hb (m b),bor:=fun b hb=>absurd hb (m b) } z,hx⟩
end
structure NstN (K:PySem.W.Frag) (G H:Hp) (so:So) (sl0 sl:DSt) (σ:L2.St) (H1:Hp) (C:Addr) (us:List V) (ts:List FT):Prop where
  ok:FOkL K G H us ts
  own:∀ a∈FT.asL ts,so.Nt a∧G a=none∧a≠C∧¬ Own sl σ a
  new:∀ a∈FT.asL ts,H1 a=none∨Own sl0 σ a
  nd:(FT.asL ts).Nodup
section
variable {K:PySem.W.Frag} {G G' H H' H1:Hp} {so:So} {sl0 sl sl':DSt} {σ:L2.St} {C:Addr} {us:List V} {ts:List FT}
theorem NstN.there (h:NstN K G H so sl0 sl σ H1 C us ts) (a:Addr) (m:a∈FT.asL ts):H a≠none:=by
  exact (FOkL.li h.ok a m).there
theorem NstN.step (h:NstN K G H so sl0 sl σ H1 C us ts) (e:Ex G G') (k:∀ a o,H a=some o→so.Nt a→H' a=some o) (f:∀ a,H a≠none→G a=none→so.Nt a→¬ Own sl σ a→G' a=none) (s:∀ a,Own sl' σ a→Own sl σ a):NstN K G' H' so sl0 sl' σ H1 C us ts:=
  ⟨h.ok.keep e (fun a m=>keep_ne k (h.there a m) (h.own a m).1),fun a m=>by
    obtain ⟨m1,m2,m3,m4⟩:=h.own a m
    exact ⟨m1,f _ (h.there a m) m2 m1 m4,m3,fun z=>m4 (s _ z)⟩,h.new,h.nd⟩
theorem NstN.add {v:V} {t:FT} {u:HO} (h:NstN K G H so sl0 sl σ H1 C us ts) (ni:∀ a∈FT.asL ts,a∉t.as) (ok:FOk K G H v t) (nt:t.as.Nodup) (ow:∀ a∈t.as,a≠C∧so.Nt a∧G a=none∧(H1 a=none∨Own sl0 σ a)∧¬ Own sl σ a) :
    NstN K G (upd H C u) so sl0 sl σ H1 C (us++[v]) (ts++[t]):=by
  have e1:FT.asL (ts++[t])=FT.asL ts++t.as:=by rw [asLF_app,FT.asL,FT.asL,List.append_nil]
  refine ⟨?_,fun a m=>?_,fun a m=>?_,?_⟩
  · refine FOkL.keep (Ex.refl G) (fun b m=>upd_ne ?_) (h.ok.app (.cons ok .nil))
    rw [e1] at m
    rcases List.mem_append.mp m with m | m
    · exact (h.own b m).2.2.1
    · exact (ow b m).1
  · rw [e1] at m
    rcases List.mem_append.mp m with m | m
    · exact h.own a m
    · obtain ⟨o1,o2,o3,o4,o5⟩:=ow a m
      exact ⟨o2,o3,o1,o5⟩
  · rw [e1] at m
    rcases List.mem_append.mp m with m | m
    · exact h.new a m
    · exact (ow a m).2.2.2.1
  · rw [e1]
    exact List.nodup_append.mpr ⟨h.nd,nt,fun x hx y hy z=>ni x hx (z ▸ hy)⟩
end
def dLcW0 (g:TDG) (tt:TDT) (te:TDN) (vs:List Nat) (Q:List FT→DSt→Prop):List D→List FT→DSt→Prop
  | [],acc,sl=>Q acc sl
  | d::r,acc,sl=>g d sl fun s1=>tt s1 (fun b s2=>Br b (te s2 (fun t s3=>acc.length < szl∧dLcW0 g tt te vs Q r (acc++[t]) (wipeD s3 vs)) fun _ _ _=>False) (dLcW0 g tt te vs Q r acc (wipeD s2 vs))) fun _ _ _=>False
@[irreducible] def dLcW (g:TDG) (tt:TDT) (te:TDN) (vs:List Nat) (Q:List FT→DSt→Prop) (ds:List D) (acc:List FT) (sl:DSt):Prop:=dLcW0 g tt te vs Q ds acc sl
theorem lcW_nil {g:TDG} {tt:TDT} {te:TDN} {vs:List Nat} {Q:List FT→DSt→Prop} {acc:List FT} {sl:DSt}:dLcW g tt te vs Q [] acc sl=Q acc sl:=by unfold dLcW;rfl
theorem lcW_cons {g:TDG} {tt:TDT} {te:TDN} {vs:List Nat} {Q:List FT→DSt→Prop} {d:D} {r:List D} {acc:List FT} {sl:DSt}:dLcW g tt te vs Q (d::r) acc sl=g d sl fun s1=>tt s1 (fun b s2=>Br b (te s2 (fun t s3=>acc.length < szl∧dLcW g tt te vs Q r (acc++[t]) (wipeD s3 vs)) fun _ _ _=>False) (dLcW g tt te vs Q r acc (wipeD s2 vs))) fun _ _ _=>False:=by unfold dLcW;rfl
section
variable {W:WX} {vs0:List Nat} {ti:TDI} {g:TDG} {tt:TDT} {te:TDN} {ix:List Nat}
theorem up_lcW {K:PySem.W.Frag} {n:Nat} {g':TG} {σ:L2.St} {H G:Hp} {so:So} {sl:DSt} {E:XP} {Q:List FT→DSt→Prop} {R:VK} (vs:List Nat) (hl:σ.length=n) (sg:GSem K n ix g' g) (hix:∀ j,j∈ix→j∈vs) (rep:Rep K G so σ H sl)
    (q:ti sl (fun ds s1=>dLcW g tt te vs Q ds [] (wipeD s1 vs)) E) (hx:XOk K W G so σ H sl E)
    (hq:∀ (C:Addr) (H' G':Hp) (sl':DSt) (us:List V) (ts:List FT),Post K G so σ H sl H' G' sl'→H C=none→so.Nt C→H' C=some (.lst us)→G' C=none→FOkL K G' H' us ts→(∀ a∈FT.asL ts,so.Nt a∧G' a=none∧a≠C∧¬ Own sl' σ a)→(∀ a∈FT.asL ts,H a=none∨Own sl σ a)→(FT.asL ts).Nodup→Q ts sl'→R (.ref C) H') :
    tLc (upI K W ti) g' (upT K W0 tt) (upN K W0 te) vs σ H R:=by
  refine ⟨G,so,sl,_,E,rep,q,fun J H1 G1 ds s1 p0 it q1=>?_,hx⟩
  obtain ⟨ps,prot,goes,stops,yields⟩:=it
  intro C hC
  have nsC:so.Nt C:=p0.rep.h.there hC
  have rw1:=p0.rep.wipe vs
  have psC:∀ a∈ps,a≠C:=fun a ha z=>(prot a ha).1 (z ▸ hC)
  refine ⟨fun i m H'=>m=ds.length - i∧i≤ds.length∧∃ G' sl' us ts,Post K G1 so (L2.wipe σ vs) H1 (wipeD s1 vs) H' G' sl'∧H' C=some (.lst us)∧G' C=none∧NstN K G' H' so (wipeD s1 vs) sl' (L2.wipe σ vs) H1 C us ts∧dLcW g tt te vs Q (ds.drop i) ts sl',
    ⟨ds.length,by simp,Nat.zero_le _,G1,_,[],[],?_,upd_same,p0.rep.h.ex.free hC,⟨.nil,fun a m=>(by rw [FT.asL] at m;cases m),fun a m=>(by rw [FT.asL] at m;cases m),(by rw [FT.asL];exact .nil)⟩,q1⟩,?_⟩
  · have pv:=PostV.list (K:=K) (G:=G1) (so:=so) (ds:=[]) rw1.h hC .nil
    exact (pv.slots rw1).toPost
  rintro i m H' ⟨rfl,hi,G',sl',us,qs,t,hCl,gC,al,q2⟩
  have same:∀ a∈ps,H' a=H1 a:=fun a ha=>by
    obtain ⟨n1,s,w⟩:=prot a ha
    exact keep_ne t.keep n1 s
  have noC:∀ {sl'':DSt} {σ'':L2.St},(∀ a,Own sl'' σ'' a→Own (wipeD s1 vs) (L2.wipe σ vs) a)→¬ Own sl'' σ'' C:=fun f z=>(p0.rep.nown (own_wipe (f C z))).1 hC
  have borC:∀ (j:Nat) (o:OO),(wipeD s1 vs)[j]?=some (some (.bor o))→(L2.wipe σ vs)[j]?=some (some (.ref C))→False:=fun j o e1 e2=>by
    obtain ⟨v,f1,f2⟩:=rw1.slots j _ e1
    rw [e2] at f1;cases f1
    obtain ⟨b,z,_,k⟩:=f2
    cases z
    exact k.there hC
  by_cases hlt:i < ds.length
  · refine .inr ⟨goes i H' hlt same,fun H''=>∃ G'' sl'' us' ts',Post K G1 so (L2.wipe σ vs) H1 (wipeD s1 vs) H'' G'' sl''∧H'' C=some (.lst us')∧G'' C=none∧NstN K G'' H'' so (wipeD s1 vs) sl'' (L2.wipe σ vs) H1 C us' ts'∧dLcW g tt te vs Q (ds.drop (i + 1)) ts' sl'',
      fun H'' ⟨G'',sl'',us',acc',h1,h2,h3,h4,h5⟩=>⟨ds.length - (i + 1),by omega,rfl,hlt,G'',sl'',us',acc',h1,h2,h3,h4,h5⟩,fun x H2 y=>?_⟩
    obtain ⟨d,G2,ed,pv⟩:=yields i H' x H2 G' same t.ex t.rep.h y hlt
    have pe:=pv.slots t.rep
    have C2:H2 C=some (.lst us):=pe.keep C _ hCl nsC
    have g2:G2 C=none:=pe.frm C (by rw [hCl];simp) gC nsC (noC t.sub)
    rw [List.drop_eq_getElem_cons hlt] at q2
    have ed':ds[i]=d:=by rw [List.getElem?_eq_getElem hlt] at ed;exact Option.some.inj ed
    rw [ed',lcW_cons] at q2
    refine sg G2 so _ H2 sl' x d _ _ ((wipe_length σ vs).trans hl) pe.rep pe.val q2 fun σ3 sl3 t3 u3 q3=>?_
    have e3:L2.wipe σ3 vs=L2.wipe σ vs:=by
      rw [← wipe_twice (σ:=σ) vs]
      exact wipe_eq t3.ln fun j hj=>(u3 j fun z=>hj (hix j z)).1
    have sub3:∀ a,Own (wipeD sl3 vs) (L2.wipe σ3 vs) a→Own (wipeD s1 vs) (L2.wipe σ vs) a:=fun a z=>by
      rw [e3] at z
      by_cases w:Own sl' (L2.wipe σ vs) a
      · exact t.sub a w
      · obtain ⟨j,o,z1,z2⟩:=z
        have z2':σ3[j]?=some (some (.ref a)):=by
          rw [← e3] at z2;exact (wipe_some z2).1
        have ow3:Own sl3 σ3 a:=⟨j,o,(wipeD_some z1).1,z2'⟩
        obtain ⟨n1,g1,s1'⟩:=t3.rep.nown ow3
        exact absurd ow3 (t3.sub a n1 s1' w)
    have sub3':∀ a,Own sl3 σ3 a→Own sl' (L2.wipe σ vs) a:=fun a z=>by
      by_cases w:Own sl' (L2.wipe σ vs) a
      · exact w
      · obtain ⟨n1,g1,s1'⟩:=t3.rep.nown z
        exact absurd z (t3.sub a n1 s1' w)
    have bs3:∀ (j:Nat) (o:OO),sl3[j]?=some (some (.bor o))→j∉vs→∃ o',(wipeD s1 vs)[j]?=some (some (.bor o')):=fun j o e n=>by
      rw [(u3 j fun z=>n (hix j z)).2] at e
      exact t.bsub j o e
    refine ⟨e3,G2,so,sl3,_,fun _ _ _=>False,t3.rep,q3,fun b H4 G4 s4 p4 q4=>?_,fun _ _ _ _ _ _ _ _ z=>z⟩
    have C4:H4 C=some (.lst us):=p4.keep C _ C2 nsC
    have n3C:¬ Own sl3 σ3 C:=fun z=>noC t.sub (sub3' C z)
    have g4:G4 C=none:=p4.frm C (by rw [C2];simp) g2 nsC n3C
    have k4:∀ a o,H1 a=some o→so.Nt a→H4 a=some o:=fun a o e s=>p4.keep a o (pe.keep a o (t.keep a o e s) s) s
    have f4:∀ a,H1 a≠none→G1 a=none→so.Nt a→¬ Own (wipeD s1 vs) (L2.wipe σ vs) a→G4 a=none:=fun a n1 g1 s w=>by
      have n2:¬ Own sl' (L2.wipe σ vs) a:=fun z=>w (t.sub a z)
      have h':H' a≠none:=by rw [keep_ne t.keep n1 s];exact n1
      have h2:H2 a≠none:=by rw [keep_ne pe.keep h' s];exact h'
      exact p4.frm a h2 (pe.frm a h' (t.frm a n1 g1 s w) s n2) s fun z=>n2 (sub3' a z)
    have bs4:∀ (j:Nat) (o:OO),s4[j]?=some (some (.bor o))→j∉vs→∃ o',(wipeD s1 vs)[j]?=some (some (.bor o')):=fun j o e n=>by
      obtain ⟨o1,e1⟩:=p4.bsub j o e
      exact bs3 j o1 e1 n
    cases b with
    | false=>
      refine iteF ⟨G4,wipeD s4 vs,us,qs,⟨t.ex.trans (pe.ex.trans p4.ex),?_,k4,f4,fun a z=>?_,fun j o e=>bs4 j o (wipeD_some e).1 (wipeD_some e).2⟩,C4,g4,al.step (pe.ex.trans p4.ex) (fun a o e s=>p4.keep a o (pe.keep a o e s) s) (fun a n g s w=>p4.frm a (by rw [keep_ne pe.keep n s];exact n) (pe.frm a n g s w) s fun z=>w (sub3' a z)) (fun a z=>sub3' a (p4.sub a (own_wipe (vs:=vs) (by rw [e3];exact z)))),(brf q4)⟩
      · have r:=p4.rep.wipe vs;rw [e3] at r;exact r
      · refine t.sub a (sub3' a (p4.sub a (own_wipe (vs:=vs) ?_)))
        rw [e3];exact z
    | true=>
      refine iteT ⟨G4,so,s4,_,fun _ _ _=>False,p4.rep,(brt q4),fun y H5 G6 tN s5 p5 q5=>?_,fun _ _ _ _ _ _ _ _ z=>z⟩
      have n4C:¬ Own s4 σ3 C:=fun z=>n3C (p4.sub C z)
      have C5:H5 C=some (.lst us):=p5.keep C _ C4 nsC
      have g5:G6 C=none:=p5.frm C (by rw [C4];simp) g4 nsC n4C
      have k5:∀ a o,H1 a=some o→so.Nt a→H5 a=some o:=fun a o e s=>p5.keep a o (k4 a o e s) s
      have f5:∀ a,H1 a≠none→G1 a=none→so.Nt a→¬ Own (wipeD s1 vs) (L2.wipe σ vs) a→G6 a=none:=fun a n1 g1 s w=>by
        have n2:¬ Own sl' (L2.wipe σ vs) a:=fun z=>w (t.sub a z)
        have h4:H4 a≠none:=by rw [keep_ne k4 n1 s];exact n1
        exact p5.frm a h4 (f4 a n1 g1 s w) s fun z=>n2 (sub3' a (p4.sub a z))
      have bs5:∀ (j:Nat) (o:OO),s5[j]?=some (some (.bor o))→j∉vs→∃ o',(wipeD s1 vs)[j]?=some (some (.bor o')):=fun j o e n=>by
        obtain ⟨o1,e1⟩:=p5.bsub j o e
        exact bs4 j o1 e1 n
      have sub5:∀ b,Own (wipeD s5 vs) (L2.wipe σ vs) b→Own sl' (L2.wipe σ vs) b:=fun b z=>sub3' b (p4.sub b (p5.sub b (own_wipe (vs:=vs) (by rw [e3];exact z))))
      have nwa:∀ w∈tN.as,H4 w=none∨Own s4 σ3 w:=p5.new
      have aC:∀ w∈tN.as,w≠C:=fun w m z=>by
        subst z
        rcases nwa w m with n | n
        · rw [C4] at n;cases n
        · exact n4C n
      have al5:NstN K G6 H5 so (wipeD s1 vs) (wipeD s5 vs) (L2.wipe σ vs) H1 C us qs:=al.step (pe.ex.trans (p4.ex.trans p5.ex)) (fun a o e s=>p5.keep a o (p4.keep a o (pe.keep a o e s) s) s)
        (fun b n g s y=>by
          have h2:H2 b≠none:=by rw [keep_ne pe.keep n s];exact n
          have h4:H4 b≠none:=by rw [keep_ne p4.keep h2 s];exact h2
          exact p5.frm b h4 (p4.frm b h2 (pe.frm b n g s y) s fun z=>y (sub3' b z)) s fun z=>y (sub3' b (p4.sub b z))) sub5
      have fra:∀ w∈tN.as,H1 w=none∨Own (wipeD s1 vs) (L2.wipe σ vs) w:=fun w m=>by
        rcases nwa w m with n | n
        · cases q:H1 w with
          | none=>exact .inl rfl
          | some o=>rw [k4 w o q (p5.own w m).1] at n;cases n
        · exact .inr (t.sub w (sub3' w (p4.sub w n)))
      have nia:∀ a∈FT.asL qs,a∉tN.as:=fun a ha m=>by
        obtain ⟨m1,m2,m3,m4⟩:=al.own a ha
        have hb:H' a≠none:=al.there a ha
        have h2:H2 a≠none:=by rw [keep_ne pe.keep hb m1];exact hb
        have h4:H4 a≠none:=by rw [keep_ne p4.keep h2 m1];exact h2
        rcases nwa a m with n | n
        · exact h4 n
        · exact m4 (sub3' a (p4.sub a n))
      have lu:us.length=qs.length:=al5.ok.len
      refine ⟨us,C5,by rw [lu,← szl_eq];exact q5.1,G6,wipeD s5 vs,us++[y],qs++[tN],⟨t.ex.trans (pe.ex.trans (p4.ex.trans p5.ex)),?_,fun a o e s=>?_,f5,fun a z=>?_,fun j o e=>bs5 j o (wipeD_some e).1 (wipeD_some e).2⟩,upd_same,g5,al5.add nia p5.ok p5.nod fun w m=>⟨aC w m,(p5.own w m).1,(p5.own w m).2.1,fra w m,fun z=>(p5.own w m).2.2 (own_wipe (vs:=vs) (by rw [e3];exact z))⟩,q5.2⟩
      · have r:=p5.rep.wipe vs
        rw [e3] at r
        refine ⟨⟨fun a o e=>?_,fun a k e=>?_,r.h.ok,tp_upd r.h.tp (by intro _ z;cases z)⟩,r.len,fun j dv e=>?_,r.sep,r.bor,r.nse⟩
        · rw [upd_ne (ne_of_none e g5)];exact r.h.ex a o e
        · exact (r.h.vol a k e).keep (Ex.refl _) (r.h.vol a k e).g (upd_ne fun z=>nsC (z ▸ ⟨k,e⟩))
        · obtain ⟨v,f1,f2⟩:=r.slots j dv e
          refine ⟨v,f1,?_⟩
          have key:∀ a:Addr,a≠C→(upd H5 C (.lst (us++[y]))) a=H5 a:=fun a z=>upd_ne z
          cases dv with
          | d z=>exact f2
          | src=>exact f2
          | own o=>
            obtain ⟨a,r1,r2,r3,r4⟩:=f2
            subst r1
            have z:a≠C:=fun z=>by
              subst z
              exact noC (fun a z=>t.sub a (sub3' a (p4.sub a (p5.sub a (own_wipe (vs:=vs) (by rw [e3];exact z)))))) ⟨j,o,e,f1⟩
            exact ⟨a,rfl,r2,r3,r4.keep (Ex.refl _) (key a z)⟩
          | bor o=>
            obtain ⟨a,r1,r3,r4⟩:=f2
            subst r1
            have z:a≠C:=fun z=>by
              subst z
              obtain ⟨o1,z1⟩:=bs5 j o (wipeD_some e).1 (wipeD_some e).2
              exact borC j o1 z1 f1
            exact ⟨a,rfl,r3,r4.keep (Ex.refl _) (key a z)⟩
          | see o=>exact absurd e (r.nse j o)
          | mu y D gs=>exact SlOk.muU f2 (Ex.refl _) nsC
          | gh _ _=>exact SlOk.ghU f2 (Ex.refl _) nsC
      · rw [upd_ne (fun z=>by subst z;rw [hC] at e;cases e)];exact k5 a o e s
      · exact t.sub a (sub3' a (p4.sub a (p5.sub a (own_wipe (vs:=vs) (by rw [e3];exact z)))))
  · have e:i=ds.length:=by omega
    subst e
    rw [List.drop_length,lcW_nil] at q2
    refine .inl ⟨stops H' same,hq C H' G' sl' us qs ?_ (p0.back hC) nsC hCl gC ?_ ?_ ?_ ?_ q2⟩
    · exact p0.trans (t.unwipe p0.rep)
    · exact al.ok
    · intro a ha
      obtain ⟨m1,m2,m3,m4⟩:=al.own a ha
      refine ⟨m1,m2,m3,fun z=>m4 ?_⟩
      obtain ⟨j,o,z1,z2⟩:=z
      obtain ⟨v,f1,f2⟩:=t.rep.slots j _ z1
      exact ⟨j,o,z1,by rw [f1,← (wipe_some f1).1,z2]⟩
    · intro a ha
      rcases al.new a ha with n | n
      · exact .inl (p0.back n)
      · exact .inr (p0.sub _ (own_wipe n))
    · exact al.nd
end
abbrev Fl:=List FT
theorem asF_cons (t:FT) (r:Fl):FT.asL (t::r)=t.as++FT.asL r:=by rw [FT.asL]
theorem asF_nil:FT.asL []=[]:=by rw [FT.asL]
structure FlOk (K:PySem.W.Frag) (G:Hp) (so:So) (σ:L2.St) (H:Hp) (sl:DSt) (fl:Fl):Prop where
  ok:∃ vs,FOkL K G H vs fl
  nod:(FT.asL fl).Nodup
  own:∀ a∈FT.asL fl,so.Nt a∧G a=none∧¬ Own sl σ a
structure PostF (K:PySem.W.Frag) (G:Hp) (so:So) (σ:L2.St) (H:Hp) (sl:DSt) (fl:Fl) (σ':L2.St) (H' G':Hp) (sl':DSt) (fl':Fl):Prop where
  ex:Ex G G'
  rep:Rep K G' so σ' H' sl'
  flo:FlOk K G' so σ' H' sl' fl'
  keep:∀ a o,H a=some o→so.Nt a→¬ Own sl σ a→a∉FT.asL fl→H' a=some o
  frm:∀ a,H a≠none→G a=none→so.Nt a→¬ Own sl σ a→a∉FT.asL fl→G' a=none
  sub:∀ a,H a≠none→so.Nt a→¬ Own sl σ a→a∉FT.asL fl→¬ Own sl' σ' a∧a∉FT.asL fl'
  ln:σ'.length=σ.length
structure PostFE (K:PySem.W.Frag) (G:Hp) (so:So) (σ:L2.St) (H:Hp) (sl:DSt) (fl:Fl) (v:V) (H' G':Hp) (t:FT) (sl':DSt) (fl':Fl):Prop extends PostF K G so σ H sl fl σ H' G' sl' (t::fl') where
  val:FOk K G' H' v t
structure PostFR (K:PySem.W.Frag) (G:Hp) (so:So) (σ:L2.St) (H:Hp) (sl:DSt) (fl:Fl) (v:V) (H' G':Hp) (t:FT) (fl':Fl):Prop where
  ex:Ex G G'
  hrep:HRep K G' so H'
  keep:∀ a o,H a=some o→so.Nt a→¬ Own sl σ a→a∉FT.asL fl→H' a=some o
  frm:∀ a,H a≠none→G a=none→so.Nt a→¬ Own sl σ a→a∉FT.asL fl→G' a=none
  val:FOk K G' H' v t
  ok:∃ vs,FOkL K G' H' vs (t::fl')
  nod:(FT.asL (t::fl')).Nodup
  own:∀ a∈FT.asL (t::fl'),so.Nt a∧G' a=none
  new:∀ a∈FT.asL (t::fl'),H a=none∨Own sl σ a∨a∈FT.asL fl
section
variable {K:PySem.W.Frag} {W:WX} {G G1 G2:Hp} {so:So} {σ σ1 σ2:L2.St} {H H1 H2:Hp} {sl s1 s2:DSt} {fl f1 f2:Fl} {v:V} {t:FT}
theorem FlOk.nil:FlOk K G so σ H sl []:=⟨⟨[],.nil⟩,by rw [asF_nil];exact .nil,fun a m=>by rw [asF_nil] at m;cases m⟩
theorem FlOk.there (h:FlOk K G so σ H sl fl) {a:Addr} (m:a∈FT.asL fl):H a≠none:=by
  obtain ⟨vs,k⟩:=h.ok
  exact (FOkL.li k a m).there
theorem FlOk.tail (h:FlOk K G so σ H sl (t::fl)):FlOk K G so σ H sl fl:=by
  obtain ⟨vs,k⟩:=h.ok
  have n:=h.nod
  rw [asF_cons] at n
  refine ⟨?_,(List.nodup_append.mp n).2.1,fun a m=>h.own a (by rw [asF_cons];exact List.mem_append_right _ m)⟩
  cases k with
  | cons _ r=>exact ⟨_,r⟩
theorem FlOk.keep (h:FlOk K G so σ H sl fl) (e:Ex G G1) (k:∀ a∈FT.asL fl,H1 a=H a) (g:∀ a∈FT.asL fl,G1 a=none) (w:∀ a∈FT.asL fl,¬ Own s1 σ1 a):FlOk K G1 so σ1 H1 s1 fl:=by
  obtain ⟨vs,q⟩:=h.ok
  exact ⟨⟨vs,q.keep e k⟩,h.nod,fun a m=>⟨(h.own a m).1,g a m,w a m⟩⟩
theorem PostF.refl (r:Rep K G so σ H sl) (h:FlOk K G so σ H sl fl):PostF K G so σ H sl fl σ H G sl fl:=⟨Ex.refl G,r,h,fun _ _ e _ _ _=>e,fun _ _ g _ _ _=>g,fun _ _ _ w z=>⟨w,z⟩,rfl⟩
theorem PostF.trans (a:PostF K G so σ H sl fl σ1 H1 G1 s1 f1) (b:PostF K G1 so σ1 H1 s1 f1 σ2 H2 G2 s2 f2):PostF K G so σ H sl fl σ2 H2 G2 s2 f2:=
  ⟨a.ex.trans b.ex,b.rep,b.flo,fun c o e s w z=>by
    obtain ⟨w1,z1⟩:=a.sub c (by rw [e];simp) s w z
    exact b.keep c o (a.keep c o e s w z) s w1 z1,fun c n g s w z=>by
    obtain ⟨o,e⟩:=Option.ne_none_iff_exists'.mp n
    obtain ⟨w1,z1⟩:=a.sub c n s w z
    exact b.frm c (by rw [a.keep c o e s w z];simp) (a.frm c n g s w z) s w1 z1,fun c n s w z=>by
    obtain ⟨o,e⟩:=Option.ne_none_iff_exists'.mp n
    obtain ⟨w1,z1⟩:=a.sub c n s w z
    exact b.sub c (by rw [a.keep c o e s w z];simp) s w1 z1,b.ln.trans a.ln⟩
theorem PostF.forget (a:PostF K G so σ H sl fl σ1 H1 G1 s1 f1):PostF K G so σ H sl fl σ1 H1 G1 s1 []:=
  ⟨a.ex,a.rep,.nil,a.keep,a.frm,fun c n s w z=>⟨(a.sub c n s w z).1,by rw [asF_nil];exact fun m=>by cases m⟩,a.ln⟩
theorem PostF.tail (a:PostF K G so σ H sl fl σ1 H1 G1 s1 (t::f1)):PostF K G so σ H sl fl σ1 H1 G1 s1 f1:=
  ⟨a.ex,a.rep,a.flo.tail,a.keep,a.frm,fun c n s w z=>⟨(a.sub c n s w z).1,fun m=>(a.sub c n s w z).2 (by rw [asF_cons];exact List.mem_append_right _ m)⟩,a.ln⟩
theorem PostF.s (a:PostF K G so σ H sl [] σ1 H1 G1 s1 f1):PostS K G so σ H sl σ1 H1 G1 s1:=by
  have z:∀ c,c∉FT.asL []:=fun c m=>by rw [asF_nil] at m;cases m
  exact ⟨a.ex,a.rep,fun c o e s w=>a.keep c o e s w (z c),fun c n g s w=>a.frm c n g s w (z c),fun c n s w=>(a.sub c n s w (z c)).1,a.ln⟩
theorem PostS.f (p:PostS K G so σ H sl σ1 H1 G1 s1) (h:FlOk K G so σ H sl fl):PostF K G so σ H sl fl σ1 H1 G1 s1 fl:=by
  have k:∀ a∈FT.asL fl,H1 a=H a:=fun a m=>by
    obtain ⟨o,e⟩:=Option.ne_none_iff_exists'.mp (h.there m)
    obtain ⟨s,g,w⟩:=h.own a m
    rw [e,p.keep a o e s w]
  exact ⟨p.ex,p.rep,h.keep p.ex k (fun a m=>p.frm a (h.there m) (h.own a m).2.1 (h.own a m).1 (h.own a m).2.2) (fun a m=>p.sub a (h.there m) (h.own a m).1 (h.own a m).2.2),
    fun a o e s w _=>p.keep a o e s w,fun a n g s w _=>p.frm a n g s w,fun a n s w z=>⟨p.sub a n s w,z⟩,p.ln⟩
theorem PostF.back (a:PostF K G so σ H sl fl σ1 H1 G1 s1 f1) {c:Addr} (n:H1 c=none∨Own s1 σ1 c∨c∈FT.asL f1):H c=none∨Own sl σ c∨c∈FT.asL fl:=by
  by_cases w:Own sl σ c
  · exact .inr (.inl w)
  · by_cases z:c∈FT.asL fl
    · exact .inr (.inr z)
    · refine .inl ?_
      cases q:H c with
      | none=>rfl
      | some u=>
        by_cases s:so.Vol c
        · rcases n with n | n | n
          · exact absurd s (a.rep.h.there n)
          · exact absurd s (a.rep.nown n).2.2
          · exact absurd s (a.flo.own c n).1
        · obtain ⟨w1,z1⟩:=a.sub c (by rw [q];simp) s w z
          rcases n with n | n | n
          · rw [a.keep c u q s w z] at n;cases n
          · exact absurd n w1
          · exact absurd n z1
theorem PostFE.r (b:PostFE K G so σ H sl fl v H1 G1 t s1 f1):PostFR K G so σ H sl fl v H1 G1 t f1:=
  ⟨b.ex,b.rep.h,b.keep,b.frm,b.val,b.flo.ok,b.flo.nod,fun a m=>⟨(b.flo.own a m).1,(b.flo.own a m).2.1⟩,fun a m=>b.toPostF.back (.inr (.inr m))⟩
theorem PostF.thenR (a:PostF K G so σ H sl fl σ1 H1 G1 s1 f1) (b:PostFR K G1 so σ1 H1 s1 f1 v H2 G2 t f2):PostFR K G so σ H sl fl v H2 G2 t f2:=
  ⟨a.ex.trans b.ex,b.hrep,fun c o e s w z=>by
    obtain ⟨w1,z1⟩:=a.sub c (by rw [e];simp) s w z
    exact b.keep c o (a.keep c o e s w z) s w1 z1,fun c n g s w z=>by
    obtain ⟨o,e⟩:=Option.ne_none_iff_exists'.mp n
    obtain ⟨w1,z1⟩:=a.sub c n s w z
    exact b.frm c (by rw [a.keep c o e s w z];simp) (a.frm c n g s w z) s w1 z1,b.val,b.ok,b.nod,b.own,fun c m=>a.back (b.new c m)⟩
theorem PostN.f {Gx:Hp} (p:PostN K G so σ H sl v H1 G1 t s1) (h:FlOk K G so σ H sl fl):PostFE K G so σ H sl fl v H1 G1 t s1 fl:=by
  have b:=p.toPost.s.f h
  have ni:∀ a∈t.as,a∉FT.asL fl:=fun a m z=>by
    rcases p.new a m with n | n
    · exact h.there z n
    · exact (h.own a z).2.2 n
  refine ⟨⟨b.ex,b.rep,⟨?_,?_,fun a m=>?_⟩,b.keep,b.frm,fun a n s w z=>⟨(b.sub a n s w z).1,fun m=>?_⟩,b.ln⟩,p.ok⟩
  · obtain ⟨vs,q⟩:=b.flo.ok
    exact ⟨_,.cons p.ok q⟩
  · rw [asF_cons]
    exact List.nodup_append.mpr ⟨p.nod,b.flo.nod,fun x hx y hy e=>ni x hx (e ▸ hy)⟩
  · rw [asF_cons] at m
    rcases List.mem_append.mp m with m | m
    · exact p.own a m
    · exact b.flo.own a m
  · rw [asF_cons] at m
    rcases List.mem_append.mp m with m | m
    · rcases p.new a m with q | q
      · exact n q
      · exact w q
    · exact z m
end
structure EndsF where
  nx:DSt→Fl→Prop
  rt:FT→Fl→Prop
  bk:DSt→Fl→Prop
  ct:DSt→Fl→Prop
  xc:XP
abbrev TDF:=EndsF→DSt→Fl→Prop
abbrev TFE:=DSt→Fl→(FT→DSt→Fl→Prop)→XP→Prop
def XOkF (K:PySem.W.Frag) (W:WX) (G:Hp) (so:So) (σ:L2.St) (H:Hp) (sl:DSt) (fl:Fl) (E:XP):Prop:=
  ∀ cls d σ' H' G' fs sl',PostF K G so σ H sl fl σ' H' G' sl' []→XdOk K G' H' d fs→E cls fs sl'→W cls d σ' H'
structure EFOk (K:PySem.W.Frag) (W:WX) (G:Hp) (so:So) (σ:L2.St) (H:Hp) (sl:DSt) (fl:Fl) (E:EndsF) (D:L2.Ends):Prop where
  nx:∀ σ' H' G' sl' fl',PostF K G so σ H sl fl σ' H' G' sl' fl'→E.nx sl' fl'→D.nx σ' H'
  bk:∀ σ' H' G' sl' fl',PostF K G so σ H sl fl σ' H' G' sl' fl'→E.bk sl' fl'→D.bk σ' H'
  ct:∀ σ' H' G' sl' fl',PostF K G so σ H sl fl σ' H' G' sl' fl'→E.ct sl' fl'→D.ct σ' H'
  rt:∀ v H' G' t fl',PostFR K G so σ H sl fl v H' G' t fl'→E.rt t fl'→D.rt v H'
  xc:XOkF K W G so σ H sl fl E.xc
def upF (K:PySem.W.Frag) (W:WX) (t:TDF):TS:=fun D σ H=>∃ G so sl fl E,Rep K G so σ H sl∧FlOk K G so σ H sl fl∧t E sl fl∧EFOk K W G so σ H sl fl E D
def upFE (K:PySem.W.Frag) (W:WX) (t:TFE):TE:=fun σ H R=>∃ G so sl fl Q E,Rep K G so σ H sl∧FlOk K G so σ H sl fl∧t sl fl Q E∧(∀ v H' G' x sl' fl',PostFE K G so σ H sl fl v H' G' x sl' fl'→Q x sl' fl'→R v H')∧XOkF K W G so σ H sl fl E
def FS (X:Cx) (W:WX) (st:Stmt) (t:TDF):Prop:=PS X st (upF X.K W t)
def FSs (X:Cx) (W:WX) (sts:List Stmt) (t:TDF):Prop:=PSs X sts (upF X.K W t)
def FE (X:Cx) (W:WX) (e:Expr) (t:TFE):Prop:=PE X e (upFE X.K W t)
section
variable {K:PySem.W.Frag} {W:WX} {G G1 G2:Hp} {so:So} {σ σ1 σ2:L2.St} {H H1 H2:Hp} {sl s1 s2:DSt} {fl f1 f2:Fl} {v:V} {t:FT} {E:XP} {EF:EndsF} {D:L2.Ends}
theorem XOkF.step (h:XOkF K W G so σ H sl fl E) (p:PostF K G so σ H sl fl σ1 H1 G1 s1 f1):XOkF K W G1 so σ1 H1 s1 f1 E:=fun cls d σ' H' G' fs sl' q a b=>h cls d σ' H' G' fs sl' (p.trans q) a b
theorem EFOk.step (h:EFOk K W G so σ H sl fl EF D) (p:PostF K G so σ H sl fl σ1 H1 G1 s1 f1):EFOk K W G1 so σ1 H1 s1 f1 EF D:=
  ⟨fun a b c d e q=>h.nx a b c d e (p.trans q),fun a b c d e q=>h.bk a b c d e (p.trans q),fun a b c d e q=>h.ct a b c d e (p.trans q),fun a b c d z q=>h.rt a b c d z (p.thenR q),h.xc.step p⟩
theorem XOkF.xs (h:XOkF K W G so σ H sl fl E) (o:FlOk K G so σ H sl fl):XOkS K W G so σ H sl E:=fun cls d σ' H' G' fs sl' q a b=>h cls d σ' H' G' fs sl' (q.f o).forget a b
theorem XOkF.ex (h:XOkF K W G so σ H sl fl E) (o:FlOk K G so σ H sl fl):XOk K W G so σ H sl E:=(h.xs o).ex
end
def fRt (dv:DV) (Q:FT→Prop):Prop:=match dv with
  | .d d=>Q (.leaf d)
  | .own (.lst ds)=>∀ a,Q (.lst a (ds.map .leaf))
  | _=>False
def fLift (t:TDS):TDF:=fun E sl fl=>t ⟨fun s=>E.nx s fl,fun dv _=>fRt dv fun x=>E.rt x fl,fun s=>E.bk s fl,fun s=>E.ct s fl,E.xc⟩ sl
def fNext:TDF:=fun E sl fl=>E.nx sl fl
def fSeq (t u:TDF):TDF:=fun E sl fl=>t { E with nx:=u E } sl fl
def dFl (t:TDF):TDS:=fun E sl=>t ⟨fun s _=>E.nx s,fun x _=>E.rt (.d x.d) [],fun s _=>E.bk s,fun s _=>E.ct s,E.xc⟩ sl []
def fIf (c:TDT) (t u:TDF):TDF:=fun E sl fl=>c sl (fun b s1=>Br b (t E s1 fl) (u E s1 fl)) E.xc
def xDN (t:TDN):TFE:=fun sl fl Q E=>t sl (fun x s=>Q x s fl) E
section
variable {K:PySem.W.Frag} {W:WX} {G G1 G2:Hp} {so:So} {σ σ1 σ2:L2.St} {H H1 H2:Hp} {sl s1 s2:DSt} {fl f1 f2:Fl} {v:V} {t:FT}
theorem HRep.pubF {as:List Addr} (h:HRep K G so H) (g:∀ a∈as,G a=none∧so.Nt a):HRep K (puB G H as) so H:=by
  have ex:Ex G (puB G H as):=puB_ex fun a m=>(g a m).1
  refine ⟨fun a o q=>?_,fun a k q=>?_,h.ok,fun a xs q=>ex _ _ (h.tp a xs q)⟩
  · by_cases m:a∈as
    · rw [puB_in m] at q;exact q
    · rw [puB_out m] at q;exact h.ex a o q
  · have v:=h.vol a k q
    exact v.keep ex (by rw [puB_out (fun m=>(g a m).2 ⟨k,q⟩)];exact v.g) rfl
theorem PostFR.pub (p:PostFR K G so σ H sl [] v H1 G1 t f1):PostR K G so σ H sl v H1 (puB G1 H1 t.as) (.d t.d) []:=by
  have z:∀ c,c∉FT.asL []:=fun c m=>by rw [asF_nil] at m;cases m
  have mt:∀ a∈t.as,a∈FT.asL (t::f1):=fun a m=>by rw [asF_cons];exact List.mem_append_left _ m
  have ex:Ex G1 (puB G1 H1 t.as):=puB_ex fun a m=>(p.own a (mt a m)).2
  refine ⟨p.ex.trans ex,p.hrep.pubF fun a m=>⟨(p.own a (mt a m)).2,(p.own a (mt a m)).1⟩,fun a o e s w=>p.keep a o e s w (z a),fun a n g s w=>?_,FOk.pub ex (fun a m=>puB_in m) p.val,fun _ _ e=>(nomatch e),fun i x C fs e=>by simp at e⟩
  rw [puB_out (fun m=>by
    rcases p.new a (mt a m) with q | q | q
    · exact n q
    · exact w q
    · exact z a q)]
  exact p.frm a n g s w (z a)
theorem PostFE.pub (p:PostFE K G so σ H sl fl v H1 G1 t s1 f1):∃ G2,PostF K G so σ H sl fl σ H1 G2 s1 f1∧DOk K G2 v t.d:=by
  have mt:∀ a∈t.as,a∈FT.asL (t::f1):=fun a m=>by rw [asF_cons];exact List.mem_append_left _ m
  have ex:Ex G1 (puB G1 H1 t.as):=puB_ex fun a m=>(p.flo.own a (mt a m)).2.1
  have nd:=p.flo.nod
  rw [asF_cons] at nd
  have dj:∀ a∈FT.asL f1,a∉t.as:=fun a m m2=>(List.nodup_append.mp nd).2.2 a m2 a m rfl
  have b:=p.toPostF.tail
  refine ⟨puB G1 H1 t.as,⟨p.ex.trans ex,⟨p.rep.h.pubF fun a m=>⟨(p.flo.own a (mt a m)).2.1,(p.flo.own a (mt a m)).1⟩,p.rep.len,fun i dv e=>?_,p.rep.sep,p.rep.bor,p.rep.nse⟩,b.flo.keep ex (fun _ _=>rfl) (fun a m=>by rw [puB_out (dj a m)];exact (b.flo.own a m).2.1) (fun a m=>(b.flo.own a m).2.2),b.keep,fun a n g s w z=>?_,b.sub,b.ln⟩,FOk.pub ex (fun a m=>puB_in m) p.val⟩
  · obtain ⟨w,e1,e2⟩:=p.rep.slots i dv e
    refine ⟨w,e1,SlOk.keep e2 p.rep.h.ok ex (fun _ _ q _=>q) fun a o ed q=>?_⟩
    subst ed
    subst q
    rw [puB_out (fun m=>(p.flo.own a (mt a m)).2.2 ⟨i,o,e,e1⟩)]
    exact (p.rep.nown ⟨i,o,e,e1⟩).2.1
  · rw [puB_out (fun m=>(p.sub a n s w z).2 (mt a m))]
    exact p.frm a n g s w z
theorem PostF.set {i:Nat} {x:D} (hi:i < σ.length) (p:PostF K G so σ H sl fl σ H1 G1 s1 f1) (w:DOk K G1 v x):PostF K G so σ H sl fl (σ.set i (some v)) H1 G1 (s1.set i (some (.d x))) f1:=by
  obtain ⟨r,s⟩:=set_slot (K:=K) (dv:=.d x) (H1:=fun _=>some (.lst [])) (s1:=s1) (σ1:=σ) hi (fun _ z=>(nomatch z)) p.rep w (fun _ _ z=>by rcases z with z | z<;>cases z) (fun _ _ _ _ z=>(nomatch z)) (fun _ _ z=>(nomatch z)) (fun a _ _ w z=>w z)
  have s:∀ a,so.Nt a→¬ Own s1 σ a→¬ Own (s1.set i (some (.d x))) (σ.set i (some v)) a:=fun a n w=>s a (by simp) n w
  exact ⟨p.ex,r,p.flo.keep (Ex.refl _) (fun _ _=>rfl) (fun a m=>(p.flo.own a m).2.1) (fun a m=>s a (p.flo.own a m).1 (p.flo.own a m).2.2),p.keep,p.frm,fun a n sa w z=>⟨s a sa (p.sub a n sa w z).1,(p.sub a n sa w z).2⟩,List.length_set⟩
theorem PostR.f {dv:DV} (p:PostR K G so σ H sl v H1 G1 dv s1) (h:FlOk K G so σ H sl fl) {Q:FT→Prop} (q:fRt dv Q):∃ t,Q t∧PostFR K G so σ H sl fl v H1 G1 t fl:=by
  have k:∀ a∈FT.asL fl,H1 a=H a:=fun a m=>by
    obtain ⟨o,e⟩:=Option.ne_none_iff_exists'.mp (h.there m)
    obtain ⟨s,g,w⟩:=h.own a m
    rw [e,p.keep a o e s w]
  have g1:∀ a∈FT.asL fl,G1 a=none:=fun a m=>p.frm a (h.there m) (h.own a m).2.1 (h.own a m).1 (h.own a m).2.2
  obtain ⟨vs,fk⟩:=h.ok
  have fk:=fk.keep p.ex k
  cases dv with
  | d d=>
    have la:FT.asL (.leaf d::fl)=FT.asL fl:=by rw [asF_cons,FT.as,List.nil_append]
    exact ⟨.leaf d,q,p.ex,p.hrep,fun a o e s w _=>p.keep a o e s w,fun a n g s w _=>p.frm a n g s w,.leaf p.val,⟨_,.cons (.leaf p.val) fk⟩,by rw [la];exact h.nod,fun a m=>by rw [la] at m;exact ⟨(h.own a m).1,g1 a m⟩,fun a m=>by rw [la] at m;exact .inr (.inr m)⟩
  | own o=>
    cases o with
    | lst ds=>
      obtain ⟨a,rfl,ga,sa,us,e1,al⟩:=p.val
      have la:FT.asL (.lst a (ds.map .leaf)::fl)=a::FT.asL fl:=by rw [asF_cons,FT.as,asLF_leaves];rfl
      have new:=p.new a _ rfl rfl
      have ni:a∉FT.asL fl:=fun m=>by
        rcases new with n | n
        · exact h.there m n
        · exact (h.own a m).2.2 n
      have ok:FOk K G1 H1 (.ref a) (.lst a (ds.map .leaf)):=.lst e1 (FOkL.leaves al)
      refine ⟨_,q a,p.ex,p.hrep,fun a o e s w _=>p.keep a o e s w,fun a n g s w _=>p.frm a n g s w,ok,⟨_,.cons ok fk⟩,by rw [la];exact List.nodup_cons.mpr ⟨ni,h.nod⟩,fun b m=>?_,fun b m=>?_⟩
      · rw [la] at m
        rcases List.mem_cons.mp m with rfl | m
        · exact ⟨sa,ga⟩
        · exact ⟨(h.own b m).1,g1 b m⟩
      · rw [la] at m
        rcases List.mem_cons.mp m with rfl | m
        · exact new.elim .inl fun z=>.inr (.inl z)
        · exact .inr (.inr m)
    | _=>exact q.elim
  | _=>exact q.elim
end
def FT.top:FT→D
  | .leaf d=>d
  | .lst a _=>.raw (.ref a)
  | .ins a _ _=>.raw (.ref a)
theorem FOk.top {K:PySem.W.Frag} {G H:Hp} {v:V} {t:FT} (h:FOk K G H v t):DOk K G v t.top:=by
  cases h with
  | leaf h=>exact h
  | lst h r=>exact .raw _
  | ins h g r=>exact .raw _
def fSet (te:TFE) (i:Nat):TDF:=fun E sl fl=>te sl fl (fun x s f=>E.nx (s.set i (some (.d x.top))) (x::f)) E.xc
def fSetP (te:TFE) (i:Nat):TDF:=fun E sl fl=>te sl fl (fun x s f=>E.nx (s.set i (some (.d x.d))) f) E.xc
def fRet (te:TFE):TDF:=fun E sl fl=>te sl fl (fun x _ f=>E.rt x f) E.xc
section
variable {X:Cx} {W:WX} {st:Stmt} {rest body orelse:List Stmt} {t u:TDF} {td:TDS} {e c:Expr} {te:TFE} {tn:TDN} {tc:TDT} {pos pos':Pos} {i:Nat} {x:Str}
theorem fs_lift (h:DS X W st td):FS X W st (fLift td):=ps_imp h fun D σ H ⟨G,so,sl,fl,E,rep,fo,q,ok⟩=>
  ⟨G,so,sl,_,rep,q,⟨fun σ' H' G' sl' p z=>ok.nx _ _ _ _ _ (p.f fo) z,fun σ' H' G' sl' p z=>ok.bk _ _ _ _ _ (p.f fo) z,fun σ' H' G' sl' p z=>ok.ct _ _ _ _ _ (p.f fo) z,fun v H' G' dv sl' p z=>by
    obtain ⟨t,q1,q2⟩:=p.f (Q:=fun x=>E.rt x fl) fo z
    exact ok.rt v H' G' t fl q2 q1,ok.xc.xs fo⟩⟩
theorem fss_nil:FSs X W [] fNext:=pss_imp pss_nil fun D σ H ⟨G,so,sl,fl,E,rep,fo,q,ok⟩=>ok.nx σ H G sl fl (.refl rep fo) q
theorem fss_cons (h1:FS X W st t) (h2:FSs X W rest u):FSs X W (st::rest) (fSeq t u):=pss_imp (pss_cons h1 h2) fun D σ H ⟨G,so,sl,fl,E,rep,fo,q,ok⟩=>
  ⟨G,so,sl,fl,_,rep,fo,q,⟨fun σ1 H1 G1 s1 f1 p q1=>⟨G1,so,s1,f1,E,p.rep,p.flo,q1,ok.step p⟩,ok.bk,ok.ct,ok.rt,ok.xc⟩⟩
theorem fss_one (h:FS X W st t):FSs X W [st] t:=pss_one h
theorem dss_fl (h:FSs X W rest t):DSs X W rest (dFl t):=pss_imp h fun D σ H ⟨G,so,sl,E,rep,q,ok⟩=>
  ⟨G,so,sl,[],_,rep,.nil,q,⟨fun σ' H' G' sl' fl' p z=>ok.nx _ _ _ _ p.s z,fun σ' H' G' sl' fl' p z=>ok.bk _ _ _ _ p.s z,fun σ' H' G' sl' fl' p z=>ok.ct _ _ _ _ p.s z,fun v H' G' x fl' p z=>ok.rt v H' _ _ [] p.pub z,fun cls d σ' H' G' fs sl' p a b=>ok.xc cls d σ' H' G' fs sl' p.s a b⟩⟩
theorem fs_if (hc:DT X W c tc) (h1:FSs X W body t) (h2:FSs X W orelse u):FS X W (.If c body orelse pos) (fIf tc t u):=ps_imp (ps_if hc h1 h2) fun D σ H ⟨G,so,sl,fl,E,rep,fo,q,ok⟩=>by
  refine ⟨G,so,sl,_,E.xc,rep,q,fun k H1 G1 s1 p q1=>?_,ok.xc.ex fo⟩
  have pf:=p.s.f fo
  cases k with
  | true=>show upF X.K W t D σ H1;exact ⟨G1,so,s1,fl,E,p.rep,pf.flo,brt q1,ok.step pf⟩
  | false=>show upF X.K W u D σ H1;exact ⟨G1,so,s1,fl,E,p.rep,pf.flo,brf q1,ok.step pf⟩
theorem fe_dn (h:DN X W e tn):FE X W e (xDN tn):=pe_imp h fun σ H R ⟨G,so,sl,fl,Q,E,rep,fo,q,hq,hx⟩=>
  ⟨G,so,sl,_,E,rep,q,fun v H' G' x s p z=>hq v H' G' x s fl (p.f (Gx:=G) fo) z,hx.ex fo⟩
theorem fs_set (hN:X.N.Nodup) (hi:X.N[i]?=some x) (hx:Loc X.env.scope x) (he:FE X W e te) (hs:swapsWith e (some (.Name x pos')) pos.line X.env=pure false:=by rfl) (hf:X.fn x=true∨X.env.scope.names.lookup x=some .local:=by first | exact .inl rfl | exact .inr rfl | assumption) :
    FS X W (.Assign [.Name x pos'] e pos) (fSet te i):=ps_len (ps_set hN hi hx he hs hf) fun D σ H hl ⟨G,so,sl,fl,E,rep,fo,q,ok⟩=>
  ⟨G,so,sl,fl,_,E.xc,rep,fo,q,fun v H1 G1 t s1 f1 p q1=>ok.nx _ H1 G1 _ _ (p.toPostF.set (by rw [hl];exact (List.getElem?_eq_some_iff.mp hi).1) p.val.top) q1,ok.xc⟩
theorem fs_setP (hN:X.N.Nodup) (hi:X.N[i]?=some x) (hx:Loc X.env.scope x) (he:FE X W e te) (hs:swapsWith e (some (.Name x pos')) pos.line X.env=pure false:=by rfl) (hf:X.fn x=true∨X.env.scope.names.lookup x=some .local:=by first | exact .inl rfl | exact .inr rfl | assumption) :
    FS X W (.Assign [.Name x pos'] e pos) (fSetP te i):=ps_len (ps_set hN hi hx he hs hf) fun D σ H hl ⟨G,so,sl,fl,E,rep,fo,q,ok⟩=>
  ⟨G,so,sl,fl,_,E.xc,rep,fo,q,fun v H1 G1 t s1 f1 p q1=>by
    obtain ⟨G2,p2,w⟩:=p.pub
    exact ok.nx _ H1 G2 _ _ (p2.set (by rw [hl];exact (List.getElem?_eq_some_iff.mp hi).1) w) q1,ok.xc⟩
theorem fs_ret (h:FE X W e te):FS X W (.Return (some e) pos) (fRet te):=ps_imp (ps_ret h) fun D σ H ⟨G,so,sl,fl,E,rep,fo,q,ok⟩=>
  ⟨G,so,sl,fl,_,E.xc,rep,fo,q,fun v H1 G1 t s1 f1 p q1=>ok.rt v H1 G1 t f1 p.r q1,ok.xc⟩
end
abbrev SpN:=List DV→(FT→Prop)→XE'→Prop
structure PostVN (K:PySem.W.Frag) (G:Hp) (so:So) (H:Hp) (v:V) (H' G':Hp) (t:FT):Prop extends PostH K G so H H' G' where
  ok:FOk K G' H' v t
  nod:t.as.Nodup
  own:∀ a∈t.as,so.Nt a∧G' a=none
  new:∀ a∈t.as,H a=none
structure PostIN (K:PySem.W.Frag) (G:Hp) (so:So) (H:Hp) (x:Addr) (H' G':Hp) (t:FT):Prop extends PostX K G so H x H' G' where
  ok:FOk K G' H' (.ref x) t
  nod:t.as.Nodup
  own:∀ a∈t.as,so.Nt a∧G' a=none
  new:∀ a∈t.as,H a=none∨a=x
  top:t.top=.raw (.ref x)
def upSN (K:PySem.W.Frag) (sp:SpN):Sp:=fun vs H Q E=>∃ G so args QD ED,HRep K G so H∧VsOk K G so H vs args∧sp args QD ED∧(∀ v H' G' t,PostVN K G so H v H' G' t→QD t→Q v H')∧
  (∀ cls d H' G' fs,PostH K G so H H' G'→XdOk K G' H' d fs→ED cls fs→E cls d H')
def upIN (K:PySem.W.Frag) (C:Addr) (sp:SpN):Sp:=fun vs H Q E=>∃ x vs' G so args QD ED,vs=.ref x::vs'∧HRep K G so H∧OwnOk K G H x (.ins x C [])∧G x=none∧so.Nt x∧VsOk K G so H vs' args∧sp args QD ED∧
  (∀ H' G' t,PostIN K G so H x H' G' t→QD t→Q .non H')∧(∀ cls d H' G' fs,PostX K G so H x H' G'→XdOk K G' H' d fs→ED cls fs→E cls d H')
section
variable {K:PySem.W.Frag} {W:WX} {G G1 G2 G':Hp} {so:So} {σ σ1:L2.St} {H H1 H2 H':Hp} {sl s1 s2:DSt} {fl f1:Fl} {v:V} {t:FT}
theorem PostVN.slots (p:PostVN K G so H v H' G' t) (r:Rep K G so σ H sl):PostN K G so σ H sl v H' G' t sl:=by
  have pn:PostV K G so H .non H' G' (.d .non):=⟨p.ex,p.hrep,p.keep,p.frm,.non,fun _ _ e=>(nomatch e),fun _ e=>(nomatch e)⟩
  have hb:∀ a∈t.as,∀ (i:Nat) (o:OO),sl[i]?=some (some (.bor o))→σ[i]?=some (some (.ref a))→False:=fun a m i o e1 e2=>by
    obtain ⟨w,f1,f2⟩:=r.slots i _ e1
    rw [e2] at f1;cases f1
    obtain ⟨b,z,_,k⟩:=f2
    cases z
    exact k.there (p.new a m)
  exact { (pn.slots r).toPost with ok:=p.ok,nod:=p.nod,own:=fun a m=>⟨(p.own a m).1,(p.own a m).2,fun w=>(r.nown w).1 (p.new a m)⟩,new:=fun a m=>.inl (p.new a m),bor:=hb }
theorem Post.thenN (a:Post K G so σ H sl H1 G1 s1) (b:PostN K G1 so σ H1 s1 v H2 G2 t s2):PostN K G so σ H sl v H2 G2 t s2:=
  { a.trans b.toPost with ok:=b.ok,nod:=b.nod,own:=b.own,new:=fun c m=>(b.new c m).elim (fun n=>.inl (a.back n)) fun w=>.inr (a.sub c w),bor:=b.bor }
theorem FOkL.mem:∀ {vs:List V} {fl:Fl},FOkL K G H vs fl→t∈fl→∃ v,FOk K G H v t
  | _,_,.nil,m=>by cases m
  | _,_,.cons h r,m=>by
    rcases List.mem_cons.mp m with rfl | m
    · exact ⟨_,h⟩
    · exact FOkL.mem r m
theorem as_mem:∀ {fl:Fl},t∈fl→∀ a∈t.as,a∈FT.asL fl
  | [],m,_,_=>by cases m
  | y::r,m,a,ha=>by
    rw [asF_cons]
    rcases List.mem_cons.mp m with rfl | m
    · exact List.mem_append_left _ ha
    · exact List.mem_append_right _ (as_mem m a ha)
theorem as_nod:∀ {fl:Fl},t∈fl→(FT.asL fl).Nodup→t.as.Nodup
  | [],m,_=>by cases m
  | y::r,m,h=>by
    rw [asF_cons] at h
    have h:=List.nodup_append.mp h
    rcases List.mem_cons.mp m with rfl | m
    · exact h.1
    · exact as_nod m h.2.1
end
theorem fnN_of {P:Program} {w:World} {K:PySem.W.Frag} {mg:Str→Option Value} {base:Heap} {x qual:Str} {params:Arguments} {body:List Stmt} {scope:Scope} {dvs:List V} {kws:List (Str × V)} {f:Addr} {fd:FuncData} {N ps:List Str} {k:Nat} {sp:SpN} {t:TDF}
    (F:FunD K x qual params body scope dvs kws f fd) (S:FnScope N ps scope) (len:∀ args Q E,sp args Q E→args.length=ps.length) (nsee:∀ args Q E,sp args Q E→∀ (i:Nat) (o:OO),args[i]?≠some (.see o))
    (hd:∀ (cdv:Value) (A:Around) (outer:List Env) (s:Shared) (H:Hp) (E:XK),Room k (A.deeper (envOfC qual scope s.heap.objs.size f cdv))→(cxOf (L2N.CX P w) P w K mg base N qual scope f cdv A outer s H E).A.guards=some []→
      FSs (cxOf (L2N.CX P w) P w K mg base N qual scope f cdv A outer s H E) (fun cls d _ H'=>E cls d H') body t)
    (hr:∀ args Q E,sp args Q E→t { nx:=fun _ _=>Q (.leaf .non),rt:=fun v _=>Q v,bk:=fun _ _=>False,ct:=fun _ _=>False,xc:=fun cls fs _=>E cls fs } (startD N args) []):FnR P w K mg base (k + 1) f fd ps (upSN K sp):=by
  refine fnR_of F S (fun vs H Q E h=>?_) (fun cdv A outer s H vs Q E hroom hg h=>?_)
  · obtain ⟨G,so,as,QD,ED,_,w1,q,_⟩:=h
    rw [w1.length];exact len _ _ _ q
  · obtain ⟨G,so,as,QD,ED,hrep,wv,q,hq,hx⟩:=h
    have no:∀ a,¬ Own (startD N as) (L2.start N vs) a:=fun a ⟨i,o,e,_⟩=>by
      obtain ⟨_,_,_,n⟩:=wv.get (start_get e)
      exact n o rfl
    have rep:Rep K G so.drop (L2.start N vs) H (startD N as):=rep_start hrep.drop wv.drop (nsee _ _ _ q)
    have zf:∀ c,c∉FT.asL []:=fun c m=>by rw [asF_nil] at m;cases m
    refine ⟨_,hd cdv A outer s H E hroom hg,G,so.drop,_,[],_,rep,.nil,hr as QD ED q,⟨fun σ' H' G' sl' fl' p z=>?_,fun _ _ _ _ _ _ z=>z.elim,fun _ _ _ _ _ _ z=>z.elim,fun v H' G' t fl' p z=>?_,fun cls d σ' H' G' fs sl' p z1 z2=>?_⟩⟩
    · have u:PostHU K G so.drop H H' G':=⟨p.ex,p.rep.h,fun a o e s=>p.keep a o e s (no a) (zf a),fun a n g s=>p.frm a n g s (no a) (zf a)⟩
      have m0:∀ a,a∉(FT.leaf .non).as:=fun a m=>by rw [FT.as] at m;cases m
      exact hq .non H' G' (.leaf .non) { u.back hrep with ok:=.leaf .non,nod:=by rw [FT.as];exact .nil,own:=fun a m=>absurd m (m0 a),new:=fun a m=>absurd m (m0 a) } z
    · have u:PostHU K G so.drop H H' G':=⟨p.ex,p.hrep,fun a o e s=>p.keep a o e s (no a) (zf a),fun a n g s=>p.frm a n g s (no a) (zf a)⟩
      have mt:∀ a∈t.as,a∈FT.asL (t::fl'):=fun a m=>by rw [asF_cons];exact List.mem_append_left _ m
      have nw:∀ a∈t.as,H a=none:=fun a m=>(p.new a (mt a m)).elim (fun n=>n) fun z=>z.elim (fun z=>absurd z (no a)) fun z=>absurd z (zf a)
      have nd:=p.nod
      rw [asF_cons] at nd
      exact hq v H' G' t { u.back hrep with ok:=p.val,nod:=(List.nodup_append.mp nd).1,own:=fun a m=>⟨hrep.there (nw a m),(p.own a (mt a m)).2⟩,new:=nw } z
    · have u:PostHU K G so.drop H H' G':=⟨p.ex,p.rep.h,fun a o e s=>p.keep a o e s (no a) (zf a),fun a n g s=>p.frm a n g s (no a) (zf a)⟩
      exact hx cls d H' G' fs (u.back hrep) z1 z2
def endIN (x C:Addr) (Q:FT→Prop) (fl:Fl):Prop:=∃ fs,FT.ins x C fs∈fl∧Q (.ins x C fs)
theorem fnIN_of {P:Program} {w:World} {K:PySem.W.Frag} {mg:Str→Option Value} {base:Heap} {n qual:Str} {params:Arguments} {body:List Stmt} {scope:Scope} {dvs:List V} {kws:List (Str × V)} {f C:Addr} {fd:FuncData} {N ps:List Str} {k:Nat} {sp:SpN} {t:TDF}
    (F:FunD K n qual params body scope dvs kws f fd) (S:FnScope N ps scope) (len:∀ args Q E,sp args Q E→args.length + 1=ps.length) (nsee:∀ args Q E,sp args Q E→∀ (i:Nat) (o:OO),args[i]?≠some (.see o))
    (hd:∀ (cdv:Value) (A:Around) (outer:List Env) (s:Shared) (H:Hp) (E:XK),Room k (A.deeper (envOfC qual scope s.heap.objs.size f cdv))→(cxOf (L2N.CX P w) P w K mg base N qual scope f cdv A outer s H E).A.guards=some []→
      FSs (cxOf (L2N.CX P w) P w K mg base N qual scope f cdv A outer s H E) (fun cls d _ H'=>E cls d H') body t)
    (hr:∀ args Q E x,sp args Q E→t { nx:=fun _=>endIN x C Q,rt:=fun _ _=>False,bk:=fun _ _=>False,ct:=fun _ _=>False,xc:=fun cls fs _=>E cls fs } (startD N (.d (.raw (.ref x))::args)) [.ins x C []]):FnR P w K mg base (k + 1) f fd ps (upIN K C sp):=by
  refine fnR_of F S (fun vs H Q E h=>?_) (fun cdv A outer s H vs Q E hroom hg h=>?_)
  · obtain ⟨x,vs',G,so,args,QD,ED,rfl,_,_,_,_,w1,q,_⟩:=h
    rw [List.length_cons,w1.length];exact len _ _ _ q
  · obtain ⟨x,vs',G,so,args,QD,ED,rfl,hrep,ow,gx,sx,w1,q,hq,hx⟩:=h
    obtain ⟨_,dx,vs,hx0,hd0,fa⟩:=ow
    obtain rfl:vs=[]:=by cases fa;rfl
    have w2:VsOk K G so H (.ref x::vs') (.d (.raw (.ref x))::args):=.cons (d:=.d (.raw (.ref x))) (show DOk _ _ _ _ from .raw _) (fun _ e=>(nomatch e)) w1
    have no:∀ a,¬ Own (startD N (.d (.raw (.ref x))::args)) (L2.start N (.ref x::vs')) a:=fun a ⟨i,o,e,_⟩=>by
      obtain ⟨_,_,_,n⟩:=w2.get (start_get e)
      exact n o rfl
    have rep:Rep K G so (L2.start N (.ref x::vs')) H (startD N (.d (.raw (.ref x))::args)):=rep_start hrep w2 fun i o e=>by
      cases i with
      | zero=>simp at e
      | succ j=>exact nsee _ _ _ q j o (by simpa using e)
    have ea:FT.asL [.ins x C []]=[x]:=by rw [asF_cons,FT.as,FT.asF,asF_nil];rfl
    have zf:∀ c,c≠x→c∉FT.asL [.ins x C []]:=fun c n m=>by rw [ea] at m;exact n (List.mem_singleton.mp m)
    have fo:FlOk K G so (L2.start N (.ref x::vs')) H (startD N (.d (.raw (.ref x))::args)) [.ins x C []]:=⟨⟨[.ref x],.cons (.ins hx0 hd0 .nil) .nil⟩,by rw [ea];simp,fun a m=>by
      rw [ea] at m
      rw [List.mem_singleton.mp m]
      exact ⟨sx,gx,no x⟩⟩
    refine ⟨_,hd cdv A outer s H E hroom hg,G,so,_,_,_,rep,fo,hr args QD ED x q,⟨fun σ' H' G' sl' fl' p z=>?_,fun _ _ _ _ _ _ z=>z.elim,fun _ _ _ _ _ _ z=>z.elim,fun _ _ _ _ _ _ z=>z.elim,fun cls d σ' H' G' fs sl' p z1 z2=>?_⟩⟩
    · obtain ⟨fs,m,z⟩:=z
      obtain ⟨us,ok⟩:=p.flo.ok
      obtain ⟨v,hv⟩:=ok.mem m
      obtain rfl:v=.ref x:=by cases hv;rfl
      refine hq H' G' _ ⟨⟨p.ex,p.rep.h,fun b o e s n=>p.keep b o e s (no b) (zf b n),fun b n1 g s n=>p.frm b n1 g s (no b) (zf b n)⟩,hv,as_nod m p.flo.nod,fun a ma=>⟨(p.flo.own a (as_mem m a ma)).1,(p.flo.own a (as_mem m a ma)).2.1⟩,fun a ma=>?_,by rw [FT.top]⟩ z
      rcases p.back (.inr (.inr (as_mem m a ma))) with n | n | n
      · exact .inl n
      · exact absurd n (no a)
      · rw [ea] at n;exact .inr (List.mem_singleton.mp n)
    · exact hx cls d H' G' fs ⟨p.ex,p.rep.h,fun b o e s n=>p.keep b o e s (no b) (zf b n),fun b n1 g s n=>p.frm b n1 g s (no b) (zf b n)⟩ z1 z2
def dCallN (sp:SpN) (n m:Nat) (sel:List Sel) (ta tk:TDA):TDN:=fun sl Q E=>ta sl (fun xs s1=>tk s1 (fun ys s2=>xs.length=n∧ys.length=m∧sp (sel.map (pickD xs ys)) (fun v=>Q v s2) fun cls fs=>E cls fs s2) E) E
def dMakeN (sp:SpN) (n m:Nat) (sel:List Sel) (ta tk:TDA):TDN:=fun sl Q E=>ta sl (fun xs s1=>tk s1 (fun ys s2=>xs.length=n∧ys.length=m∧sp (sel.map (pickD (.d .non::xs) ys)) (fun v=>Q v s2) fun cls fs=>E cls fs s2) E) E
section
variable {X:Cx} {W:WX} {k n:Nat} {f C:Addr} {fd:FuncData} {ps ks:List Str} {sp:SpN} {sel:List Sel}
theorem run_fnN {pins:List (Addr × Obj)} {σ:L2.St} {H G:Hp} {so:So} {sl:DSt} {s:Shared} {Q:VK} {us ws:List Value} {vs qs:List V} {ds es:List DV} {Q':FT→DSt→Prop} {E:XP} (F:FnR X.prog X.w X.K X.mg X.base k f fd ps (upSN X.K sp)) (hr:Room k X.A) (hg:X.A.guards=some []) (tk:L2N.Takes X W) (hb:Bd X.K fd ps n ks sel)
    (I:Inv X pins σ H s) (rep:Rep X.K G so σ H sl) (r:Vals vs us) (r2:Vals qs ws) (w:VsOk X.K G so H vs ds) (w2:VsOk X.K G so H qs es) (l1:ds.length=n) (l2:es.length=ks.length)
    (q:sp (sel.map (pickD ds es)) (fun v=>Q' v sl) fun cls fs=>E cls fs sl) (hq:∀ v H' G' x sl',PostN X.K G so σ H sl v H' G' x sl'→Q' x sl'→Q v H') (hx:XOk X.K W G so σ H sl E) :
    wpAny (model X.prog X.w) X.A (call (.ref f) us (ks.zip ws)) (EP X pins σ Q) X.xe s:=by
  obtain ⟨zs,bt,rz⟩:=hb.to s us ws vs qs I.kIn (by rw [← r.length,w.length,l1]) (by rw [← r2.length,w2.length,l2]) r r2
  have pk:=w.pick w2 sel hb.dok
  refine wpAny_call (codeAny_mono (F.run X.A X.stack s H ⟨us,ks.zip ws⟩ zs (sel.map (pickV vs qs)) Q (fun cls d H'=>W cls d σ H') hr hg I.env0 bt rz ⟨G,so,_,_,_,rep.h,pk,q,fun v H' G' x pv z=>hq v H' G' x sl (pv.slots rep) z,fun cls d H' G' fs ph z1 z2=>?_⟩) fun r s' hz=>?_)
  · have pn:PostV X.K G so H .non H' G' (.d .non):=⟨ph.ex,ph.hrep,ph.keep,ph.frm,.non,fun _ _ e=>(nomatch e),fun _ e=>(nomatch e)⟩
    exact hx cls d H' G' fs sl (pn.slots rep).toPost z1 z2
  · cases r with
    | error e=>exact tk e s' (L2N.XE.of_call I (fun _ _ _ z=>z) hz)
    | ok fl=>
      cases fl with
      | ret u=>exact I.after hz
      | next=>exact False.elim hz
      | brk=>exact False.elim hz
      | cont=>exact False.elim hz
end
section
variable {X:Cx} {W:WX} {k n:Nat} {f C:Addr} {fd:FuncData} {ps ks:List Str} {sp:SpN} {sel:List Sel} {x nm m:Str} {p pos apos kpos:Pos} {o e:Expr} {es:List Expr} {kws:List Keyword} {ta tk tk':TDA} {to te:TD} {pl:Sem Bool}
theorem dn_call (F:FnR X.prog X.w X.K X.mg X.base k f fd ps (upSN X.K sp)) (hr:Room k X.A) (hgd:X.A.guards=some []) (tk:L2N.Takes X W) (hb:Bd X.K fd ps n [] sel) (hg:Gl X x) (hm:X.mg x=some (.ref f)) (hk:PySem.W.keepIn X.K (.ref f)=true)
    (ha:DA X W (e::es) ta) (hdb:(x == ("__debug__":Str))=false:=by decide) (he:starEach (e::es) X.env=(false,eval e X.env)::starEach es X.env:=by rfl) (hpl:(backTo pos (starEach es X.env)).any (·.1)=false:=by rfl) :
    DN X W (.Call (.Name x p) (e::es) [] pos) (dCallN sp n 0 sel ta dNil):=by
  refine ⟨fun pins s σ H Q I ⟨G,so,sl,Q',E,rep,q,hq,hx⟩=>wpAny_Call_Name_kw (ld_glob I hg hm ?_ hdb)⟩
  refine PySem.W.callWith_K (h₀:=X.base) I.ok.mod.kin hk (thn (ha.run pos pins s σ H (fun vs H1=>∃ G1 ds s1,Post X.K G so σ H sl H1 G1 s1∧VsOk X.K G1 so H1 vs ds∧ds.length=n∧sp (sel.map (pickD ds [])) (fun v=>Q' v s1) fun cls fs=>E cls fs s1) I
    ⟨G,so,sl,_,E,rep,q,fun vs H1 G1 ds s1 p1 w z=>⟨G1,ds,s1,p1,w,z.1,z.2.2⟩,hx⟩) fun us s1 ⟨vs,H1,I1,r,G1,ds,sl1,p1,w,l1,z⟩=>⟨I1.kIn,?_⟩) he hpl
  exact run_fnN (ws:=[]) (qs:=[]) (es:=[]) F hr hgd tk hb I1 p1.rep r .nil w .nil l1 rfl z (fun v H' G' dv sl' pe z'=>hq v H' G' dv sl' (p1.thenN pe) z') (hx.step p1)
end
section
variable {X:Cx} {W:WX} {k n:Nat} {f C:Addr} {fd:FuncData} {ps ks:List Str} {sp:SpN} {sel:List Sel}
theorem run_makeN {pins:List (Addr × Obj)} {σ:L2.St} {H G:Hp} {so:So} {sl:DSt} {s:Shared} {Q:VK} {us ws:List Value} {vs qs:List V} {ds es:List DV} {Q':FT→DSt→Prop} {E:XP} (M:Mk X.K C f) (F:FnR X.prog X.w X.K X.mg X.base k f fd ps (upIN X.K C sp)) (hr:Room (k + 1) X.A) (hg:X.A.guards=some []) (tk:L2N.Takes X W) (hb:Bd X.K fd ps (n + 1) ks (.pos 0::sel)) (hz:noZero sel=true)
    (I:Inv X pins σ H s) (rep:Rep X.K G so σ H sl) (r:Vals vs us) (r2:Vals qs ws) (w:VsOk X.K G so H vs ds) (w2:VsOk X.K G so H qs es) (l1:ds.length=n) (l2:es.length=ks.length)
    (q:sp (sel.map (pickD (.d .non::ds) es)) (fun v=>Q' v sl) fun cls fs=>E cls fs sl) (hq:∀ v H' G' x sl',PostN X.K G so σ H sl v H' G' x sl'→Q' x sl'→Q v H') (hx:XOk X.K W G so σ H sl E) :
    wpAny (model X.prog X.w) X.A (call (.ref C) us (ks.zip ws)) (EP X pins σ Q) X.xe s:=by
  have I2:=Inv.made (C:=C) I
  generalize hxx:s.heap.objs.size + 1=x at I2
  have nx:H x=none:=by rw [← hxx];exact I.hok.fresh (Nat.le_succ _)
  have nd:H s.heap.objs.size=none:=I.hok.fresh (Nat.le_refl _)
  have ne:s.heap.objs.size≠x:=by rw [← hxx];exact Nat.ne_of_lt (Nat.lt_succ_self _)
  generalize hdd:s.heap.objs.size=dx at I2 nd ne
  have nx2:upd H dx (.own x) x=none:=by rw [upd_ne (Ne.symm ne)];exact nx
  have h0:HRep X.K (upd G dx (.own x)) so (upd (upd H dx (.own x)) x (.ins C dx [])):=(rep.h.allocG nd).alloc nx2
  have gx:upd G dx (.own x) x=none:=by rw [upd_ne (Ne.symm ne)];exact rep.h.ex.free nx
  have kp:∀ a o,H a=some o→upd (upd H dx (.own x)) x (.ins C dx []) a=some o:=fun a o e=>by
    rw [upd_ne (ne_of_none e nx),upd_ne (ne_of_none e nd)];exact e
  have eg:Ex G (upd G dx (.own x)):=Ex.new (rep.h.ex.free nd)
  have w':VsOk X.K (upd G dx (.own x)) so (upd (upd H dx (.own x)) x (.ins C dx [])) vs ds:=w.keep eg fun a o e _=>kp a o e
  have w2':VsOk X.K (upd G dx (.own x)) so (upd (upd H dx (.own x)) x (.ins C dx [])) qs es:=w2.keep eg fun a o e _=>kp a o e
  obtain ⟨zs,bt,rz⟩:=hb.to _ (.ref x::us) ws (.ref x::vs) qs I2.kIn (by rw [List.length_cons,← r.length,w.length,l1]) (by rw [← r2.length,w2.length,l2]) (.cons rfl r) r2
  have pk:VsOk X.K (upd G dx (.own x)) so (upd (upd H dx (.own x)) x (.ins C dx [])) (sel.map (pickV (.ref x::vs) qs)) (sel.map (pickD (.d .non::ds) es)):=by
    rw [pick_cong (v':=.non) hz]
    exact VsOk.pick (.cons (d:=.d .non) (show DOk _ _ _ _ from .non) (fun _ e=>(nomatch e)) w') w2' sel fun s hs=>hb.dok s (List.mem_cons_of_mem _ hs)
  subst hdd
  subst hxx
  refine wpAny_call (make_map (f:=f) I.kIn M.makes M.init (beq_iff_eq.mp M.fn) (codeAny_mono (F.run _ X.stack _ _ ⟨Value.ref (s.heap.objs.size + 1)::us,ks.zip ws⟩ zs _ (fun v H2=>v=.non∧Q (.ref (s.heap.objs.size + 1)) H2) (fun cls d H'=>W cls d σ H') (hr.make C us (ks.zip ws)) hg
    (I2.env0.make C us (ks.zip ws)) bt rz ⟨s.heap.objs.size + 1,_,_,so.drop,_,_,_,rfl,h0.drop,⟨rfl,_,[],upd_same,upd_same,.nil⟩,gx,So.drop_nt (rep.h.there nx),pk.drop,q,fun H' G' t p z=>⟨rfl,?_⟩,fun cls d H' G' fs p z1 z2=>?_⟩) fun r s' hz'=>?_))
  · have hb':HRep X.K G' so H':=h0.back p.ex p.hrep (fun a C o e nt ho=>p.keep a o ho nt (fun z=>by subst z;exact rep.h.there nx ⟨_,e⟩)) (fun a C e nt n g=>p.frm a n g nt fun z=>by subst z;exact rep.h.there nx ⟨_,e⟩)
    have nw:∀ a∈t.as,H a=none:=fun a m=>(p.new a m).elim (fun n=>by
      cases q3:H a with
      | none=>rfl
      | some o=>rw [kp a o q3] at n;cases n) fun z=>z ▸ nx
    have pv:PostVN X.K G so H (.ref (s.heap.objs.size + 1)) H' G' t:=
      ⟨⟨eg.trans p.ex,hb',fun a o e sa=>p.keep a o (kp a o e) (So.drop_nq sa) (ne_of_none e nx),fun a n1 g sa=>by
        have n2:a≠s.heap.objs.size + 1:=fun z=>by rw [z] at n1;exact n1 nx
        have n3:a≠s.heap.objs.size:=fun z=>by rw [z] at n1;exact n1 nd
        exact p.frm a (by rw [upd_ne n2,upd_ne n3];exact n1) (by rw [upd_ne n3];exact g) (So.drop_nt sa) n2⟩,p.ok,p.nod,fun a m=>⟨rep.h.there (nw a m),(p.own a m).2⟩,nw⟩
    exact hq _ H' _ _ sl (pv.slots rep) z
  · have hb':HRep X.K G' so H':=h0.back p.ex p.hrep (fun a C o e nt ho=>p.keep a o ho nt (fun z=>by subst z;exact rep.h.there nx ⟨_,e⟩)) (fun a C e nt n g=>p.frm a n g nt fun z=>by subst z;exact rep.h.there nx ⟨_,e⟩)
    have pn:PostV X.K G so H .non H' G' (.d .non):=⟨eg.trans p.ex,hb',fun a o e sa=>p.keep a o (kp a o e) (So.drop_nq sa) (ne_of_none e nx),fun a n1 g sa=>by
        have n2:a≠s.heap.objs.size + 1:=fun z=>by rw [z] at n1;exact n1 nx
        have n3:a≠s.heap.objs.size:=fun z=>by rw [z] at n1;exact n1 nd
        exact p.frm a (by rw [upd_ne n2,upd_ne n3];exact n1) (by rw [upd_ne n3];exact g) (So.drop_nt sa) n2,.non,fun _ _ e=>(nomatch e),fun _ e=>(nomatch e)⟩
    exact hx cls d H' G' fs sl (pn.slots rep).toPost z1 z2
  · cases r with
    | error e=>exact tk e s' (L2N.XE.of_call I2 (fun _ _ _ z=>z) hz')
    | ok fl=>
      cases fl with
      | ret u=>
        obtain ⟨v,H',I3,rv,ev,q3⟩:=I2.after hz'
        subst ev
        exact ⟨rv,⟨V.ref (s.heap.objs.size + 1),H',I3,rfl,q3⟩⟩
      | next=>exact False.elim hz'
      | brk=>exact False.elim hz'
      | cont=>exact False.elim hz'
end
section
variable {X:Cx} {W:WX} {k n:Nat} {f C:Addr} {fd:FuncData} {ps ks:List Str} {sp:SpN} {sel:List Sel} {x nm m:Str} {p pos apos kpos:Pos} {o e:Expr} {es:List Expr} {kws:List Keyword} {ta tk tk':TDA} {to te:TD} {pl:Sem Bool}
theorem dn_make (M:Mk X.K C f) (F:FnR X.prog X.w X.K X.mg X.base k f fd ps (upIN X.K C sp)) (hr:Room (k + 1) X.A) (hgd:X.A.guards=some []) (tk:L2N.Takes X W) (hb:Bd X.K fd ps (n + 1) [] (.pos 0::sel)) (hz:noZero sel=true) (hg:Gl X x) (hm:X.mg x=some (.ref C))
    (ha:DA X W (e::es) ta) (hdb:(x == ("__debug__":Str))=false:=by decide) (he:starEach (e::es) X.env=(false,eval e X.env)::starEach es X.env:=by rfl) (hpl:(backTo pos (starEach es X.env)).any (·.1)=false:=by rfl) :
    DN X W (.Call (.Name x p) (e::es) [] pos) (dMakeN sp n 0 sel ta dNil):=by
  refine ⟨fun pins s σ H Q I ⟨G,so,sl,Q',E,rep,q,hq,hx⟩=>wpAny_Call_Name_kw (ld_glob I hg hm ?_ hdb)⟩
  refine PySem.W.callWith_K (h₀:=X.base) I.ok.mod.kin M.kp (thn (ha.run pos pins s σ H (fun vs H1=>∃ G1 ds s1,Post X.K G so σ H sl H1 G1 s1∧VsOk X.K G1 so H1 vs ds∧ds.length=n∧sp (sel.map (pickD (.d .non::ds) [])) (fun v=>Q' v s1) fun cls fs=>E cls fs s1) I
    ⟨G,so,sl,_,E,rep,q,fun vs H1 G1 ds s1 p1 w z=>⟨G1,ds,s1,p1,w,z.1,z.2.2⟩,hx⟩) fun us s1 ⟨vs,H1,I1,r,G1,ds,sl1,p1,w,l1,z⟩=>⟨I1.kIn,?_⟩) he hpl
  exact run_makeN (ws:=[]) (qs:=[]) (es:=[]) M F hr hgd tk hb hz I1 p1.rep r .nil w .nil l1 rfl z (fun v H' G' dv sl' pe z'=>hq v H' G' dv sl' (p1.thenN pe) z') (hx.step p1)
theorem dn_makeK0 (M:Mk X.K C f) (F:FnR X.prog X.w X.K X.mg X.base k f fd ps (upIN X.K C sp)) (hr:Room (k + 1) X.A) (hgd:X.A.guards=some []) (tk:L2N.Takes X W) (hb:Bd X.K fd ps (0 + 1) ks (.pos 0::sel)) (hz:noZero sel=true) (hg:Gl X x) (hm:X.mg x=some (.ref C))
    (hkw:DK X W kws tk') (hall:(backToKw pos (keywordEach kws X.env)).all (·.1.isSome)=true:=by rfl) (hks:(backToKw pos (keywordEach kws X.env)).filterMap (·.1)=ks:=by rfl) (hdb:(x == ("__debug__":Str))=false:=by decide)
    (hpl:((backTo pos (starEach [] X.env)).any (·.1) || (backToKw pos (keywordEach kws X.env)).any (·.1.isNone))=false:=by rfl) :
    DN X W (.Call (.Name x p) [] kws pos) (dMakeN sp 0 ks.length sel dNil tk'):=by
  refine ⟨fun pins s σ H Q I ⟨G,so,sl,Q',E,rep,q,hq,hx⟩=>wpAny_Call_Name_kw (ld_glob I hg hm ?_ hdb)⟩
  refine PySem.W.callWith_KW0 (h₀:=X.base) I.ok.mod.kin M.kp hall ?_ hpl
  refine thn (hkw.run pos pins s σ H (fun qs H2=>∃ G2 es s2,Post X.K G so σ H sl H2 G2 s2∧VsOk X.K G2 so H2 qs es∧es.length=ks.length∧sp (sel.map (pickD [.d .non] es)) (fun v=>Q' v s2) fun cls fs=>E cls fs s2) I
    ⟨G,so,sl,_,E,rep,q,fun qs H2 G2 es s2 p2 w2 z=>⟨G2,es,s2,p2,w2,z.2.1,z.2.2⟩,hx⟩) fun ws s2 ⟨qs,H2,I2,r2,G2,es,sl2,p2,w2,l2,z⟩=>⟨I2.kIn,?_⟩
  rw [hks]
  exact run_makeN (us:=[]) (vs:=[]) (ds:=[]) M F hr hgd tk hb hz I2 p2.rep .nil r2 .nil w2 rfl l2 z (fun v H' G' dv sl' pe z'=>hq v H' G' dv sl' (p2.thenN pe) z') (hx.step p2)
end
def dMethN (sp:SpN) (C:Addr) (m:Str) (n l:Nat) (sel:List Sel) (to:TD) (ta tk:TDA):TDN:=fun sl Q E=>to sl (fun x s0=>match pubV x with
  | .d (.ins D fs)=>D=C∧fs.lookup m=none∧ta s0 (fun xs s1=>tk s1 (fun ys s2=>xs.length=n∧ys.length=l∧sp (sel.map (pickD (.d (.ins D fs)::xs) ys)) (fun v=>Q v s2) fun cls fs=>E cls fs s2) E) E
  | _=>False) E
section
variable {X:Cx} {W:WX} {k n:Nat} {f C:Addr} {fd:FuncData} {ps ks:List Str} {sp:SpN} {sel:List Sel} {x nm m:Str} {p pos apos kpos:Pos} {o e:Expr} {es:List Expr} {kws:List Keyword} {ta tk tk':TDA} {to te:TD} {pl:Sem Bool}
theorem dn_meth0 (he:DE X W o to) (c:Cls X.K C) (hm:Meth X.K C m f) (F:FnR X.prog X.w X.K X.mg X.base k f fd ps (upSN X.K sp)) (hr:Room k X.A) (hgd:X.A.guards=some []) (tk:L2N.Takes X W) (hb:Bd X.K fd ps (0 + 1) [] sel)
    (ht:eval (.Call (.Attribute o m apos) [] [] pos) X.env=(do
      let ov ← eval o X.env
      standAt apos.atName
      let (f,first) ← holding [ov] (getMethod ov m pl)
      callWith pos f first (backTo pos (starEach [] X.env)) (backToKw pos (keywordEach [] X.env))):=by rfl) :
    DN X W (.Call (.Attribute o m apos) [] [] pos) (dMethN sp C m 0 0 sel to dNil dNil):=by
  refine ⟨fun pins s σ H Q I ⟨G,so,sl,Q',E,rep,q,hq,hx⟩=>?_⟩
  refine PySem.W.methodCall_KW (pl:=pl) (thn (he.run pins s σ H (fun v H1=>∃ G1 s1 fs,PostE X.K G so σ H sl v H1 G1 (.d (.ins C fs)) s1∧fs.lookup m=none∧sp (sel.map (pickD [.d (.ins C fs)] [])) (fun v=>Q' v s1) fun cls fs=>E cls fs s1) I
    ⟨G,so,sl,_,E,rep,q,fun v H1 G1 dv s1 p1 z=>?_,hx⟩) fun u s1 ⟨x,H1,I1,rx,G1,sl1,fs,p1,l,z⟩=>?_) ht
  · obtain ⟨G2,p2⟩:=p1.pub
    split at z
    · rename_i D fs ed
      obtain ⟨rfl,l,z⟩:=z
      exact ⟨G2,s1,fs,by rw [← ed];exact p2,l,z.2.2⟩
    · exact z.elim
  · obtain ⟨a,dx,vs,ex,ea,fa⟩:=VOk.inst p1.rep.h p1.val rfl
    subst ex
    obtain rfl:u=Value.ref a:=rx
    refine getmeth_ok I1 ea c hm (fa.lookN l) ?_
    exact PySem.W.callWith_K0 (first:=[.ref a]) I1.kIn hm.kp (run_fnN (us:=[.ref a]) (vs:=[.ref a]) (ds:=[.d (.ins C fs)]) (ws:=[]) (qs:=[]) (es:=[]) F hr hgd tk hb I1 p1.rep (.cons rfl .nil) .nil (.cons p1.val (fun _ e=>(nomatch e)) .nil) .nil rfl rfl z (fun v H' G' dv sl' pe z'=>hq v H' G' dv sl' (p1.toPost.thenN pe) z') (hx.step p1.toPost))
end
def FT.nameF:List (Str × FT)→List FT→List (Str × FT)
  | (f,_)::r,y::ys=>(f,y)::FT.nameF r ys
  | _,_=>[]
def getP:Fl→List Nat→Option FT
  | _,[]=>none
  | fl,[k]=>fl[k]?
  | fl,k::j::r=>match fl[k]? with
    | some (.lst _ xs)=>getP xs (j::r)
    | some (.ins _ _ fs)=>getP (fs.map (·.2)) (j::r)
    | _=>none
def setP:Fl→List Nat→FT→Fl
  | fl,[],_=>fl
  | fl,[k],t=>fl.set k t
  | fl,k::j::r,t=>match fl[k]? with
    | some (.lst a xs)=>fl.set k (.lst a (setP xs (j::r) t))
    | some (.ins a C fs)=>fl.set k (.ins a C (FT.nameF fs (setP (fs.map (·.2)) (j::r) t)))
    | _=>fl
theorem setP_len:∀ (p:List Nat) (fl:Fl) (t:FT),(setP fl p t).length=fl.length
  | [],fl,t=>by unfold setP;rfl
  | [k],fl,t=>by unfold setP;rw [List.length_set]
  | k::j::r,fl,t=>by
    unfold setP
    split
    · rw [List.length_set]
    · rw [List.length_set]
    · rfl
theorem asF_map:∀ (fs:List (Str × FT)),FT.asF fs=FT.asL (fs.map (·.2))
  | []=>by rw [FT.asF,List.map_nil,FT.asL]
  | (f,x)::r=>by rw [FT.asF,List.map_cons,FT.asL,asF_map r]
theorem nameF_map:∀ (fs:List (Str × FT)) (ys:List FT),ys.length=fs.length→(FT.nameF fs ys).map (·.2)=ys
  | [],[],_=>rfl
  | (f,x)::r,y::ys,h=>by
    rw [FT.nameF,List.map_cons,nameF_map r ys (by simpa using h)]
  | [],_::_,h=>by simp at h
  | _::_,[],h=>by simp at h
section
variable {K:PySem.W.Frag} {G H H':Hp}
theorem FOkF.vals:∀ {vs:List (Str × V)} {fs:List (Str × FT)},FOkF K G H vs fs→FOkL K G H (vs.map (·.2)) (fs.map (·.2))
  | _,_,.nil=>.nil
  | _,_,.cons h r=>.cons h (FOkF.vals r)
theorem FOkF.name:∀ {vs:List (Str × V)} {fs:List (Str × FT)} {ys:List FT},FOkF K G H vs fs→FOkL K G H' (vs.map (·.2)) ys→FOkF K G H' vs (FT.nameF fs ys)
  | _,_,_,.nil,h=>by cases h;exact .nil
  | _,_,_,.cons h r,q=>by
    cases q with
    | cons q1 q2=>exact .cons q1 (FOkF.name r q2)
theorem place:∀ (k:Nat) {vs:List V} {fl:Fl} {t:FT},FOkL K G H vs fl→fl[k]?=some t→∃ v R,vs[k]?=some v∧FOk K G H v t∧(FT.asL fl).Perm (t.as++R)∧∀ t',(FT.asL (fl.set k t')).Perm (t'.as++R)∧∀ H',(∀ b∈R,H' b=H b)→FOk K G H' v t'→FOkL K G H' vs (fl.set k t')
  | 0,_,_,_,.cons (vs:=us) (x:=x) (xs:=r) h q,e=>by
    simp at e;subst e
    refine ⟨_,FT.asL r,rfl,h,by rw [asF_cons],fun t'=>⟨by rw [List.set_cons_zero,asF_cons],fun H' kp w=>.cons w (q.keep (Ex.refl G) kp)⟩⟩
  | k + 1,_,_,_,.cons (x:=x) (xs:=r) h q,e=>by
    obtain ⟨v,R,e1,e2,e3,e4⟩:=place k q (by simpa using e)
    refine ⟨v,x.as++R,by simpa using e1,e2,?_,fun t'=>⟨?_,fun H' kp w=>.cons (h.keep (Ex.refl G) fun b m=>kp b (List.mem_append_left _ m)) ((e4 t').2 H' (fun b m=>kp b (List.mem_append_right _ m)) w)⟩⟩
    · rw [asF_cons]
      exact (List.Perm.append_left _ e3).trans (by rw [← List.append_assoc,← List.append_assoc];exact List.Perm.append_right _ List.perm_append_comm)
    · rw [List.set_cons_succ,asF_cons]
      exact (List.Perm.append_left _ (e4 t').1).trans (by rw [← List.append_assoc,← List.append_assoc];exact List.Perm.append_right _ List.perm_append_comm)
  | _,_,_,_,.nil,e=>by simp at e
theorem path_at:∀ (p:List Nat) {vs:List V} {fl:Fl} {t:FT},FOkL K G H vs fl→(FT.asL fl).Nodup→getP fl p=some t→∃ v R,FOk K G H v t∧(FT.asL fl).Perm (t.as++R)∧∀ t',(FT.asL (setP fl p t')).Perm (t'.as++R)∧∀ H',(∀ b∈R,H' b=H b)→FOk K G H' v t'→FOkL K G H' vs (setP fl p t')
  | [],_,_,_,_,_,e=>by unfold getP at e;cases e
  | [k],vs,fl,t,h,nd,e=>by
    unfold getP at e
    obtain ⟨v,R,_,e2,e3,e4⟩:=place k h e
    refine ⟨v,R,e2,e3,fun t'=>?_⟩
    unfold setP
    exact e4 t'
  | k::j::r,vs,fl,t,h,nd,e=>by
    unfold getP at e
    split at e
    · rename_i a xs ek
      obtain ⟨w,R,_,e2,e3,e4⟩:=place k h ek
      cases e2 with
      | lst ha hx=>
        rename_i us
        have n1:=(List.nodup_append.mp (e3.nodup_iff.mp nd)).1
        rw [FT.as,List.nodup_cons] at n1
        obtain ⟨v,R2,f2,f3,f4⟩:=path_at (j::r) hx n1.2 e
        refine ⟨v,a::R2++R,f2,e3.trans ?_,fun t'=>?_⟩
        · rw [FT.as]
          show (a::(FT.asL xs++R)).Perm _
          exact ((List.Perm.append_right R f3).cons a).trans (by rw [List.append_assoc];exact List.perm_middle.symm)
        · have es:setP fl (k::j::r) t'=fl.set k (.lst a (setP xs (j::r) t')):=by rw [setP];split<;>simp_all
          rw [es]
          refine ⟨(e4 _).1.trans ?_,fun H' kp w2=>(e4 _).2 H' (fun b m=>kp b (List.mem_append_right _ m)) (.lst (by rw [kp a (by simp)];exact ha) ((f4 t').2 H' (fun b m=>kp b (List.mem_append_left _ (List.mem_cons_of_mem _ m))) w2))⟩
          rw [FT.as]
          show (a::(FT.asL (setP xs (j::r) t')++R)).Perm _
          exact ((List.Perm.append_right R (f4 t').1).cons a).trans (by rw [List.append_assoc];exact List.perm_middle.symm)
    · rename_i a C fs ek
      obtain ⟨w,R,_,e2,e3,e4⟩:=place k h ek
      cases e2 with
      | ins ha hg hx=>
        rename_i dx us
        have n1:=(List.nodup_append.mp (e3.nodup_iff.mp nd)).1
        rw [FT.as,List.nodup_cons,asF_map] at n1
        obtain ⟨v,R2,f2,f3,f4⟩:=path_at (j::r) hx.vals n1.2 e
        refine ⟨v,a::R2++R,f2,e3.trans ?_,fun t'=>?_⟩
        · rw [FT.as,asF_map]
          show (a::(FT.asL (fs.map (·.2))++R)).Perm _
          exact ((List.Perm.append_right R f3).cons a).trans (by rw [List.append_assoc];exact List.perm_middle.symm)
        · have es:setP fl (k::j::r) t'=fl.set k (.ins a C (FT.nameF fs (setP (fs.map (·.2)) (j::r) t'))):=by rw [setP];split<;>simp_all
          have ln:(setP (fs.map (·.2)) (j::r) t').length=fs.length:=by rw [setP_len,List.length_map]
          rw [es]
          refine ⟨(e4 _).1.trans ?_,fun H' kp w2=>(e4 _).2 H' (fun b m=>kp b (List.mem_append_right _ m)) (.ins (by rw [kp a (by simp)];exact ha) hg (hx.name ((f4 t').2 H' (fun b m=>kp b (List.mem_append_left _ (List.mem_cons_of_mem _ m))) w2)))⟩
          rw [FT.as,asF_map,nameF_map _ _ ln]
          show (a::(FT.asL (setP (fs.map (·.2)) (j::r) t')++R)).Perm _
          exact ((List.Perm.append_right R (f4 t').1).cons a).trans (by rw [List.append_assoc];exact List.perm_middle.symm)
    · cases e
end
def noBl:DSt→Bool
  | []=>true
  | some (.bor (.lst _))::_=>false
  | some (.bor (.ins _ _ _))::_=>false
  | _::r=>noBl r
theorem noBl_get:∀ {sl:DSt} {j:Nat} {o:OO},noBl sl=true→sl[j]?=some (some (.bor o))→(∃ ks,o=.dk ks)∨∃ ks,o=.dt ks
  | [],j,_,_,e=>by simp at e
  | z::r,0,o,h,e=>by
    simp at e;subst e
    cases o with
    | dk ks=>exact .inl ⟨ks,rfl⟩
    | dt ks=>exact .inr ⟨ks,rfl⟩
    | lst _=>cases h
    | ins _ _ _=>cases h
  | z::r,j + 1,o,h,e=>by
    refine noBl_get (sl:=r) (j:=j) ?_ (by simpa using e)
    unfold noBl at h
    split at h
    · rename_i q;cases q
    · cases h
    · cases h
    · rename_i q;cases q;exact h
section
variable {K:PySem.W.Frag} {W:WX} {G G1:Hp} {so:So} {σ:L2.St} {H H1:Hp} {sl s1:DSt} {fl f1:Fl} {v:V} {t:FT} {p:List Nat}
theorem FlOk.at (h:FlOk K G so σ H sl fl) (e:getP fl p=some t):∃ v,FOk K G H v t:=by
  obtain ⟨vs,k⟩:=h.ok
  obtain ⟨v,_,f,_⟩:=path_at p k h.nod e
  exact ⟨v,f⟩
theorem Rep.updF {a:Addr} {u:HO} (r:Rep K G so σ H sl) (li:LiA H a) (n:so.Nt a) (g:G a=none) (w:¬ Own sl σ a) (nb:noBl sl=true) (nt:∀ xs,u≠.tup xs):Rep K G so σ (upd H a u) sl:=by
  refine ⟨⟨fun b o q=>by rw [upd_ne (ne_of_none q g)];exact r.h.ex b o q,fun b k q=>(r.h.vol b k q).keep (Ex.refl G) (r.h.vol b k q).g (upd_ne fun z=>n (z ▸ ⟨k,q⟩)),r.h.ok,tp_upd r.h.tp nt⟩,r.len,fun i dv e=>?_,r.sep,r.bor,r.nse⟩
  obtain ⟨x,e1,e2⟩:=r.slots i dv e
  refine ⟨x,e1,?_⟩
  cases dv with
  | d z=>exact e2
  | src=>exact e2
  | own o=>
    obtain ⟨b,rfl,q2,q3,q4⟩:=e2
    exact ⟨b,rfl,q2,q3,q4.keep (Ex.refl G) (upd_ne fun z=>w (z ▸ ⟨i,o,e,e1⟩))⟩
  | bor o=>
    obtain ⟨b,rfl,q2,q3⟩:=e2
    refine ⟨b,rfl,q2,q3.keep (Ex.refl G) (upd_ne fun z=>?_)⟩
    subst z
    rcases li with ⟨zs,k⟩ | ⟨C,dx,zs,k⟩
    · rcases noBl_get nb e with ⟨ks,rfl⟩ | ⟨ks,rfl⟩<;>(obtain ⟨_,_,y,_⟩:=q3;rw [k] at y;cases y)
    · rcases noBl_get nb e with ⟨ks,rfl⟩ | ⟨ks,rfl⟩<;>(obtain ⟨_,_,y,_⟩:=q3;rw [k] at y;cases y)
  | see o=>exact absurd e (r.nse i o)
  | mu y C fs=>exact SlOk.muU e2 (Ex.refl G) n
  | gh y gr=>exact SlOk.ghU e2 (Ex.refl G) n
theorem node_upd {a:Addr} {u:HO} {x t':FT} {S:List Addr} (r:Rep K G so σ H sl) (fo:FlOk K G so σ H sl (x::fl)) (e:getP fl p=some t) (ha:a∈t.as) (nb:noBl sl=true) (nt:∀ xs,u≠.tup xs) (pm:(x.as++t.as).Perm (t'.as++S)) (w:∀ v,FOk K G H v t→FOk K G (upd H a u) v t') :
    PostF K G so σ H sl (x::fl) σ (upd H a u) G sl (setP fl p t'):=by
  obtain ⟨vs,k⟩:=fo.tail.ok
  have nd:=fo.nod
  rw [asF_cons] at nd
  obtain ⟨v,R,f1,f2,f3⟩:=path_at p k fo.tail.nod e
  have ai:a∈FT.asL (x::fl):=by rw [asF_cons];exact List.mem_append_right _ (f2.mem_iff.mpr (List.mem_append_left _ ha))
  obtain ⟨n,g,ow⟩:=fo.own a ai
  have nR:a∉R:=fun m=>(List.nodup_append.mp (f2.nodup_iff.mp fo.tail.nod)).2.2 a ha a m rfl
  obtain ⟨p1,p2⟩:=f3 t'
  have all:(x.as++FT.asL fl).Perm (t'.as++R++S):=by
    have q1:=List.Perm.append_left x.as f2
    have q2:=List.Perm.append_right R pm
    have q3:(t'.as++(S++R)).Perm (t'.as++(R++S)):=List.Perm.append_left t'.as List.perm_append_comm
    rw [← List.append_assoc] at q1
    rw [List.append_assoc t'.as] at q2
    rw [List.append_assoc]
    exact q1.trans (q2.trans q3)
  have nd2:=(List.nodup_append.mp (all.nodup_iff.mp nd)).1
  have sub:∀ b∈FT.asL (setP fl p t'),b∈FT.asL (x::fl):=fun b m=>by
    rw [asF_cons]
    exact all.mem_iff.mpr (List.mem_append_left _ (p1.mem_iff.mp m))
  refine ⟨Ex.refl G,r.updF (FOk.li f1 a ha) n g ow nb nt,⟨⟨vs,p2 _ (fun b m=>upd_ne (fun (z:b=a)=>nR (by rw [← z];exact m))) (w v f1)⟩,p1.nodup_iff.mpr nd2,fun b m=>fo.own b (sub b m)⟩,fun b o eb _ _ z=>by rw [upd_ne (fun (y:b=a)=>z (by rw [y];exact ai))];exact eb,fun b _ gb _ _ _=>gb,fun b _ _ wb z=>⟨wb,fun m=>z (sub b m)⟩,rfl⟩
end
abbrev TP:=DSt→Fl→(Addr→Prop)→Prop
def upP (K:PySem.W.Frag) (t:TP):TE:=fun σ H R=>∃ G so sl fl Q,Rep K G so σ H sl∧FlOk K G so σ H sl fl∧t sl fl Q∧∀ a,Q a→R (.ref a) H
def FP (X:Cx) (e:Expr) (t:TP):Prop:=PE X e (upP X.K t)
def pVar (i:Nat):TP:=fun sl _ Q=>∃ a,sl[i]?=some (some (.d (.raw (.ref a))))∧Q a
def pIx (t:TP) (n:Int):TP:=fun sl fl Q=>t sl fl fun a=>∃ p xs x b,getP fl p=some (.lst a xs)∧atI xs n=some x∧x.top=.raw (.ref b)∧Q b
section
variable {K:PySem.W.Frag} {G H:Hp}
theorem FOk.root' {v:V} {x:FT} {b:Addr} (h:FOk K G H v x) (e:x.top=.raw (.ref b)):v=.ref b:=by
  cases h with
  | leaf h=>unfold FT.top at e;subst e;cases h;rfl
  | lst h r=>unfold FT.top at e;cases e;rfl
  | ins h g r=>unfold FT.top at e;cases e;rfl
theorem FOkL.get:∀ {vs:List V} {xs:List FT} {i:Nat} {x:FT},FOkL K G H vs xs→xs[i]?=some x→∃ v,vs[i]?=some v∧FOk K G H v x
  | _,_,_,_,.nil,e=>by simp at e
  | _,_,0,_,.cons h _,e=>by simp at e;subst e;exact ⟨_,rfl,h⟩
  | _,_,i + 1,_,.cons _ t,e=>by
    obtain ⟨v,h1,h2⟩:=FOkL.get (i:=i) t (by simpa using e)
    exact ⟨v,by simpa using h1,h2⟩
theorem FOkL.atN {vs:List V} {xs:List FT} {n:Int} {x:FT} (h:FOkL K G H vs xs) (e:atI xs n=some x):∃ v,atI vs n=some v∧FOk K G H v x:=by
  unfold atI at e ⊢
  rw [h.len]
  obtain ⟨j,e1,e2⟩:=Option.bind_eq_some_iff.mp e
  obtain ⟨v,k1,k2⟩:=h.get e2
  exact ⟨v,by rw [e1];exact k1,k2⟩
end
section
variable {X:Cx} {W:WX} {o key e value:Expr} {tp:TP} {te tk:TFE} {i:Nat} {n:Int} {C:Addr} {f g:Str} {pos pos':Pos}
theorem fp_var (ho:PE X o (tVar i)):FP X o (pVar i):=pe_imp ho fun σ H R ⟨G,so,sl,fl,Q,rep,fo,⟨a,e,q⟩,hq⟩=>by
  obtain ⟨v,e1,e2⟩:=rep.slots i _ e
  obtain rfl:v=.ref a:=by cases e2;rfl
  exact ⟨_,e1,hq a q⟩
theorem fp_ix (h:FP X o tp) (hk:PE X key (tC (.int n))) (hp:PlainIx key):FP X (.Subscript o key pos) (pIx tp n):=pe_imp (pe_ix ix_list h hk hp) fun σ H R ⟨G,so,sl,fl,Q,rep,fo,q,hq⟩=>
  ⟨G,so,sl,fl,_,rep,fo,q,fun a ⟨p,xs,x,b,e1,e2,e3,z⟩=>by
    obtain ⟨v,w⟩:=fo.at e1
    cases w with
    | lst ha hx=>
      obtain ⟨y,k1,k2⟩:=hx.atN e2
      obtain rfl:=k2.root' e3
      exact ⟨a,_,n,.ref b,rfl,rfl,SqL.of ha,k1,hq b z⟩⟩
def fApp (tp:TP) (te:TFE):TDF:=fun E sl fl=>tp sl fl fun a=>(∃ p xs,getP fl p=some (.lst a xs))∧te sl fl (fun x s f=>∃ p xs,getP f p=some (.lst a xs)∧noBl s=true∧xs.length < szl∧E.nx s (setP f p (.lst a (xs++[x])))) E.xc
theorem fs_app (ho:FP X o tp) (hv:FE X W value te) (hbase:attributeBase o "append" X.env (eval o X.env)=eval o X.env:=by rfl)
    (hfew:((backTo pos (starEach [value] X.env)).all (fun x=>!x.1) && (backToKw pos (keywordEach [] X.env)).all (fun x=>x.1.isSome)
      && decide ([value].length + ([]:List Keyword).length + (if ([]:List Keyword).isEmpty then 0 else 1) < 30))=true:=by rfl)
    (hline:(pos'.endLine == pos.line)=true:=by rfl) (hs:starEach [value] X.env=(false,eval value X.env)::starEach [] X.env:=by rfl) (hplain:(backTo pos (starEach [] X.env)).any (·.1)=false:=by rfl) {spos:Pos}
    (hsw:swapsWith (.Call (.Attribute o "append" pos') [value] [] pos) none spos.line X.env=pure false:=by rfl) :
    FS X W (.Expr (.Call (.Attribute o "append" pos') [value] [] pos) spos) (fApp tp te):=by
  refine ps_imp (ps_expr (pe_bm PySem.F.plainAttrs_list PySem.F.slot_list_append PySem.F.type_list_append mt_append ho (pa_cons hv pa_nil hs) hbase hfew hline hs hplain) hsw) fun D σ H ⟨G,so,sl,fl,E,rep,fo,q,ok⟩=>?_
  refine ⟨G,so,sl,fl,_,rep,fo,q,fun a ⟨⟨p0,xs0,e0⟩,q⟩=>?_⟩
  obtain ⟨v0,w0⟩:=fo.at e0
  cases w0 with
  | lst h0 _=>
    refine ⟨.inl ⟨rfl,_,SqL.of h0⟩,?_⟩
    refine ⟨G,so,sl,fl,_,E.xc,rep,fo,q,fun y H1 G1 x s1 f1 p1 z=>?_,ok.xc⟩
    obtain ⟨p,xs,e1,nb,l,z⟩:=z
    obtain ⟨v1,w1⟩:=p1.flo.tail.at e1
    cases w1 with
    | lst h1 hx=>
      rename_i us
      refine ⟨a,us,y,rfl,rfl,h1,by rw [hx.len];exact l,?_⟩
      have nd:=p1.flo.nod
      rw [asF_cons] at nd
      obtain ⟨vs,kk⟩:=p1.flo.tail.ok
      obtain ⟨v2,R,g1,g2,_⟩:=path_at p kk p1.flo.tail.nod e1
      have nt:=(List.nodup_append.mp (g2.nodup_iff.mp p1.flo.tail.nod)).1
      rw [FT.as,List.nodup_cons] at nt
      have nx:a∉x.as:=fun m=>(List.nodup_append.mp nd).2.2 a m a (g2.mem_iff.mpr (List.mem_append_left _ (by rw [FT.as];exact List.mem_cons_self ..))) rfl
      have pu:=node_upd (a:=a) (u:=.lst (us++[y])) (x:=x) (t':=.lst a (xs++[x])) (S:=[]) p1.rep p1.flo e1 (by rw [FT.as];exact List.mem_cons_self ..) nb (fun _ z=>nomatch z) (by
        rw [FT.as,FT.as,asLF_app,FT.asL,FT.asL,List.append_nil,List.append_nil]
        exact List.perm_append_comm) fun v hv=>by
          cases hv with
          | lst h2 hx2=>
            rw [h1] at h2;cases h2
            exact .lst upd_same ((hx2.keep (Ex.refl _) fun b m=>upd_ne (fun (z:b=a)=>nt.1 (by rw [← z];exact m))).app (.cons (p1.val.keep (Ex.refl _) fun b m=>upd_ne (fun (z:b=a)=>nx (by rw [← z];exact m))) .nil))
      exact ok.nx σ _ G1 s1 _ (p1.toPostF.trans pu) z
end
section
variable {K:PySem.W.Frag} {W:WX} {G G1 G2:Hp} {so:So} {σ σ1:L2.St} {H H1 H2:Hp} {sl s1 s2:DSt} {fl f1 f2:Fl} {v:V} {t x:FT} {xs:List FT}
theorem PostF.hide (fo:FlOk K G so σ H sl (xs++fl)) (p:PostF K G so σ H sl fl σ1 H1 G1 s1 f1):PostF K G so σ H sl (xs++fl) σ1 H1 G1 s1 (xs++f1)∧(∀ a∈FT.asL xs,H1 a=H a):=by
  have nd:=fo.nod
  rw [asLF_app] at nd
  have nd:=List.nodup_append.mp nd
  have mx:∀ a∈FT.asL xs,a∈FT.asL (xs++fl):=fun a m=>by rw [asLF_app];exact List.mem_append_left _ m
  have nf:∀ a∈FT.asL xs,a∉FT.asL fl:=fun a m z=>nd.2.2 a m a z rfl
  have kx:∀ a∈FT.asL xs,H1 a=H a:=fun a m=>by
    obtain ⟨o,e⟩:=Option.ne_none_iff_exists'.mp (fo.there (mx a m))
    obtain ⟨s,g,w⟩:=fo.own a (mx a m)
    rw [e,p.keep a o e s w (nf a m)]
  have sx:∀ a∈FT.asL xs,¬ Own s1 σ1 a∧a∉FT.asL f1:=fun a m=>p.sub a (fo.there (mx a m)) (fo.own a (mx a m)).1 (fo.own a (mx a m)).2.2 (nf a m)
  have out:∀ a,a∉FT.asL (xs++fl)→a∉FT.asL fl:=fun a z m=>z (by rw [asLF_app];exact List.mem_append_right _ m)
  refine ⟨⟨p.ex,p.rep,⟨?_,?_,fun a m=>?_⟩,fun a o e s w z=>p.keep a o e s w (out a z),fun a n g s w z=>p.frm a n g s w (out a z),fun a n s w z=>⟨(p.sub a n s w (out a z)).1,fun m=>?_⟩,p.ln⟩,kx⟩
  · obtain ⟨us,q⟩:=fo.ok
    obtain ⟨us1,q1⟩:=p.flo.ok
    have cutL:∀ {xs:List FT} {us:List V},FOkL K G H us (xs++fl)→∃ ws,FOkL K G H ws xs:=by
      intro xs
      induction xs with
      | nil=>exact fun _=>⟨[],.nil⟩
      | cons y r ih=>
        intro us h
        cases h with
        | cons h1 h2=>
          obtain ⟨ws,q⟩:=ih h2
          exact ⟨_,.cons h1 q⟩
    obtain ⟨ws,q2⟩:=cutL q
    exact ⟨_,(q2.keep p.ex kx).app q1⟩
  · rw [asLF_app]
    exact List.nodup_append.mpr ⟨nd.1,p.flo.nod,fun y hy z hz e=>(sx y hy).2 (e ▸ hz)⟩
  · rw [asLF_app] at m
    rcases List.mem_append.mp m with m | m
    · exact ⟨(fo.own a (mx a m)).1,p.frm a (fo.there (mx a m)) (fo.own a (mx a m)).2.1 (fo.own a (mx a m)).1 (fo.own a (mx a m)).2.2 (nf a m),(sx a m).1⟩
    · exact p.flo.own a m
  · rw [asLF_app] at m
    rcases List.mem_append.mp m with m | m
    · exact z (mx a m)
    · exact (p.sub a n s w (out a z)).2 m
theorem PostF.hide1 (fo:FlOk K G so σ H sl (x::fl)) (p:PostF K G so σ H sl fl σ1 H1 G1 s1 f1):PostF K G so σ H sl (x::fl) σ1 H1 G1 s1 (x::f1)∧(∀ a∈x.as,H1 a=H a):=by
  obtain ⟨h1,h2⟩:=PostF.hide (xs:=[x]) fo p
  exact ⟨h1,fun a m=>h2 a (by rw [asF_cons];exact List.mem_append_left _ m)⟩
theorem PostF.alloc {l:Addr} {u:HO} {y:FT} {vs:List V} (p:PostF K G so σ H sl fl σ1 H1 G1 s1 (xs++f1)) (n:H1 l=none) (ey:y.as=l::FT.asL xs) (ok:FOk K G1 (upd H1 l u) v y) (nt:∀ zs,u≠.tup zs) :
    PostF K G so σ H sl fl σ1 (upd H1 l u) G1 s1 (y::f1):=by
  have k:∀ a o,H1 a=some o→upd H1 l u a=some o:=fun a o e=>Ex.new n a o e
  have ff:∀ a∈FT.asL (xs++f1),a≠l:=fun a m z=>p.flo.there m (z ▸ n)
  have asy:FT.asL (y::f1)=l::FT.asL (xs++f1):=by rw [asF_cons,ey,asLF_app];rfl
  have nl:so.Nt l:=p.rep.h.there n
  have ownl:¬ Own s1 σ1 l:=fun w=>(p.rep.nown w).1 n
  refine ⟨p.ex,⟨p.rep.h.alloc n nt,p.rep.len,fun i dv e=>?_,p.rep.sep,p.rep.bor,p.rep.nse⟩,⟨?_,?_,fun a m=>?_⟩,fun a o e s w z=>k a o (p.keep a o e s w z),p.frm,fun a n1 s w z=>⟨(p.sub a n1 s w z).1,fun m=>?_⟩,p.ln⟩
  · obtain ⟨w,e1,e2⟩:=p.rep.slots i dv e
    refine ⟨w,e1,SlOk.keep e2 p.rep.h.ok (Ex.refl _) (fun a o q _=>k a o q) fun a o ed q=>?_⟩
    subst ed;subst q
    exact (p.rep.nown ⟨i,o,e,e1⟩).2.1
  · obtain ⟨us1,q1⟩:=p.flo.ok
    have dropL:∀ {xs:List FT} {us:List V},FOkL K G1 H1 us (xs++f1)→∃ ws,FOkL K G1 H1 ws f1:=by
      intro xs
      induction xs with
      | nil=>exact fun h=>⟨_,h⟩
      | cons y r ih=>
        intro us h
        cases h with
        | cons h1 h2=>exact ih h2
    obtain ⟨ws,q2⟩:=dropL q1
    exact ⟨_,.cons ok (q2.keep (Ex.refl _) fun a m=>upd_ne (ff a (by rw [asLF_app];exact List.mem_append_right _ m)))⟩
  · rw [asy]
    exact List.nodup_cons.mpr ⟨fun m=>ff l m rfl,p.flo.nod⟩
  · rw [asy] at m
    rcases List.mem_cons.mp m with rfl | m
    · exact ⟨nl,p.rep.h.ex.free n,ownl⟩
    · exact p.flo.own a m
  · rw [asy] at m
    rcases List.mem_cons.mp m with rfl | m
    · obtain ⟨o,e⟩:=Option.ne_none_iff_exists'.mp n1
      rw [p.keep a o e s w z] at n;cases n
    · exact (p.sub a n1 s w z).2 m
theorem place2:∀ (k:Nat) {vs:List V} {fl:Fl} {t:FT},FOkL K G H vs fl→fl[k]?=some t→∃ v ws,FOk K G H v t∧FOkL K G H ws (fl.eraseIdx k)∧(FT.asL fl).Perm (t.as++FT.asL (fl.eraseIdx k))
  | 0,_,_,_,.cons h q,e=>by
    simp at e;subst e
    exact ⟨_,_,h,q,by rw [asF_cons,List.eraseIdx_cons_zero]⟩
  | k + 1,_,_,_,.cons (x:=x) h q,e=>by
    obtain ⟨v,ws,e1,e2,e3⟩:=place2 k q (by simpa using e)
    refine ⟨v,_,e1,.cons h e2,?_⟩
    rw [asF_cons,List.eraseIdx_cons_succ,asF_cons]
    exact (List.Perm.append_left _ e3).trans (by rw [← List.append_assoc,← List.append_assoc];exact List.Perm.append_right _ List.perm_append_comm)
  | _,_,_,_,.nil,e=>by simp at e
theorem FlOk.take {k:Nat} (fo:FlOk K G so σ H sl fl) (e:fl[k]?=some t):FlOk K G so σ H sl (t::fl.eraseIdx k)∧(∃ v,FOk K G H v t)∧∀ a,a∉FT.asL fl→a∉FT.asL (t::fl.eraseIdx k):=by
  obtain ⟨vs,q⟩:=fo.ok
  obtain ⟨v,ws,e1,e2,e3⟩:=place2 k q e
  have pm:(FT.asL fl).Perm (FT.asL (t::fl.eraseIdx k)):=by rw [asF_cons];exact e3
  exact ⟨⟨⟨_,.cons e1 e2⟩,pm.nodup_iff.mp fo.nod,fun a m=>fo.own a (pm.mem_iff.mpr m)⟩,⟨v,e1⟩,fun a n m=>n (pm.mem_iff.mpr m)⟩
end
section
variable {K:PySem.W.Frag} {G H:Hp} {y:V} {x:FT}
end
def xVar (i:Nat):TFE:=fun sl fl Q _=>∃ k a x,sl[i]?=some (some (.d (.raw (.ref a))))∧fl[k]?=some x∧x.top=.raw (.ref a)∧Q x sl (fl.eraseIdx k)
abbrev TFA:=DSt→Fl→(List FT→DSt→Fl→Prop)→XP→Prop
def upFA (K:PySem.W.Frag) (W:WX) (t:TFA):TA:=fun σ H R=>∃ G so sl fl Q E,Rep K G so σ H sl∧FlOk K G so σ H sl fl∧t sl fl Q E∧(∀ vs H' G' xs sl' fl',PostF K G so σ H sl fl σ H' G' sl' (xs++fl')→FOkL K G' H' vs xs→Q xs sl' fl'→R vs H')∧XOkF K W G so σ H sl fl E
def FA (X:Cx) (W:WX) (es:List Expr) (t:TFA):Prop:=PA X es (upFA X.K W t)
def xaNil:TFA:=fun sl fl Q _=>Q [] sl fl
def xaCons (te:TFE) (ta:TFA):TFA:=fun sl fl Q E=>te sl fl (fun x s f=>ta s f (fun xs s2 f2=>Q (x::xs) s2 f2) E) E
def xList (ta:TFA):TFE:=fun sl fl Q E=>ta sl fl (fun xs s f=>xs.length≤szl∧∀ a,Q (.lst a xs) s f) E
section
variable {X:Cx} {W:WX} {o e key value:Expr} {es:List Expr} {te tk:TFE} {ta:TFA} {tp:TP} {td:TD} {tn:TDN} {i:Nat} {pos pos':Pos} {C:Addr} {g:Str}
theorem fe_var (ho:PE X o (tVar i)):FE X W o (xVar i):=pe_imp ho fun σ H R ⟨G,so,sl,fl,Q,E,rep,fo,⟨k,a,x,e,ek,et,q⟩,hq,_⟩=>by
  obtain ⟨v,e1,e2⟩:=rep.slots i _ e
  obtain rfl:v=.ref a:=by cases e2;rfl
  obtain ⟨f1,⟨w,f2⟩,f3⟩:=fo.take ek
  obtain rfl:=f2.root' et
  exact ⟨_,e1,hq (.ref a) H G x sl _ ⟨⟨Ex.refl G,rep,f1,fun _ _ q _ _ _=>q,fun _ _ q _ _ _=>q,fun b _ _ w z=>⟨w,f3 b z⟩,rfl⟩,f2⟩ q⟩
theorem fa_nil:FA X W [] xaNil:=pa_imp pa_nil fun σ H R ⟨G,so,sl,fl,Q,E,rep,fo,q,hq,_⟩=>hq [] H G [] sl fl (.refl rep fo) .nil q
theorem fa_cons (he:FE X W e te) (ha:FA X W es ta) (hs:starEach (e::es) X.env=(false,eval e X.env)::starEach es X.env:=by rfl):FA X W (e::es) (xaCons te ta):=pa_imp (pa_cons he ha hs) fun σ H R ⟨G,so,sl,fl,Q,E,rep,fo,q,hq,hx⟩=>
  ⟨G,so,sl,fl,_,E,rep,fo,q,fun v H1 G1 x s1 f1 p1 q1=>
    ⟨G1,so,s1,f1,_,E,p1.rep,p1.flo.tail,q1,fun vs H2 G2 xs s2 f2 p2 w q2=>by
      obtain ⟨p3,k⟩:=PostF.hide1 p1.flo p2
      exact hq (v::vs) H2 G2 (x::xs) s2 f2 (p1.toPostF.trans p3) (.cons (p1.val.keep p2.ex k) w) q2,hx.step p1.toPostF.tail⟩,hx⟩
theorem fe_list (ha:FA X W es ta):FE X W (.List es pos) (xList ta):=pe_imp (pe_lst ha) fun σ H R ⟨G,so,sl,fl,Q,E,rep,fo,q,hq,hx⟩=>
  ⟨G,so,sl,fl,_,E,rep,fo,q,fun vs H1 G1 xs s1 f1 p w q1=>⟨by rw [w.len,← szl_eq];exact q1.1,fun l n=>by
    have nf:∀ a∈FT.asL xs,a≠l:=fun a m z=>p.flo.there (show a∈FT.asL (xs++f1) by rw [asLF_app];exact List.mem_append_left _ m) (z ▸ n)
    have ok:FOk X.K G1 (upd H1 l (.lst vs)) (.ref l) (.lst l xs):=.lst upd_same (w.keep (Ex.refl _) fun a m=>upd_ne (nf a m))
    exact hq _ _ G1 (.lst l xs) s1 f1 ⟨PostF.alloc (vs:=vs) p n (by rw [FT.as]) ok (fun _ z=>nomatch z),ok⟩ (q1.2 l)⟩,hx⟩
end
def putFF (f:Str) (x:FT):List (Str × FT)→List (Str × FT)
  | []=>[(f,x)]
  | (g,y)::r=>if g=f then (g,x)::r else (g,y)::putFF f x r
section
variable {K:PySem.W.Frag} {G H H':Hp} {v:V} {x:FT} {f:Str}
theorem FOkF.put (h:FOk K G H v x):∀ {vs:List (Str × V)} {fs:List (Str × FT)},FOkF K G H vs fs→FOkF K G H (putF f v vs) (putFF f x fs)
  | _,_,.nil=>.cons h .nil
  | _,_,.cons (f:=g) q t=>by
    unfold putF putFF
    split
    · exact .cons h t
    · exact .cons q (FOkF.put h t)
theorem FOkF.len:∀ {vs:List (Str × V)} {fs:List (Str × FT)},FOkF K G H vs fs→vs.length=fs.length
  | _,_,.nil=>rfl
  | _,_,.cons _ t=>congrArg (· + 1) t.len
theorem putFF_as:∀ (fs:List (Str × FT)),∃ S,(x.as++FT.asF fs).Perm (FT.asF (putFF f x fs)++S)
  | []=>⟨[],by rw [putFF,FT.asF,FT.asF,FT.asF];simp⟩
  | (g,y)::r=>by
    unfold putFF
    split
    · refine ⟨y.as,?_⟩
      rw [FT.asF,FT.asF,List.append_assoc]
      exact List.Perm.append_left _ List.perm_append_comm
    · obtain ⟨S,h⟩:=putFF_as r
      refine ⟨S,?_⟩
      rw [FT.asF,FT.asF,List.append_assoc]
      refine List.Perm.trans ?_ (List.Perm.append_left y.as h)
      rw [← List.append_assoc,← List.append_assoc]
      exact List.Perm.append_right _ List.perm_append_comm
end
def fFld (tp:TP) (C:Addr) (g:Str) (te:TFE):TDF:=fun E sl fl=>te sl fl (fun x s f=>tp s f fun a=>∃ p fs,getP f p=some (.ins a C fs)∧fs.length < 1000∧noBl s=true∧E.nx s (setP f p (.ins a C (putFF g x fs)))) E.xc
section
variable {X:Cx} {W:WX} {o e value elt tg iter:Expr} {ifs:List Expr} {te:TFE} {tp:TP} {i:Nat} {pos pos' spos:Pos} {C:Addr} {g y:Str}
theorem fs_fld (c:Cls X.K C) (na:NoAttr X.K C g) (ho:FP X o tp) (hv:FE X W value te) (hs:swapsWith value (some (.Attribute o g pos')) pos.line X.env=pure false:=by rfl):FS X W (.Assign [.Attribute o g pos'] value pos) (fFld tp C g te):=by
  refine ps_imp (ps_fld ho hv hs) fun D σ H ⟨G,so,sl,fl,E,rep,fo,q,ok⟩=>?_
  refine ⟨G,so,sl,fl,_,E.xc,rep,fo,q,fun yv H1 G1 x s1 f1 p1 z=>?_,ok.xc⟩
  refine ⟨G1,so,s1,f1,_,p1.rep,p1.flo.tail,z,fun a ⟨p,fs,e1,l,nb,z⟩=>?_⟩
  obtain ⟨v1,w1⟩:=p1.flo.tail.at e1
  cases w1 with
  | ins h1 hg hx=>
    rename_i dx us
    refine ⟨a,C,dx,us,rfl,h1,c,na,by rw [hx.len];exact l,?_⟩
    have nd:=p1.flo.nod
    rw [asF_cons] at nd
    obtain ⟨vs,kk⟩:=p1.flo.tail.ok
    obtain ⟨v2,R,g1,g2,_⟩:=path_at p kk p1.flo.tail.nod e1
    have nt:=(List.nodup_append.mp (g2.nodup_iff.mp p1.flo.tail.nod)).1
    rw [FT.as,List.nodup_cons] at nt
    have nx:a∉x.as:=fun m=>(List.nodup_append.mp nd).2.2 a m a (g2.mem_iff.mpr (List.mem_append_left _ (by rw [FT.as];exact List.mem_cons_self ..))) rfl
    obtain ⟨S,hS⟩:=putFF_as (f:=g) (x:=x) fs
    have pu:=node_upd (a:=a) (u:=.ins C dx (putF g yv us)) (x:=x) (t':=.ins a C (putFF g x fs)) (S:=S) p1.rep p1.flo e1 (by rw [FT.as];exact List.mem_cons_self ..) nb (fun _ z=>nomatch z) (by
      rw [FT.as,FT.as]
      exact List.perm_middle.trans (hS.cons a)) fun v hv=>by
        cases hv with
        | ins h2 hg2 hx2=>
          rw [h1] at h2;cases h2
          have q1:=FOkF.keep (H':=upd H1 a (.ins C dx (putF g yv us))) (Ex.refl _) (fun b m=>upd_ne (fun (z:b=a)=>nt.1 (by rw [← z];exact m))) hx2
          have q2:=p1.val.keep (H':=upd H1 a (.ins C dx (putF g yv us))) (Ex.refl _) fun b m=>upd_ne (fun (z:b=a)=>nx (by rw [← z];exact m))
          exact .ins upd_same hg2 (q1.put q2)
    exact ok.nx σ _ G1 s1 _ (p1.toPostF.trans pu) z
end
def dLcF (ti:TDI) (g:TDG) (tt:TDT) (te:TDN) (vs:List Nat):TDN:=fun sl Q E=>ti sl (fun ds s1=>dLcW g tt te vs (fun ts s=>∀ C,Q (.lst C ts) s) ds [] (wipeD s1 vs)) E
section
variable {X:Cx} {W:WX} {elt tg iter:Expr} {ifs:List Expr} {scope:Scope} {own:List (Str × Nat)} {pos spos py:Pos} {ti:TDI} {g:TDG} {tt:TDT} {te:TDN} {ix:List Nat} {i:Nat} {y:Str}
theorem up_lcF {K:PySem.W.Frag} {n:Nat} {g':TG} {σ:L2.St} {H G:Hp} {so:So} {sl:DSt} {E:XP} {Q:FT→DSt→Prop} {R:VK} (vs:List Nat) (hl:σ.length=n) (sg:GSem K n ix g' g) (hix:∀ j,j∈ix→j∈vs) (rep:Rep K G so σ H sl)
    (q:dLcF ti g tt te vs sl Q E) (hx:XOk K W G so σ H sl E) (hq:∀ v H' G' t sl',PostN K G so σ H sl v H' G' t sl'→Q t sl'→R v H'):tLc (upI K W ti) g' (upT K W0 tt) (upN K W0 te) vs σ H R:=by
  refine up_lcW (Q:=fun ts s=>∀ C,Q (.lst C ts) s) vs hl sg hix rep q hx fun C H' G' sl' us ts p hC sC eC gC al ow nw nd z=>?_
  have asC:(FT.lst C ts).as=C::FT.asL ts:=by rw [FT.as]
  have nC:¬ Own sl' σ C:=fun w=>(rep.nown (p.sub C w)).1 hC
  have hb:∀ a∈(FT.lst C ts).as,∀ (i:Nat) (o:OO),sl'[i]?=some (some (.bor o))→σ[i]?=some (some (.ref a))→False:=fun a m i o e1 e2=>by
    obtain ⟨o1,e3⟩:=p.bsub i o e1
    obtain ⟨w,k1,k2⟩:=rep.slots i _ e3
    rw [e2] at k1;cases k1
    obtain ⟨b,z1,_,k⟩:=k2
    cases z1
    rw [asC] at m
    rcases List.mem_cons.mp m with rfl | m
    · exact k.there hC
    · rcases nw a m with n | n
      · exact k.there n
      · exact rep.bor i o1 a e3 e2 n
  have ho:∀ a∈(FT.lst C ts).as,so.Nt a∧G' a=none∧¬ Own sl' σ a:=fun a m=>by
    rw [asC] at m
    rcases List.mem_cons.mp m with rfl | m
    · exact ⟨sC,gC,nC⟩
    · exact ⟨(ow a m).1,(ow a m).2.1,(ow a m).2.2.2⟩
  have hn:∀ a∈(FT.lst C ts).as,H a=none∨Own sl σ a:=fun a m=>by
    rw [asC] at m
    rcases List.mem_cons.mp m with rfl | m
    · exact .inl hC
    · exact nw a m
  exact hq (.ref C) H' G' (.lst C ts) sl' { p with ok:=.lst eC al,nod:=(by rw [asC];exact List.nodup_cons.mpr ⟨fun m=>(ow C m).2.2.1 rfl,nd⟩),own:=ho,new:=hn,bor:=hb } (z C)
theorem dn_lc {g':TG} (hc:X.calm=true) (hN:X.N.Nodup) (hi:DI X W tg iter ti) (ok:BlkOk X.N X.env.scope scope own)
    (hg:∀ s H C cl fp,DG (X.blk s H scope (compEnvC scope cl C X.env) fp) ix tg g' g) (ht:∀ s H C cl fp,DTs (X.blk s H scope (compEnvC scope cl C X.env) fp) W0 ifs tt)
    (he:∀ s H C cl fp,DN (X.blk s H scope (compEnvC scope cl C X.env) fp) W0 elt te) (hix:∀ j,j∈ix→j∈own.map (·.2):=by decide) (hs:∀ x,foldedSetIterable iter X.env x=pure x:=by intro _;rfl) :
    DN X W (.ListComp elt [⟨tg,iter,ifs,0⟩] scope pos) (dLcF ti g tt te (own.map (·.2))):=by
  have b:=pe_lc (tt:=upT X.K W0 tt) (te:=upN X.K W0 te) (ifs:=ifs) (elt:=elt) (pos:=pos) hc hN hi ok (fun s H C cl fp=>(hg s H C cl fp).pg) ht he hs
  exact ⟨fun pins s σ H Q I ⟨G,so,sl,Q',E,rep,q,hq,hx⟩=>b.run pins s σ H Q I (up_lcF _ I.len (hg s H 0 [] []).sem hix rep q hx hq)⟩
end
mutual
def D.sol:D→Bool
  | .lst _=>false
  | .ins _ _=>false
  | .dk kvs=>D.solK kvs
  | .dt kvs=>D.solT kvs
  | .tup ds=>D.solL ds
  | _=>true
def D.solL:List D→Bool
  | []=>true
  | x::r=>D.sol x && D.solL r
def D.solK:List (Key × D)→Bool
  | []=>true
  | (_,x)::r=>D.sol x && D.solK r
def D.solT:List (List Key × D)→Bool
  | []=>true
  | (_,x)::r=>D.sol x && D.solT r
end
def D.solF:List (Str × D)→Bool
  | []=>true
  | (_,x)::r=>D.sol x && D.solF r
mutual
def FT.sol:FT→Bool
  | .leaf d=>d.sol
  | .lst _ xs=>FT.solL xs
  | .ins _ _ fs=>FT.solF fs
def FT.solL:List FT→Bool
  | []=>true
  | x::r=>FT.sol x && FT.solL r
def FT.solF:List (Str × FT)→Bool
  | []=>true
  | (_,x)::r=>FT.sol x && FT.solF r
end
abbrev LIF (G:Hp) (as:List Addr):Prop:=∀ b∈as,(∃ vs,G b=some (.lst vs))∨∃ C dx vs,G b=some (.ins C dx vs)
section
variable {K:PySem.W.Frag} {G G1 H H1:Hp} {as:List Addr}
theorem unPF_keep {a:Addr} {o:HO} (ls:LIF G as) (e:G a=some o) (n:∀ vs,o≠.lst vs) (n2:∀ C dx vs,o≠.ins C dx vs):DL.unP G as a=some o:=by
  rw [unP_out (fun m=>by
    rcases ls a m with ⟨vs,q⟩ | ⟨C,dx,vs,q⟩
    · rw [e] at q;exact n vs (Option.some.inj q)
    · rw [e] at q;exact n2 C dx vs (Option.some.inj q))]
  exact e
theorem KOk.unPF {a:Addr} {k:Kd} (h:KOk K G1 H1 a k) (old:KOk K G H a k) (ex:Ex G (DL.unP G1 as)) (ls:LIF G1 as):KOk K (DL.unP G1 as) H1 a k:=by
  have gn:DL.unP G1 as a=none:=by
    by_cases m:a∈as
    · exact unP_in m
    · rw [unP_out m];exact h.g
  cases k with
  | src c=>
    obtain ⟨_,ns,i,r,sd,n,h1,h2,h3,h4⟩:=h
    obtain ⟨_,ms,_,_,_,_,_,k2,k3,_⟩:=old
    exact ⟨gn,ms,i,r,sd,n,h1,ex_l ex k2,k3,h4⟩
  | tab z=>
    obtain ⟨_,ps,h1,h2,h3⟩:=h
    exact ⟨gn,ps,h1,h2,fun pos cv hc=>let ⟨c,e1,e2⟩:=h3 pos cv hc;⟨c,e1,unPF_keep ls e2 (fun _ z=>by unfold LamX.CodeO at z;cases z) (fun _ _ _ z=>by unfold LamX.CodeO at z;cases z)⟩⟩
  | mt C=>
    obtain ⟨_,⟨dx,vs,h1,h2⟩ | h⟩:=h
    · exact ⟨gn,.inl ⟨dx,vs,h1,unPF_keep ls h2 (fun _ z=>by cases z) (fun _ _ _ z=>by cases z)⟩⟩
    · exact ⟨gn,.inr h⟩
end
section
variable {K:PySem.W.Frag} {G G1 H H1:Hp} {as:List Addr}
mutual
theorem DOk.unS (ls:LIF G as):∀ {v:V} {d:D},d.sol=true→DOk K G v d→DOk K (DL.unP G as) v d
  | _,_,_,.non=>.non
  | _,_,_,.bl b=>.bl b
  | _,_,_,.int i=>.int i
  | _,_,_,.str x=>.str x
  | _,_,f,.lst _ _=>by rw [D.sol] at f;cases f
  | _,_,f,.tup h a=>.tup (by
      rcases h with (h | ⟨o,h⟩) | h
      · exact .inl (.inl (unPF_keep ls h (fun _ z=>by cases z) (fun _ _ _ z=>by cases z)))
      · exact .inl (.inr ⟨o,unPF_keep ls h (fun _ z=>by cases z) (fun _ _ _ z=>by cases z)⟩)
      · exact .inr h) (DAll.unS ls (by rw [D.sol] at f;exact f) a)
  | _,_,f,.ins _ _ _=>by rw [D.sol] at f;cases f
  | _,_,_,.any v=>.any v
  | _,_,f,.dk h a=>.dk (unPF_keep ls h (fun _ z=>by cases z) (fun _ _ _ z=>by cases z)) (FAll.unSK ls (by rw [D.sol] at f;exact f) a)
  | _,_,f,.dt h a=>.dt (unPF_keep ls h (fun _ z=>by cases z) (fun _ _ _ z=>by cases z)) (FAll.unST ls (by rw [D.sol] at f;exact f) a)
  | _,_,_,.raw v=>.raw v
  | _,_,_,.kt h=>.kt (unPF_keep ls h (fun _ z=>by cases z) (fun _ _ _ z=>by cases z))
theorem DAll.unS (ls:LIF G as):∀ {vs:List V} {ds:List D},D.solL ds=true→DAll K G vs ds→DAll K (DL.unP G as) vs ds
  | _,_,_,.nil=>.nil
  | _,_,f,.cons h r=>by
    rw [D.solL,Bool.and_eq_true] at f
    exact .cons (DOk.unS ls f.1 h) (DAll.unS ls f.2 r)
theorem FAll.unSK (ls:LIF G as):∀ {vs:List (Key × V)} {ds:List (Key × D)},D.solK ds=true→FAll K G vs ds→FAll K (DL.unP G as) vs ds
  | _,_,_,.nil=>.nil
  | _,_,f,.cons h r=>by
    rw [D.solK,Bool.and_eq_true] at f
    exact .cons (DOk.unS ls f.1 h) (FAll.unSK ls f.2 r)
theorem FAll.unST (ls:LIF G as):∀ {vs:List (List Key × V)} {ds:List (List Key × D)},D.solT ds=true→FAll K G vs ds→FAll K (DL.unP G as) vs ds
  | _,_,_,.nil=>.nil
  | _,_,f,.cons h r=>by
    rw [D.solT,Bool.and_eq_true] at f
    exact .cons (DOk.unS ls f.1 h) (FAll.unST ls f.2 r)
end
theorem FAll.unSF (ls:LIF G as):∀ {vs:List (Str × V)} {ds:List (Str × D)},D.solF ds=true→FAll K G vs ds→FAll K (DL.unP G as) vs ds
  | _,_,_,.nil=>.nil
  | _,_,f,.cons h r=>by
    rw [D.solF,Bool.and_eq_true] at f
    exact .cons (DOk.unS ls f.1 h) (FAll.unSF ls f.2 r)
mutual
theorem FOk.unS (ls:LIF G as):∀ {v:V} {t:FT},t.sol=true→FOk K G H v t→FOk K (DL.unP G as) H v t
  | _,_,f,.leaf h=>.leaf (DOk.unS ls (by rw [FT.sol] at f;exact f) h)
  | _,_,f,.lst h r=>.lst h (FOkL.unS ls (by rw [FT.sol] at f;exact f) r)
  | _,_,f,.ins h g r=>.ins h (unPF_keep ls g (fun _ z=>by cases z) (fun _ _ _ z=>by cases z)) (FOkF.unS ls (by rw [FT.sol] at f;exact f) r)
theorem FOkL.unS (ls:LIF G as):∀ {vs:List V} {ts:List FT},FT.solL ts=true→FOkL K G H vs ts→FOkL K (DL.unP G as) H vs ts
  | _,_,_,.nil=>.nil
  | _,_,f,.cons h r=>by
    rw [FT.solL,Bool.and_eq_true] at f
    exact .cons (FOk.unS ls f.1 h) (FOkL.unS ls f.2 r)
theorem FOkF.unS (ls:LIF G as):∀ {vs:List (Str × V)} {fs:List (Str × FT)},FT.solF fs=true→FOkF K G H vs fs→FOkF K (DL.unP G as) H vs fs
  | _,_,_,.nil=>.nil
  | _,_,f,.cons h r=>by
    rw [FT.solF,Bool.and_eq_true] at f
    exact .cons (FOk.unS ls f.1 h) (FOkF.unS ls f.2 r)
end
end
def lendSl:List (Nat × Nat)→Fl→DSt→DSt
  | [],_,sl=>sl
  | (i,k)::r,fl,sl=>match fl[k]? with
    | some t=>(lendSl r fl sl).set i (some (.d t.d))
    | none=>lendSl r fl sl
def lendC:List (Nat × Nat)→Fl→DSt→Prop
  | [],_,_=>True
  | (i,k)::r,fl,sl=>(∃ a t,sl[i]?=some (some (.d (.raw (.ref a))))∧fl[k]?=some t∧t.top=.raw (.ref a))∧lendC r fl sl
section
variable {K:PySem.W.Frag} {W:WX} {G G1:Hp} {so:So} {σ:L2.St} {H H1:Hp} {sl:DSt} {fl:Fl} {v:V} {is:List (Nat × Nat)}
theorem Rep.setDF {i:Nat} {x z:D} (r:Rep K G so σ H sl) (e:sl[i]?=some (some (.d z))) (e1:σ[i]?=some (some v)) (w:DOk K G v x):Rep K G so σ H (sl.set i (some (.d x))):=by
  have g:∀ {j:Nat} {dv:DV},(∀ y,dv≠.d y)→(sl.set i (some (.d x)))[j]?=some (some dv)→sl[j]?=some (some dv):=fun n q=>by
    rcases get_set q with ⟨_,q⟩ | ⟨_,q⟩
    · cases q;exact absurd rfl (n x)
    · exact q
  refine ⟨r.h,by rw [List.length_set];exact r.len,fun j dv q=>?_,fun j k o o' a q1 q2 q3 q4=>r.sep j k o o' a (g (fun _ z=>nomatch z) q1) (g (fun _ z=>nomatch z) q2) q3 q4,fun j o a q1 q2 ⟨m,o',y1,y2⟩=>r.bor j o a (g (fun _ z=>nomatch z) q1) q2 ⟨m,o',g (fun _ z=>nomatch z) y1,y2⟩,fun j o q=>r.nse j o (g (fun _ z=>nomatch z) q)⟩
  rcases get_set q with ⟨y1,y2⟩ | ⟨_,y2⟩
  · cases y2;subst y1;exact ⟨v,e1,w⟩
  · exact r.slots j dv y2
theorem lendSl_keep:∀ {is:List (Nat × Nat)} {j:Nat} {dv:DV},lendC is fl sl→(∀ z,dv≠.d z)→((lendSl is fl sl)[j]?=some (some dv) ↔ sl[j]?=some (some dv))
  | [],j,dv,_,_=>by unfold lendSl;exact Iff.rfl
  | (i,k)::r,j,dv,h,n=>by
    unfold lendC at h
    obtain ⟨⟨a,t,e1,e2,e3⟩,h2⟩:=h
    have ih:=lendSl_keep (j:=j) (dv:=dv) h2 n
    unfold lendSl
    rw [e2]
    dsimp only
    by_cases q:j=i
    · subst q
      constructor
      · intro z
        rcases get_set z with ⟨_,z⟩ | ⟨ne,_⟩
        · cases z;exact absurd rfl (n _)
        · exact absurd rfl ne
      · intro z;rw [e1] at z;cases z;exact absurd rfl (n _)
    · rw [List.getElem?_set_ne (fun z=>q z.symm)];exact ih
theorem lendSl_own {j:Nat} {o:OO} (c:lendC is fl sl):(lendSl is fl sl)[j]?=some (some (.own o)) ↔ sl[j]?=some (some (.own o)):=lendSl_keep (dv:=.own o) c (fun _ z=>nomatch z)
theorem lendSl_bor {j:Nat} {o:OO} (c:lendC is fl sl):(lendSl is fl sl)[j]?=some (some (.bor o)) ↔ sl[j]?=some (some (.bor o)):=lendSl_keep (dv:=.bor o) c (fun _ z=>nomatch z)
theorem Rep.lendF (r:Rep K G so σ H sl) (fo:FlOk K G so σ H sl fl) (c:lendC is fl sl):Rep K (puB G H (FT.asL fl)) so σ H (lendSl is fl sl):=by
  have ex:Ex G (puB G H (FT.asL fl)):=puB_ex fun a m=>(fo.own a m).2.1
  have r0:Rep K (puB G H (FT.asL fl)) so σ H sl:=by
    refine ⟨r.h.pubF fun a m=>⟨(fo.own a m).2.1,(fo.own a m).1⟩,r.len,fun i dv e=>?_,r.sep,r.bor,r.nse⟩
    obtain ⟨w,e1,e2⟩:=r.slots i dv e
    refine ⟨w,e1,SlOk.keep e2 r.h.ok ex (fun _ _ q _=>q) fun a o ed q=>?_⟩
    subst ed;subst q
    rw [puB_out (fun m=>(fo.own a m).2.2 ⟨i,o,e,e1⟩)]
    exact (r.nown ⟨i,o,e,e1⟩).2.1
  obtain ⟨vs,ok⟩:=fo.ok
  induction is with
  | nil=>unfold lendSl;exact r0
  | cons p t ih=>
    obtain ⟨i,k⟩:=p
    unfold lendC at c
    obtain ⟨⟨a,x,e1,e2,e3⟩,c2⟩:=c
    have ih:=ih c2
    unfold lendSl
    rw [e2]
    dsimp only
    obtain ⟨v,f1,f2⟩:=ok.get e2
    obtain rfl:=f2.root' e3
    obtain ⟨u,k1,k2⟩:=r.slots i _ e1
    obtain rfl:u=.ref a:=by cases k2;rfl
    have dx:DOk K (puB G H (FT.asL fl)) (.ref a) x.d:=FOk.pub ex (fun b m=>puB_in (as_mem (List.mem_of_getElem? e2) b m)) f2
    by_cases q:∃ z,(lendSl t fl sl)[i]?=some (some (.d z))
    · obtain ⟨z,q⟩:=q
      exact ih.setDF q k1 dx
    · exfalso
      have hi:i < (lendSl t fl sl).length:=by
        rw [ih.len];exact (List.getElem?_eq_some_iff.mp k1).1
      cases q2:(lendSl t fl sl)[i]? with
      | none=>exact absurd (List.getElem?_eq_none_iff.mp q2) (by omega)
      | some y=>
        have gen:∀ {is:List (Nat × Nat)},(lendSl is fl sl)[i]?=sl[i]?∨∃ z,(lendSl is fl sl)[i]?=some (some (.d z)):=by
          intro is
          induction is with
          | nil=>unfold lendSl;exact .inl rfl
          | cons p r2 ih2=>
            obtain ⟨i2,k2⟩:=p
            unfold lendSl
            split
            · rename_i t2 _
              by_cases q:i2=i
              · subst q
                rcases ih2 with z | ⟨z,y⟩
                · have l2:i2 < (lendSl r2 fl sl).length:=(List.getElem?_eq_some_iff.mp (z.trans e1)).1
                  exact .inr ⟨_,List.getElem?_set_self l2⟩
                · exact .inr ⟨_,List.getElem?_set_self (List.getElem?_eq_some_iff.mp y).1⟩
              · rw [List.getElem?_set_ne q];exact ih2
            · exact ih2
        rcases gen (is:=t) with z | ⟨z,y⟩
        · exact q ⟨_,z.trans e1⟩
        · exact q ⟨z,y⟩
theorem Post.backF (r:Rep K G so σ H sl) (fo:FlOk K G so σ H sl fl) (c:lendC is fl sl) (nm:noMu sl=true) (p:Post K (puB G H (FT.asL fl)) so σ H (lendSl is fl sl) H1 G1 (lendSl is fl sl)) :
    Post K G so σ H sl H1 (DL.unP G1 (FT.asL fl)) sl∧LIF G1 (FT.asL fl):=by
  obtain ⟨vs,ok⟩:=fo.ok
  have ls:LIF G1 (FT.asL fl):=fun a m=>by
    rcases FOkL.li ok a m with ⟨us,q⟩ | ⟨C,dx,us,q⟩
    · exact .inl ⟨us,p.ex _ _ (by rw [puB_in m];exact q)⟩
    · exact .inr ⟨C,dx,us,p.ex _ _ (by rw [puB_in m];exact q)⟩
  have ex:Ex G (DL.unP G1 (FT.asL fl)):=fun a o q=>by
    have m:a∉FT.asL fl:=fun m=>by rw [(fo.own a m).2.1] at q;cases q
    rw [unP_out m]
    exact p.ex _ _ (by rw [puB_out m];exact q)
  have own:∀ a,Own (lendSl is fl sl) σ a ↔ Own sl σ a:=fun a=>⟨fun ⟨j,o,f1,f2⟩=>⟨j,o,(lendSl_own c).mp f1,f2⟩,fun ⟨j,o,f1,f2⟩=>⟨j,o,(lendSl_own c).mpr f1,f2⟩⟩
  have hr:HRep K (DL.unP G1 (FT.asL fl)) so H1:=⟨fun a o q=>p.rep.h.ex _ _ (unP_ex _ _ q),fun a k q=>KOk.unPF (p.rep.h.vol a k q) (r.h.vol a k q) ex ls,r.h.ok,fun a xs q=>unPF_keep ls (p.rep.h.tp a xs q) (fun _ z=>by cases z) (fun _ _ _ z=>by cases z)⟩
  refine ⟨⟨ex,⟨hr,r.len,fun j dv f=>?_,r.sep,r.bor,r.nse⟩,p.keep,fun a n g s w=>?_,fun a z=>z,fun j o z=>⟨o,z⟩⟩,ls⟩
  · obtain ⟨w,w1,w2⟩:=r.slots j dv f
    refine ⟨w,w1,?_⟩
    have nmu:∀ y D gs,dv≠.mu y D gs:=fun y D gs ed=>by subst ed;exact noMu_get nm f
    have ngh:∀ y g,dv≠.gh y g:=fun y g ed=>by subst ed;exact noMu_getg nm f
    have ww:VOk K G so H w dv:=SlOk.val w2 nmu ngh
    refine VOk.slot (ww.keep ex p.keep fun a o ed q=>?_)
    subst ed;subst q
    have m:a∉FT.asL fl:=fun m=>(fo.own a m).2.2 ⟨j,o,f,w1⟩
    obtain ⟨u,u1,u2⟩:=p.rep.slots j (.own o) ((lendSl_own c).mpr f)
    rw [w1] at u1;cases u1
    obtain ⟨b,q3,g3,_,_⟩:=u2
    cases q3
    rw [unP_out m];exact g3
  · by_cases m:a∈FT.asL fl
    · exact unP_in m
    · rw [unP_out m]
      exact p.frm a n (by rw [puB_out m];exact g) s fun z=>w ((own a).mp z)
end
def xLend (is:List (Nat × Nat)) (te:TDN):TFE:=fun sl fl Q E=>lendC is fl sl∧noMu sl=true∧
  te (lendSl is fl sl) (fun x s1=>s1=lendSl is fl sl∧x.sol=true∧Q x sl fl) (fun cls fs s1=>s1=lendSl is fl sl∧D.solF fs=true∧E cls fs sl)
def tLendF (is:List (Nat × Nat)) (te:TDT) (Q:Bool→DSt→Fl→Prop) (E:XP):DSt→Fl→Prop:=fun sl fl=>lendC is fl sl∧noMu sl=true∧
  te (lendSl is fl sl) (fun b s1=>s1=lendSl is fl sl∧Q b sl fl) (fun cls fs s1=>s1=lendSl is fl sl∧D.solF fs=true∧E cls fs sl)
def fIfL (is:List (Nat × Nat)) (c:TDT) (t u:TDF):TDF:=fun E sl fl=>tLendF is c (fun b s1 f1=>Br b (t E s1 f1) (u E s1 f1)) E.xc sl fl
section
variable {K:PySem.W.Frag} {W:WX} {G:Hp} {so:So} {σ:L2.St} {H:Hp} {sl:DSt} {fl:Fl} {X:Cx} {e c:Expr} {body orelse:List Stmt} {tn:TDN} {tc:TDT} {t u:TDF} {pos:Pos}
theorem XOkF.lend {E:XP} {is:List (Nat × Nat)} (r:Rep K G so σ H sl) (fo:FlOk K G so σ H sl fl) (lc:lendC is fl sl) (nm:noMu sl=true) (h:XOkF K W G so σ H sl fl E) :
    XOk K W (puB G H (FT.asL fl)) so σ H (lendSl is fl sl) (fun cls fs s1=>s1=lendSl is fl sl∧D.solF fs=true∧E cls fs sl):=fun cls d H1 G1 fs s1 p xd ⟨q1,q2,q3⟩=>by
  subst q1
  obtain ⟨b,ls⟩:=Post.backF r fo lc nm p
  refine h cls d σ H1 _ fs sl (b.s.f fo).forget ?_ q3
  cases d with
  | none=>exact xd
  | some dx=>obtain ⟨vs,k1,k2⟩:=xd;exact ⟨vs,k1,FAll.unSF ls q2 k2⟩
theorem fe_lend (h:DN X W e tn) (is:List (Nat × Nat)):FE X W e (xLend is tn):=pe_imp h fun σ H R ⟨G,so,sl,fl,Q,E,rep,fo,⟨lc,nm,q⟩,hq,hx⟩=>by
  have r2:=rep.lendF fo lc
  have own:∀ a,Own (lendSl is fl sl) σ a→Own sl σ a:=fun a ⟨j,o,f1,f2⟩=>⟨j,o,(lendSl_own lc).mp f1,f2⟩
  refine ⟨_,_,_,_,_,r2,q,fun v H1 G1 x s1 p ⟨q1,q2,q3⟩=>?_,hx.lend rep fo lc nm⟩
  subst q1
  obtain ⟨b,ls⟩:=Post.backF rep fo lc nm p.toPost
  have pn:PostN X.K G so σ H sl v H1 (DL.unP G1 (FT.asL fl)) x sl:={ b with
    ok:=FOk.unS ls q2 p.ok
    nod:=p.nod
    own:=fun a m=>⟨(p.own a m).1,(by
      by_cases z:a∈FT.asL fl
      · exact unP_in z
      · rw [unP_out z];exact (p.own a m).2.1),fun w=>(p.own a m).2.2 (by obtain ⟨j,o,f1,f2⟩:=w;exact ⟨j,o,(lendSl_own lc).mpr f1,f2⟩)⟩
    new:=fun a m=>(p.new a m).elim .inl fun w=>.inr (own a w)
    bor:=fun a m i o e1 e2=>p.bor a m i o ((lendSl_bor lc).mpr e1) e2 }
  exact hq v H1 _ x sl fl (pn.f (Gx:=G) fo) q3
theorem fs_ifL (hc:DT X W c tc) (h1:FSs X W body t) (h2:FSs X W orelse u) (is:List (Nat × Nat)):FS X W (.If c body orelse pos) (fIfL is tc t u):=ps_imp (ps_if hc h1 h2) fun D σ H ⟨G,so,sl,fl,E,rep,fo,⟨lc,nm,q⟩,ok⟩=>by
  have r2:=rep.lendF fo lc
  refine ⟨_,_,_,_,_,r2,q,fun k H1 G1 s1 p ⟨q1,q2⟩=>?_,ok.xc.lend rep fo lc nm⟩
  subst q1
  obtain ⟨b,ls⟩:=Post.backF rep fo lc nm p
  have pf:=b.s.f fo
  cases k with
  | true=>show upF X.K W t D σ H1;exact ⟨_,so,sl,fl,E,pf.rep,pf.flo,brt q2,ok.step pf⟩
  | false=>show upF X.K W u D σ H1;exact ⟨_,so,sl,fl,E,pf.rep,pf.flo,brf q2,ok.step pf⟩
end
section
variable {K:PySem.W.Frag} {G H:Hp} {so:So} {σ:L2.St} {sl:DSt} {i:Nat} {a:Addr} {kvs:List (Key × D)} {vs:List (Key × V)} {od:Obj}
end
def dPubN (t:TDN):TD:=fun sl Q E=>t sl (fun x s=>Q (.d x.d) s) E
theorem de_dn {X:Cx} {W:WX} {e:Expr} {t:TDN} (h:DN X W e t):DE X W e (dPubN t):=pe_imp h fun σ H R ⟨G,so,sl,Q,E,rep,q,hq,hx⟩=>⟨G,so,sl,_,E,rep,q,fun v H' G' x s p z=>by
  have ex:Ex G' (puB G' H' x.as):=puB_ex fun a m=>(p.own a m).2.1
  refine hq v H' (puB G' H' x.as) (.d x.d) s ⟨⟨p.ex.trans ex,⟨p.rep.h.pubF fun a m=>⟨(p.own a m).2.1,(p.own a m).1⟩,p.rep.len,fun i dv e=>?_,p.rep.sep,p.rep.bor,p.rep.nse⟩,p.keep,fun a n g s w=>?_,p.sub,p.bsub⟩,FOk.pub ex (fun a m=>puB_in m) p.ok,fun _ _ y=>(nomatch y),fun _ _ y=>(by rcases y with y | y<;>cases y),fun _ _ _ _ y=>(nomatch y)⟩ z
  · obtain ⟨w,e1,e2⟩:=p.rep.slots i dv e
    refine ⟨w,e1,SlOk.keep e2 p.rep.h.ok ex (fun _ _ q _=>q) fun a o ed q=>?_⟩
    subst ed;subst q
    rw [puB_out (fun m=>(p.own a m).2.2 ⟨i,o,e,e1⟩)]
    exact (p.rep.nown ⟨i,o,e,e1⟩).2.1
  · rw [puB_out (fun m=>(p.new a m).elim (fun y=>n y) w)]
    exact p.frm a n g s w,hx⟩
theorem dss_reg {X:Cx} {W:WX} {rest:List Stmt} {t:TDF} {u:TDS} {n:Nat} (h1:FSs X W (rest.take n) t) (h2:DSs X W (rest.drop n) u):DSs X W rest (dSeq (dFl t) u):=by
  have h:=pss_app (dss_fl h1) h2
  rw [List.take_append_drop] at h
  refine pss_imp h fun D σ H ⟨G,so,sl,E,rep,q,ok⟩=>?_
  exact ⟨G,so,sl,_,rep,q,⟨fun σ1 H1 G1 s1 p q1=>⟨G1,so,s1,E,p.rep,q1,ok.step p⟩,ok.bk,ok.ct,ok.rt,ok.xc⟩⟩
abbrev NoSee (x:DV):Prop:=∀ o,x≠.see o
theorem no_seeN {args:List DV} (h:∀ x∈args,NoSee x):∀ (i:Nat) (o:OO),args[i]?≠some (.see o):=fun i o e=>h _ (List.mem_of_getElem? e) o rfl
theorem dL_map:∀ (ts:List FT),FT.dL ts=ts.map FT.d
  | []=>by rw [FT.dL,List.map_nil]
  | t::r=>by rw [FT.dL,List.map_cons,dL_map r]
theorem solL_all:∀ (ts:List FT),FT.solL ts=true ↔ ∀ t∈ts,t.sol=true
  | []=>by rw [FT.solL];simp
  | t::r=>by rw [FT.solL,Bool.and_eq_true,solL_all r];simp
theorem dsolL_all:∀ (ts:List D),D.solL ts=true ↔ ∀ t∈ts,t.sol=true
  | []=>by rw [D.solL];simp
  | t::r=>by rw [D.solL,Bool.and_eq_true,dsolL_all r];simp
theorem FT.lst_of {t:FT} {ds:List D} (h:t.d=.lst ds) (s:t.sol=true):∃ a xs,t=.lst a xs∧FT.dL xs=ds∧FT.solL xs=true:=by
  cases t with
  | leaf d=>
    rw [FT.d] at h;subst h
    rw [FT.sol,D.sol] at s;cases s
  | lst a xs=>
    rw [FT.d] at h;cases h
    rw [FT.sol] at s
    exact ⟨a,xs,rfl,rfl,s⟩
  | ins a C fs=>rw [FT.d] at h;cases h
theorem sol_leaves {a:Addr} {ds:List D} (h:D.solL ds=true):(FT.lst a (ds.map .leaf)).sol=true:=by
  rw [FT.sol,solL_all]
  intro t ht
  obtain ⟨x,hx,rfl⟩:=List.mem_map.mp ht
  rw [FT.sol]
  exact (dsolL_all ds).mp h x hx
theorem d_lst (a:Addr) (ts:List FT):(FT.lst a ts).d=.lst (FT.dL ts):=by rw [FT.d]
theorem sol_lst (a:Addr) (ts:List FT):(FT.lst a ts).sol=FT.solL ts:=by rw [FT.sol]
theorem dL_ext {ts:List FT} {xs:List D} (l:ts.length=xs.length) (h:∀ (i:Nat) (t:FT),ts[i]?=some t→∃ x,xs[i]?=some x∧t.d=x∧t.sol=true):FT.dL ts=xs∧FT.solL ts=true:=by
  refine ⟨?_,(solL_all ts).mpr fun t ht=>?_⟩
  · rw [dL_map]
    apply List.ext_getElem?
    intro i
    rw [List.getElem?_map]
    cases e:ts[i]? with
    | none=>
      have:=List.getElem?_eq_none_iff.mp e
      rw [List.getElem?_eq_none_iff.mpr (by omega)];rfl
    | some t=>
      obtain ⟨x,e1,e2,_⟩:=h i t e
      rw [e1,← e2];rfl
  · obtain ⟨i,e⟩:=List.mem_iff_getElem?.mp ht
    obtain ⟨_,_,_,k⟩:=h i t e
    exact k
section
variable {g:TDG} {tt:TDT} {te:TDN} {vs:List Nat} {Q:List FT→DSt→Prop}
theorem lcW_ix (R:Nat→FT→Prop) (S:DSt) {ds0:List D} (hl:ds0.length≤szl)
    (step:∀ (i:Nat) (d:D),ds0[i]?=some d→∀ (M:FT→DSt→Prop) (A:DSt→Prop),(∀ t,R i t→M t S)→g d S fun s1=>tt s1 (fun b s2=>Br b (te s2 (fun t s3=>M t (wipeD s3 vs)) fun _ _ _=>False) (A (wipeD s2 vs))) fun _ _ _=>False)
    (q:∀ ts:List FT,ts.length=ds0.length→(∀ (i:Nat) (t:FT),ts[i]?=some t→R i t)→Q ts S):dLcW g tt te vs Q ds0 [] S:=by
  have go:∀ (ds dn:List D) (acc:List FT),ds0=dn++ds→acc.length=dn.length→(∀ (i:Nat) (t:FT),acc[i]?=some t→R i t)→dLcW g tt te vs Q ds acc S:=by
    intro ds
    induction ds with
    | nil=>
      intro dn acc h1 h2 h3
      rw [lcW_nil]
      exact q acc (by rw [h1,List.append_nil];exact h2) h3
    | cons d r ih=>
      intro dn acc h1 h2 h3
      rw [lcW_cons]
      have l0:ds0.length=dn.length + (r.length + 1):=by rw [h1,List.length_append,List.length_cons]
      refine step dn.length d (by rw [h1,List.getElem?_append_right (Nat.le_refl _)];simp) (fun t s=>acc.length < szl∧dLcW g tt te vs Q r (acc++[t]) s) (fun s=>dLcW g tt te vs Q r acc s) fun t ht=>⟨by omega,ih (dn++[d]) (acc++[t]) (by rw [h1];simp) (by simp [h2]) fun i u e=>?_⟩
      by_cases z:i < acc.length
      · rw [List.getElem?_append_left z] at e;exact h3 i u e
      · rw [List.getElem?_append_right (by omega)] at e
        have:i - acc.length=0:=by
          cases q:i - acc.length with
          | zero=>rfl
          | succ k=>rw [q] at e;simp at e
        rw [this] at e
        simp at e;subst e
        have:i=dn.length:=by omega
        rw [this];exact ht
  exact go ds0 [] [] rfl rfl fun i t e=>by simp at e
theorem lcW_map (f:D→D) (S:DSt) {ds:List D} (hl:ds.length≤szl)
    (step:∀ d∈ds,∀ (M:FT→DSt→Prop) (A:DSt→Prop),(∀ t,t.d=f d→t.sol=true→M t S)→g d S fun s1=>tt s1 (fun b s2=>Br b (te s2 (fun t s3=>M t (wipeD s3 vs)) fun _ _ _=>False) (A (wipeD s2 vs))) fun _ _ _=>False)
    (q:∀ ts:List FT,FT.dL ts=ds.map f→FT.solL ts=true→Q ts S):dLcW g tt te vs Q ds [] S:=by
  refine lcW_ix (fun i t=>∃ d,ds[i]?=some d∧t.d=f d∧t.sol=true) S hl (fun i d e M A hM=>step d (List.mem_of_getElem? e) M A fun t h1 h2=>hM t ⟨d,e,h1,h2⟩) fun ts l h=>?_
  obtain ⟨h1,h2⟩:=dL_ext (ts:=ts) (xs:=ds.map f) (by rw [List.length_map];exact l) fun i t e=>by
    obtain ⟨d,e1,e2,e3⟩:=h i t e
    exact ⟨f d,by rw [List.getElem?_map,e1];rfl,e2,e3⟩
  exact q ts h1 h2
end
theorem fseq_cut {t u:TDF} {E:EndsF} {sl:DSt} {fl:Fl} (C:DSt→Fl→Prop) (h:∀ N:DSt→Fl→Prop,(∀ s f,C s f→N s f)→t { E with nx:=N } sl fl) (q:∀ s f,C s f→u E s f):fSeq t u E sl fl:=h (u E) q
def xAdd (ta tb:TFE):TFE:=fun sl fl Q E=>ta sl fl (fun x s f=>tb s f (fun y s2 f2=>∃ a b xs ys,x=.lst a xs∧y=.lst b ys∧xs.length + ys.length≤szl∧∀ c,Q (.lst c (xs++ys)) s2 f2) E) E
section
variable {K:PySem.W.Frag} {G G1:Hp} {so:So} {σ σ1:L2.St} {H H1:Hp} {sl s1:DSt} {fl f1:Fl}
theorem PostF.sub' {f2:Fl} {ws:List V} (p:PostF K G so σ H sl fl σ1 H1 G1 s1 f1) (ok:FOkL K G1 H1 ws f2) (nd:(FT.asL f2).Nodup) (sub:∀ a∈FT.asL f2,a∈FT.asL f1):PostF K G so σ H sl fl σ1 H1 G1 s1 f2:=
  ⟨p.ex,p.rep,⟨⟨ws,ok⟩,nd,fun a m=>p.flo.own a (sub a m)⟩,p.keep,p.frm,fun a n s w z=>⟨(p.sub a n s w z).1,fun m=>(p.sub a n s w z).2 (sub a m)⟩,p.ln⟩
end
section
variable {X:Cx} {W:WX} {a b:Expr} {ta tb:TFE} {pos:Pos}
theorem fe_add (ha:FE X W a ta) (hb:FE X W b tb):FE X W (.BinOp a .Add b pos) (xAdd ta tb):=pe_imp (pe_op op_addAll ha hb) fun σ H R ⟨G,so,sl,fl,Q,E,rep,fo,q,hq,hx⟩=>
  ⟨G,so,sl,fl,_,E,rep,fo,q,fun v H1 G1 x s1 f1 p1 q1=>
    ⟨G1,so,s1,f1,_,E,p1.rep,p1.flo.tail,q1,fun w H2 G2 y s2 f2 p2 q2=>by
      obtain ⟨a,b,xs,ys,rfl,rfl,l,q2⟩:=q2
      obtain ⟨p3,k⟩:=PostF.hide1 p1.flo p2.toPostF
      have w1:=p1.val.keep p2.ex k
      cases w1 with
      | lst h1 o1=>
        have w2:=p2.val
        cases w2 with
        | lst h2 o2=>
          rename_i us zs
          have pp:=p1.toPostF.trans p3
          obtain ⟨es,oe⟩:=pp.flo.tail.tail.ok
          have nd:=pp.flo.nod
          have e0:FT.asL (.lst a xs::.lst b ys::f2)=(a::FT.asL xs)++((b::FT.asL ys)++FT.asL f2):=by rw [asF_cons,asF_cons,FT.as,FT.as]
          rw [e0] at nd
          have e3:FT.asL ((xs++ys)++f2)=FT.asL xs++(FT.asL ys++FT.asL f2):=by rw [asLF_app,asLF_app,List.append_assoc]
          have nd3:(FT.asL ((xs++ys)++f2)).Nodup:=by
            rw [e3]
            exact nd.sublist (List.Sublist.append (List.sublist_cons_self _ _) (List.Sublist.append (List.sublist_cons_self _ _) (List.Sublist.refl _)))
          have p4:PostF X.K G so σ H sl fl σ H2 G2 s2 ((xs++ys)++f2):=pp.sub' ((o1.app o2).app oe) nd3 fun c m=>by
            rw [e0]
            rw [e3] at m
            rcases List.mem_append.mp m with m | m
            · exact List.mem_append_left _ (List.mem_cons_of_mem _ m)
            · rcases List.mem_append.mp m with m | m
              · exact List.mem_append_right _ (List.mem_append_left _ (List.mem_cons_of_mem _ m))
              · exact List.mem_append_right _ (List.mem_append_right _ m)
          refine .inr (.inr (.inr ⟨a,b,us,zs,rfl,rfl,h1,h2,by rw [o1.len,o2.len,← szl_eq];exact l,fun c n=>?_⟩))
          have nf:∀ d∈FT.asL (xs++ys),d≠c:=fun d m z=>p4.flo.there (show d∈FT.asL ((xs++ys)++f2) by rw [asLF_app];exact List.mem_append_left _ m) (z ▸ n)
          have ok:FOk X.K G2 (upd H2 c (.lst (us++zs))) (.ref c) (.lst c (xs++ys)):=.lst upd_same ((o1.app o2).keep (Ex.refl _) fun d m=>upd_ne (nf d m))
          exact hq _ _ G2 (.lst c (xs++ys)) s2 f2 ⟨PostF.alloc (vs:=us++zs) p4 n (by rw [FT.as]) ok (fun _ z=>nomatch z),ok⟩ (q2 c),hx.step p1.toPostF.tail⟩,hx⟩
end
def dIfN (c:TDT) (ta tb:TDN):TDN:=fun sl Q E=>c sl (fun k s1=>Br k (ta s1 Q E) (tb s1 Q E)) E
theorem dn_ifE {X:Cx} {W:WX} {c a b:Expr} {t:TDT} {ta tb:TDN} {pos:Pos} (hc:DT X W c t) (ha:DN X W a ta) (hb:DN X W b tb):DN X W (.IfExp c a b pos) (dIfN t ta tb):=pe_imp (pe_ifExp hc ha hb) fun σ H R ⟨G,so,sl,Q,E,rep,q,hq,hx⟩=>
  ⟨G,so,sl,_,E,rep,q,fun k H1 G1 s1 p q1=>by
    cases k with
    | true=>rw [if_pos rfl];exact ⟨G1,so,s1,Q,E,p.rep,(brt q1),fun v H2 G2 x s2 p2 q2=>hq v H2 G2 x s2 (p.thenN p2) q2,hx.step p⟩
    | false=>rw [if_neg Bool.false_ne_true];exact ⟨G1,so,s1,Q,E,p.rep,(brf q1),fun v H2 G2 x s2 p2 q2=>hq v H2 G2 x s2 (p.thenN p2) q2,hx.step p⟩,hx⟩
theorem FnR.neverN {P:Program} {w:World} {K:PySem.W.Frag} {mg:Str→Option Value} {base:Heap} {k:Nat} {f:Addr} {fd:FuncData} {ps:List Str}:FnR P w K mg base k f fd ps (upSN K fun _ _ _=>False):=
  ⟨fun _ _ _ _ ⟨_,_,_,_,_,_,_,z,_⟩=>z.elim,fun _ _ _ _ _ _ _ _ _ _ _ _ _ _ ⟨_,_,_,_,_,_,_,z,_⟩=>z.elim⟩
structure FunK (K:PySem.W.Frag) (file:Str) (params:Arguments) (body:List Stmt) (scope:Scope) (dvs:List V) (kws:List (Str × V)) (f:Addr) (fd:FuncData) (D:Addr):Prop where
  ex:∃ (oc:Value) (od:Option Addr) (osl:Array (Option Value)) (name qual:Str) (dV kV doc pm:Value) (an:Option Addr) (cda cc:Addr) (ct:Value) (vs:Array Value) (tf:Tok) (ccl cl:Value) (cdd cld:Option Addr) (ccs csl:Array (Option Value)),
    fd=PySem.W.ksFn name qual params body scope dV kV doc pm an (.ref cda) ct cc∧K.lookup f=some ⟨oc,od,.func fd,osl⟩∧PySem.W.codeIn K (.ref cda) qual=true∧K.lookup cda=some ⟨ccl,cdd,.fields vs,ccs⟩∧vs[2]?=some (.str file tf)∧
    K.lookup cc=some ⟨cl,cld,.cell (some (.ref D)),csl⟩∧DflV K dV dvs∧KwdV K kV kws
  kp:PySem.W.keepIn K (.ref f)=true
structure KScope (N P:List Str) (sc:Scope):Prop where
  kind:sc.kind=.function
  co:sc.isCoroutine=false
  gen:sc.isGenerator=false
  nd:N.Nodup
  pre:N.take P.length=P
  par:∀ x∈P,sc.names.lookup x=some .local
  nocell:∀ y∈sc.names,y.2≠.cell
  fr:∀ y∈sc.names,y.2=.free→y.1=("__class__":Str)
  ks:sc.names.lookup ("super":Str)=some .globalImplicit
  kc:sc.names.lookup ("__class__":Str)=some .free
structure SupOk (K:PySem.W.Frag) (C D:Addr) (m:Str) (f2:Addr):Prop where
  cD:∃ cd,PySem.W.clsIn K D=some cd
  sub:PySem.W.mroIn K C (.ref D)=some true
  op:PySem.W.nsIn K cStatics "thirdparty.any"=some none
  sup:PySem.W.ks_superIn K C D m=some (some (.ref f2))
  ty:PySem.W.typeIn K (.ref f2)=some (.type "function")
  fn:PySem.W.fnIn K f2=true
def cxK (CX:CXT) (P:Program) (w:World) (K:PySem.W.Frag) (mg:Str→Option Value) (base:Heap) (N:List Str) (qual:Str) (scope:Scope) (f cda cc:Addr) (A:Around) (outer:List Env) (s:Shared) (H:Hp) (E:XK):Cx where
  prog:=P
  w:=w
  K:=K
  mg:=mg
  base:=base
  A:=A.deeper (PySem.W.ksEnv qual scope s.heap.objs.size f (.ref cda) cc)
  N:=N
  s_0:=s
  H_0:=H
  env:=PySem.W.ksEnv qual scope s.heap.objs.size f (.ref cda) cc
  outer:=outer
  stack:=PySem.W.ksEnv qual scope s.heap.objs.size f (.ref cda) cc::outer
  ex:=[]
  calm:=true
  fn:=fun _=>false
  pn:=[]
  xe:=fun e s'=>wpAny (model P w) (A.deeper (PySem.W.ksEnv qual scope s.heap.objs.size f (.ref cda) cc)) (leaving (PySem.W.ksEnv qual scope s.heap.objs.size f (.ref cda) cc) e) (fun _ s''=>CX outer H s E e s'') (fun e' s''=>CX outer H s E e' s'') s'
section
variable {CX:CXT} {P:Program} {w:World} {K:PySem.W.Frag} {mg:Str→Option Value} {base:Heap} {N ps:List Str} {qual:Str} {scope:Scope} {f cda cc D:Addr} {A:Around} {outer:List Env} {s:Shared} {H:Hp} {E:XK} {us:List Value} {vs:List V} {h1:Heap} {tk:Nat} {ccl cl:Value} {cld:Option Addr} {csl:Array (Option Value)}
theorem inv_startK (S:KScope N ps scope) (hd:A.handled=none) (e0:Env0 P w K mg base A outer s H) (hl:vs.length=ps.length) (r:Vals vs us) (lcc:K.lookup cc=some ⟨cl,cld,.cell (some (.ref D)),csl⟩) (hns:h1.Ns s.heap.objs.size fun y=>(ps.zip us).reverse.lookup y)
    (kp:∀ b o,s.heap.get? b=some o→h1.get? b=some o):Inv (cxK CX P w K mg base N qual scope f cda cc A outer s H E) [] (L2.start N vs) H { s with heap:=h1,toks:=tk }:=by
  have hpl:ps.length≤N.length:=by have:=congrArg List.length S.pre;rw [List.length_take] at this;omega
  have noA:∀ b:Addr,b∉(cxK CX P w K mg base N qual scope f cda cc A outer s H E).ex:=fun b z=>absurd (show b∈([]:List Addr) from z) (by simp)
  have bcc:=e0.bs cc _ (e0.mod.kin cc _ lcc)
  have cel:∀ {y:Str} {c:Addr},(cxK CX P w K mg base N qual scope f cda cc A outer s H E).env.cells.lookup y=some c→y="__class__"∧c=cc:=fun {y c} h=>by
    have h:List.lookup y [(("__class__":Str),cc)]=some c:=h
    rw [List.lookup_cons] at h
    cases q:y == ("__class__":Str) with
    | true=>rw [q] at h;cases h;exact ⟨beq_iff_eq.mp q,rfl⟩
    | false=>rw [q] at h;cases h
  refine ⟨⟨e0.mod,S.kind,rfl,rfl,Nat.le_refl _,fun y z c h1 h2=>(cel h1).1.trans (cel h2).1.symm,fun y hy=>?_,fun y c z _=>?_,fun _=>hd,Around.frames_deeper e0.frames,.inr ⟨rfl,rfl⟩,fun b z=>absurd z (noA b),e0.bs,e0.bsz,fun b _ _=>noA b,fun b z=>absurd z (noA b),e0.funs,e0.frf⟩,
    rfl,e0.bare,Un.kept kp,⟨_,hns,fun i y v e1 e2 e3=>?_⟩,fun y c h=>?_,e0.hok.fresh (Nat.le_refl _),fun y c h=>?_,fun p hp=>absurd (show p∈([]:List (Addr × Obj))++[] from hp) (by simp),e0.hok.kept kp,?_⟩
  · have hy:scope.names.lookup y=some .cell∨scope.names.lookup y=some .free:=hy
    rcases hy with hy | hy
    · exact absurd rfl (S.nocell _ (PySem.mem_of_lookup hy))
    · refine ⟨cc,?_⟩
      obtain rfl:=S.fr _ (PySem.mem_of_lookup hy) rfl
      rfl
  · have z:false=true:=z
    cases z
  · have hi:i < vs.length:=by
      unfold L2.start at e2
      by_cases hi:i < vs.length
      · exact hi
      · rw [List.getElem?_append_right (by simpa using hi)] at e2
        rw [List.getElem?_replicate] at e2
        split at e2<;>cases e2
    have ha:vs[i]?=some v:=by
      unfold L2.start at e2
      rw [List.getElem?_append_left (by simpa using hi),List.getElem?_map] at e2
      cases e:vs[i]? with
      | none=>rw [e] at e2;cases e2
      | some a=>rw [e] at e2;cases e2;rfl
    obtain ⟨u,hu,rv⟩:=r.get ha
    have hp:ps[i]?=some y:=by
      rw [← S.pre,List.getElem?_take_of_lt (by omega)];exact e1
    have ndP:ps.Nodup:=by rw [← S.pre];exact S.nd.sublist (List.take_sublist _ _)
    exact ⟨u,rv,.inl ⟨S.par y (List.mem_of_getElem? hp),NdefX.zip_look ndP hp hu⟩⟩
  · obtain ⟨rfl,rfl⟩:=cel h
    exact ⟨_,_,kp _ _ bcc.1,rfl⟩
  · obtain ⟨rfl,rfl⟩:=cel h
    exact bcc.2
  · unfold L2.start
    show _=N.length
    rw [List.length_append,List.length_map,List.length_replicate]
    omega
end
section
variable {K:PySem.W.Frag} {G G':Hp} {so:So} {σ:L2.St} {H H':Hp} {sl:DSt} {x C:Addr} {fs:List (Str × FT)} {t:FT}
theorem asL_ins0 {x C:Addr}:FT.asL [.ins x C []]=[x]:=by rw [asF_cons,FT.as,FT.asF,asF_nil];rfl
theorem VOk.keepX {v:V} {dv:DV} (h:VOk K G so H v dv) (e:Ex G G') (k:∀ a o,H a=some o→so.Nt a→a≠x→H' a=some o) (g:∀ a o,dv=.own o→v=.ref a→a≠x∧G' a=none) (b:∀ a o,dv=.bor o∨dv=.see o→v=.ref a→a≠x):VOk K G' so H' v dv:=by
  cases dv with
  | d z=>exact DOk.mono e h
  | src=>exact h
  | own o=>
    obtain ⟨a,q,q1,q2,q3⟩:=h
    obtain ⟨n,g'⟩:=g a o rfl q
    refine ⟨a,q,g',q2,q3.keep e ?_⟩
    obtain ⟨u,z⟩:=Option.ne_none_iff_exists'.mp q3.there
    rw [z,k a u z q2 n]
  | bor o=>
    obtain ⟨a,q,q2,q3⟩:=h
    refine ⟨a,q,q2,q3.keep e ?_⟩
    obtain ⟨u,z⟩:=Option.ne_none_iff_exists'.mp q3.there
    rw [z,k a u z q2 (b a o (.inl rfl) q)]
  | see o=>
    obtain ⟨a,q,q2,q3⟩:=h
    refine ⟨a,q,q2,q3.keep e ?_⟩
    obtain ⟨u,z⟩:=Option.ne_none_iff_exists'.mp q3.there
    rw [z,k a u z q2 (b a o (.inr rfl) q)]
  | mu y C fs=>exact h
  | gh y r=>exact h
theorem PostX.repF (p:PostX K G so H x H' G') (rep:Rep K G so σ H sl) (li:LiA H x) (no:¬ Own sl σ x) (nb:noBl sl=true) (nm:noMu sl=true):Rep K G' so σ H' sl:=by
  refine ⟨p.hrep,rep.len,fun i dv e=>?_,rep.sep,rep.bor,rep.nse⟩
  obtain ⟨v,e1,e2⟩:=rep.slots i dv e
  have v2:VOk K G so H v dv:=e2.val (fun y C fs z=>noMu_get nm (z ▸ e)) fun y r z=>noMu_getg nm (z ▸ e)
  refine ⟨v,e1,VOk.slot (v2.keepX p.ex p.keep (fun a o z1 z2=>?_) fun a o z1 z2=>?_)⟩
  · subst z1;subst z2
    have w:Own sl σ a:=⟨i,o,e,e1⟩
    have n:a≠x:=fun z=>no (z ▸ w)
    obtain ⟨q1,q2,q3⟩:=rep.nown w
    exact ⟨n,p.frm a q1 q2 q3 n⟩
  · rcases z1 with z1 | z1
    · subst z1;subst z2
      obtain ⟨b,z,_,k⟩:=v2
      cases z
      intro z
      subst z
      rcases noBl_get nb e with ⟨ks,rfl⟩ | ⟨ks,rfl⟩
      · obtain ⟨_,_,y,_⟩:=k
        rcases li with ⟨_,q⟩ | ⟨_,_,_,q⟩<;>(rw [q] at y;cases y)
      · obtain ⟨_,_,y,_⟩:=k
        rcases li with ⟨_,q⟩ | ⟨_,_,_,q⟩<;>(rw [q] at y;cases y)
    · subst z1
      exact absurd e (rep.nse i o)
theorem PostIN.f (p:PostIN K G so H x H' G' t) (rep:Rep K G so σ H sl) (fo:FlOk K G so σ H sl [.ins x C []]) (nb:noBl sl=true) (nm:noMu sl=true):PostF K G so σ H sl [.ins x C []] σ H' G' sl [t]:=by
  have mx:x∈FT.asL [.ins x C []]:=by rw [asL_ins0];exact List.mem_singleton.mpr rfl
  obtain ⟨sx,gx,ox⟩:=fo.own x mx
  obtain ⟨vs,k⟩:=fo.ok
  have li:=FOkL.li k x mx
  have e1:FT.asL [t]=t.as:=by rw [asF_cons,asF_nil,List.append_nil]
  have out:∀ a,a∉FT.asL [FT.ins x C []]→a≠x:=fun a n z=>n (z ▸ mx)
  refine ⟨p.ex,PostX.repF p.toPostX rep li ox nb nm,⟨⟨[.ref x],.cons p.ok .nil⟩,by rw [e1];exact p.nod,fun a m=>?_⟩,fun a o e s w z=>p.keep a o e s (out a z),fun a n g s w z=>p.frm a n g s (out a z),fun a n s w z=>⟨w,fun m=>?_⟩,rfl⟩
  · rw [e1] at m
    refine ⟨(p.own a m).1,(p.own a m).2,fun w=>?_⟩
    rcases p.new a m with q | q
    · exact (rep.nown w).1 q
    · exact ox (q ▸ w)
  · rw [e1] at m
    rcases p.new a m with q | q
    · exact n q
    · exact out a z q
end
section
variable {X:Cx} {W:WX} {k n:Nat} {f2 x C q0:Addr} {fd:FuncData} {ps:List Str} {sp:SpN} {sel:List Sel}
theorem run_supN {pins:List (Addr × Obj)} {σ:L2.St} {H G:Hp} {so:So} {sl:DSt} {s:Shared} {Q:VK} {us:List Value} {vs:List V} {ds:List DV} {Q':FT→DSt→Prop} {E:XP} (F:FnR X.prog X.w X.K X.mg X.base k f2 fd ps (upIN X.K C sp)) (hr:Room k X.A) (hg:X.A.guards=some []) (tk:L2N.Takes X W) (hb:Bd X.K fd ps (n + 1) [] (.pos 0::sel)) (hz:noZero sel=true)
    (I:Inv X ((q0,PySem.W.methodObj (.ref f2) (.ref x))::pins) σ H s) (rep:Rep X.K G so σ H sl) (fo:FlOk X.K G so σ H sl [.ins x C []]) (nb:noBl sl=true) (nm:noMu sl=true) (r:Vals vs us) (w:VsOk X.K G so H vs ds) (l:ds.length=n)
    (q:sp (sel.map (pickD (.d .non::ds) [])) (fun t=>t.top=.raw (.ref x)→Q' t sl) fun cls fs=>E cls fs sl) (hq:∀ H' G' t,PostF X.K G so σ H sl [.ins x C []] σ H' G' sl [t]→Q' t sl→Q .non H') (hx:XOkF X.K W G so σ H sl [.ins x C []] E) :
    wpAny (model X.prog X.w) X.A (call (.ref q0) us) (EP X pins σ Q) X.xe s:=by
  have mx:x∈FT.asL [.ins x C []]:=by rw [asL_ins0];exact List.mem_singleton.mpr rfl
  obtain ⟨sx,gx,ox⟩:=fo.own x mx
  obtain ⟨zs0,k0⟩:=fo.ok
  have li:=FOkL.li k0 x mx
  have ow:OwnOk X.K G H x (.ins x C []):=by
    cases k0 with
    | cons h _=>
      cases h with
      | ins h g r=>cases r;exact ⟨rfl,_,[],h,g,.nil⟩
  obtain ⟨zs,bt,rz⟩:=hb.to _ (.ref x::us) [] (.ref x::vs) [] I.kIn (by rw [List.length_cons,← r.length,w.length,l]) rfl (.cons rfl r) .nil
  have pk:VsOk X.K G so H (sel.map (pickV (.ref x::vs) [])) (sel.map (pickD (.d .non::ds) [])):=by
    rw [pick_cong (v':=.non) hz]
    exact VsOk.pick (.cons (d:=.d .non) (show DOk _ _ _ _ from .non) (fun _ e=>(nomatch e)) w) .nil sel fun s hs=>hb.dok s (List.mem_cons_of_mem _ hs)
  have z:wpAny (model X.prog X.w) X.A (call (.ref q0) us) (EP X ((q0,PySem.W.methodObj (.ref f2) (.ref x))::pins) σ Q) X.xe s:=by
    refine wpAny_call (PySem.W.method_call (ClX.pin_at I) (codeAny_mono (F.run X.A X.stack s H ⟨.ref x::us,[]⟩ zs _ Q (fun cls d H'=>W cls d σ H') hr hg I.env0 bt rz ⟨x,_,G,so,_,_,_,rfl,rep.h,ow,gx,sx,pk,q,fun H' G' t p z=>?_,fun cls d H' G' fs p z1 z2=>?_⟩) fun r s' hz'=>?_))
    · exact hq H' G' t (p.f rep fo nb nm) (z p.top)
    · have e1:∀ a,a∉FT.asL [FT.ins x C []]→a≠x:=fun a n z=>n (z ▸ mx)
      refine hx cls d σ H' G' fs sl ⟨p.ex,p.repF rep li ox nb nm,.nil,fun a o e s w z=>p.keep a o e s (e1 a z),fun a n g s w z=>p.frm a n g s (e1 a z),fun a n s w z=>⟨w,by rw [asF_nil];exact fun m=>by cases m⟩,rfl⟩ z1 z2
    · cases r with
      | error e=>exact tk e s' (L2N.XE.of_call I (fun _ _ _ z=>z) hz')
      | ok fl=>
        cases fl with
        | ret u=>exact I.after hz'
        | next=>exact False.elim hz'
        | brk=>exact False.elim hz'
        | cont=>exact False.elim hz'
  exact thn z fun _ _ y=>ClX.unpinE y
end
section
variable {K:PySem.W.Frag} {W:WX} {G:Hp} {so:So} {σ:L2.St} {H:Hp} {sl:DSt} {x C:Addr}
theorem initN_ends {Q:VK} {E:XK} {QD:FT→Prop} {ED:XE'} (no:∀ a,¬ Own sl σ a) (hq:∀ H' G' t,PostIN K G so H x H' G' t→QD t→Q .non H') (hx:∀ cls d H' G' fs,PostX K G so H x H' G'→XdOk K G' H' d fs→ED cls fs→E cls d H') :
    EFOk K (fun cls d _ H'=>E cls d H') G so σ H sl [.ins x C []] { nx:=fun _=>endIN x C QD,rt:=fun _ _=>False,bk:=fun _ _=>False,ct:=fun _ _=>False,xc:=fun cls fs _=>ED cls fs } { nx:=fun _ H'=>Q .non H',rt:=Q }:=by
  have zf:∀ c,c≠x→c∉FT.asL [.ins x C []]:=fun c n m=>by rw [asL_ins0] at m;exact n (List.mem_singleton.mp m)
  refine ⟨fun σ' H' G' sl' fl' p z=>?_,fun _ _ _ _ _ _ z=>z.elim,fun _ _ _ _ _ _ z=>z.elim,fun _ _ _ _ _ _ z=>z.elim,fun cls d σ' H' G' fs sl' p z1 z2=>?_⟩
  · obtain ⟨fs,m,z⟩:=z
    obtain ⟨us,ok⟩:=p.flo.ok
    obtain ⟨v,hv⟩:=ok.mem m
    obtain rfl:v=.ref x:=by cases hv;rfl
    refine hq H' G' _ ⟨⟨p.ex,p.rep.h,fun b o e s n=>p.keep b o e s (no b) (zf b n),fun b n1 g s n=>p.frm b n1 g s (no b) (zf b n)⟩,hv,as_nod m p.flo.nod,fun a ma=>⟨(p.flo.own a (as_mem m a ma)).1,(p.flo.own a (as_mem m a ma)).2.1⟩,fun a ma=>?_,by rw [FT.top]⟩ z
    rcases p.back (.inr (.inr (as_mem m a ma))) with n | n | n
    · exact .inl n
    · exact absurd n (no a)
    · rw [asL_ins0] at n;exact .inr (List.mem_singleton.mp n)
  · exact hx cls d H' G' fs ⟨p.ex,p.rep.h,fun b o e s n=>p.keep b o e s (no b) (zf b n),fun b n1 g s n=>p.frm b n1 g s (no b) (zf b n)⟩ z1 z2
end
abbrev superSt (m:Str) (p0 p1 p2 p3 p4:Pos) (e:Expr) (es:List Expr):Stmt:=.Expr (.Call (.Attribute (.Call (.Name "super" p0) [] [] p1) m p2) (e::es) [] p3) p4
theorem fnIS_of {P:Program} {w:World} {K:PySem.W.Frag} {mg:Str→Option Value} {base:Heap} {file:Str} {params:Arguments} {p0 p1 p2 p3 p4:Pos} {e:Expr} {es:List Expr} {rest:List Stmt} {scope:Scope} {dvs:List V} {kws:List (Str × V)} {f f2 C D:Addr} {fd fd2:FuncData} {N ps ps2:List Str} {sel:List Sel} {k n:Nat} {sp sp2:SpN} {ta:TDA} {t:TDF}
    (F:FunK K file params (superSt "__init__" p0 p1 p2 p3 p4 e es::rest) scope dvs kws f fd D) (S:KScope N ps scope) (har:∃ ar,(params.posonlyargs++params.args).head?=some ar∧ps.head?=some ar.arg)
    (hfile:((P.main.file:Str) == file)=true) (htop:(P.main.scope.names.lookup ("super":Str)).isSome=false) (su:mg "super"=none) (SU:SupOk K C D "__init__" f2)
    {j:Nat} (F2:FnR P w K mg base j f2 fd2 ps2 (upIN K C sp2)) (hjk:j≤k) (hb2:Bd K fd2 ps2 (n + 1) [] (.pos 0::sel)) (hz:noZero sel=true)
    (len:∀ args Q E,sp args Q E→args.length + 1=ps.length) (nsee:∀ args Q E,sp args Q E→∀ (i:Nat) (o:OO),args[i]?≠some (.see o))
    (hst:∀ env,starEach (e::es) env=(false,eval e env)::starEach es env) (hpl:∀ env,(backTo p3 (starEach es env)).any (·.1)=false)
    (hev:∀ env,∃ pl:Sem Bool,eval (.Call (.Attribute (.Call (.Name "super" p0) [] [] p1) "__init__" p2) (e::es) [] p3) env=(do
      let ov ← attributeBase (.Call (.Name "super" p0) [] [] p1) "__init__" env (eval (.Call (.Name "super" p0) [] [] p1) env)
      standAt p2.atName
      let (f,first) ← holding [ov] (getMethod ov "__init__" pl)
      callWith p3 f first (backTo p3 (starEach (e::es) env)) []))
    (hd:∀ (qual:Str) (cda cc:Addr) (A:Around) (outer:List Env) (s:Shared) (H:Hp) (E:XK),Room k (A.deeper (PySem.W.ksEnv qual scope s.heap.objs.size f (.ref cda) cc))→(cxK (L2N.CX P w) P w K mg base N qual scope f cda cc A outer s H E).A.guards=some []→
      DA (cxK (L2N.CX P w) P w K mg base N qual scope f cda cc A outer s H E) (fun cls d _ H'=>E cls d H') (e::es) ta∧FSs (cxK (L2N.CX P w) P w K mg base N qual scope f cda cc A outer s H E) (fun cls d _ H'=>E cls d H') rest t)
    (hr:∀ args Q E x,sp args Q E→ta (startD N (.d (.raw (.ref x))::args)) (fun ds s1=>ds.length=n∧noBl s1=true∧noMu s1=true∧
      sp2 (sel.map (pickD (.d .non::ds) [])) (fun t'=>t'.top=.raw (.ref x)→t { nx:=fun _=>endIN x C Q,rt:=fun _ _=>False,bk:=fun _ _=>False,ct:=fun _ _=>False,xc:=fun cls fs _=>E cls fs } s1 [t']) fun cls fs=>E cls fs) fun cls fs _=>E cls fs) :
    FnR P w K mg base (k + 1) f fd ps (upIN K C sp):=by
  obtain ⟨oc,od,osl,name,qual,dV,kV,doc,pm,an,cda,cc,ct,cvs,tf,ccl,cl,cdd,cld,ccs,csl,rfl,lk,hcd,lkc,hv2,lcc,_,_⟩:=F.ex
  obtain ⟨ar,har,hself⟩:=har
  have hlen:∀ vs H Q E,upIN K C sp vs H Q E→vs.length=ps.length:=fun vs H Q E h=>by
    obtain ⟨x,vs',G,so,args,QD,ED,rfl,_,_,_,_,w1,q,_⟩:=h
    rw [List.length_cons,w1.length];exact len _ _ _ q
  refine ⟨hlen,fun A outer s H args us vs Q E hroom hg e0 hb r h=>?_⟩
  have hl:=hlen _ _ _ _ h
  have KX:K.In s.heap:=e0.mod.kin.keeps fun b o e=>(e0.bs b o e).1
  have lim:s.heap.NoLimit:=e0.mod.nolimit.keeps fun b o e=>(e0.bs b o e).1
  obtain ⟨x,vs',G,so,as,QD,ED,rfl,hrep,ow,gx,sx,w1,q,hq,hx⟩:=h
  obtain ⟨_,dx,ivs,hx0,hd0,fa⟩:=ow
  obtain rfl:ivs=[]:=by cases fa;rfl
  have w2:VsOk K G so H (.ref x::vs') (.d (.raw (.ref x))::as):=.cons (d:=.d (.raw (.ref x))) (show DOk _ _ _ _ from .raw _) (fun _ e=>(nomatch e)) w1
  have no:∀ a,¬ Own (startD N (.d (.raw (.ref x))::as)) (L2.start N (.ref x::vs')) a:=fun a ⟨i,o,e,_⟩=>by
    obtain ⟨_,_,_,n⟩:=w2.get (start_get e)
    exact n o rfl
  have rep:Rep K G so (L2.start N (.ref x::vs')) H (startD N (.d (.raw (.ref x))::as)):=rep_start hrep w2 fun i o e=>by
    cases i with
    | zero=>simp at e
    | succ j=>exact nsee _ _ _ q j o (by simpa using e)
  have fo:FlOk K G so (L2.start N (.ref x::vs')) H (startD N (.d (.raw (.ref x))::as)) [.ins x C []]:=⟨⟨[.ref x],.cons (.ins hx0 hd0 .nil) .nil⟩,by rw [asL_ins0];simp,fun a m=>by
    rw [asL_ins0] at m
    rw [List.mem_singleton.mp m]
    exact ⟨sx,gx,no x⟩⟩
  have ends:=initN_ends (C:=C) no hq hx
  have hlcl:∀ y∈ps.zip us,scope.names.lookup y.1=some .local:=fun y hy=>S.par y.1 (List.of_mem_zip hy).1
  refine ks_codeAny_call_defAt (fd:=PySem.W.ksFn name qual params (superSt "__init__" p0 p1 p2 p3 p4 e es::rest) scope dV kV doc pm an (.ref cda) ct cc) (body:=superSt "__init__" p0 p1 p2 p3 p4 e es::rest) (binds:=ps.zip us) hroom.depth (KX _ _ lk) rfl lim (PySem.W.codeRec_of KX hcd) rfl hb S.nocell hlcl (fun h1 hns k1=>?_) S.co S.gen S.kind
  have I:=inv_startK (CX:=L2N.CX P w) (P:=P) (w:=w) (N:=N) (qual:=qual) (f:=f) (cda:=cda) (E:=E) (tk:=s.toks + (ps.zip us).length) S hroom.hd e0 hl r lcc hns k1
  obtain ⟨dA,dR⟩:=hd qual cda cc A outer s H E (hroom.deeper _) hg
  have hR:=hr as QD ED x q
  have tkX:L2N.Takes (cxK (L2N.CX P w) P w K mg base N qual scope f cda cc A outer s H E) (fun cls d _ H'=>E cls d H'):=tkOf rfl rfl rfl rfl
  have K1:K.In h1:=fun b o z=>k1 b o (KX b o z)
  have hx1:∃ ox,h1.get? x=some ox∧ox.cls=.ref C∧∀ c,ox.data≠.cls c:=by
    obtain ⟨mA,O,_,_,_,_⟩:=ins_get I.hok hx0
    obtain ⟨od,II,_⟩:=O.look
    exact ⟨_,II.at_,II.cls,fun c z=>by cases z⟩
  obtain ⟨ox,hx1,hx2,hx3⟩:=hx1
  obtain ⟨hh,g,dr,tok,os⟩:=s
  obtain ⟨cdD,hcdD⟩:=SU.cD
  obtain ⟨oD,hD1,hD2⟩:∃ oD,h1.get? D=some oD∧oD.data=.cls cdD:=by
    unfold PySem.W.clsIn at hcdD
    split at hcdD
    · rename_i c d cd' sl ho
      cases hcdD
      exact ⟨_,K1 _ _ ho,rfl⟩
    · cases hcdD
  obtain ⟨mb,nb,hbb⟩:=e0.mod.blt
  have up:∀ b o,base.get? b=some o→h1.get? b=some o:=fun b o z=>k1 b o (e0.bs b o z).1
  have G1:h1.Ns mainGlobals mg:=by obtain ⟨o,es,ep,e2,r⟩:=e0.mod.glob;exact ⟨o,es,ep,up _ _ e2,r⟩
  have B1:h1.Ns builtinsNs mb:=by obtain ⟨o,es,ep,e2,r⟩:=nb;exact ⟨o,es,ep,up _ _ e2,r⟩
  have hbn:mb ("super":Str)=some (.type "super"):=(hbb _ (by decide)).trans PyProof.Rows.Boot.«super»
  have ndP:ps.Nodup:=by rw [← S.pre];exact S.nd.sublist (List.take_sublist _ _)
  have p0':ps[0]?=some ar.arg:=by rw [← List.head?_eq_getElem?];exact hself
  have kself:(ps.zip us).reverse.lookup ar.arg=some (.ref x):=by
    cases r with
    | cons r0 rr=>
      obtain rfl:=r0
      exact NdefX.zip_look ndP p0' rfl
  have hint:∀ env:Env,env.scope.kind=.function→interactive env=false:=fun env h=>by unfold interactive;simp [Env.blockKind,h]
  obtain ⟨pl,hpl2⟩:=hev (PySem.W.ksEnv qual scope hh.objs.size f (.ref cda) cc)
  refine ks_wpAt_execs_cons (ks_wpAt_Expr_any (ks_wpAt_MethodCall ?_ hpl2) (hint _ S.kind) (by rfl))
  refine ks_wpAt_super_base (ar:=ar) S.ks S.kc (by decide) (f:=f) rfl (K1 _ _ lk) rfl har (cc:=cda) rfl (K1 _ _ lkc) rfl hv2 hfile htop ?_
  refine PySem.W.ks_loadName_global S.kind S.ks (Calls.loadGlobal_builtin G1 su B1 hbn ⟨rfl,?_⟩)
  refine wpAny_loadName_free S.kind S.kc (c:=cc) rfl ⟨_,K1 _ _ lcc,rfl⟩ ?_
  refine wpAny_loadName_local S.kind (S.par _ (List.mem_of_getElem? p0')) hns kself ?_
  refine ks_wpAny_isType_cls hD1 hD2 ⟨rfl,?_⟩
  refine ks_wpAny_call_super hD1 hD2 hx1 hx2 hx3 (PySem.W.looks_mroIn K1 SU.sub) (fun h2 so2 k2=>?_)
  have K2:K.In h2:=fun b o z=>k2 b o (K1 b o z)
  obtain ⟨cd,hcd2,hsup⟩:∃ cd,PySem.W.clsIn K C=some cd∧PySem.W.alongIn K "__init__" ((cd.mro.dropWhile (· != .ref D)).drop 1)=some (some (.ref f2)):=by
    have z:=SU.sup
    unfold PySem.W.ks_superIn at z
    cases hc:PySem.W.clsIn K C with
    | none=>rw [hc] at z;cases z
    | some cd=>rw [hc] at z;exact ⟨cd,rfl,z⟩
  obtain ⟨of,hof,hofc⟩:∃ of,h2.get? f2=some of∧of.cls=.type "function":=by
    have ht':(K.lookup f2).map (·.cls)=some (.type "function"):=SU.ty
    cases z:K.lookup f2 with
    | none=>rw [z] at ht';cases ht'
    | some of=>rw [z] at ht';exact ⟨of,K2 _ _ z,Option.some.inj ht'⟩
  have hne:x≠C:=fun z=>by
    unfold PySem.W.clsIn at hcd2
    split at hcd2
    · rename_i c d cd' sl ho
      have y:=K1 _ _ ho
      rw [← z,hx1] at y
      cases y
      exact hx3 _ rfl
    · cases hcd2
  refine PySem.ks_wpAny_getMethod_super so2 (PySem.W.looks_opaque K2 SU.op) (l₀:=cd.mro) (fun A Q E s k q=>wpAny_bind ((PySem.W.looks_clsIn K2 hcd2) A _ E s k (wpAny_pure q))) rfl K2 hsup hof hofc hne (by decide) ?_
  have h12:h1.objs.size≤h2.objs.size:=Nat.le_of_lt (Heap.lt_size so2)
  have I3:=ClX.pin_new (a:=h2.objs.size) (o:=PySem.W.methodObj (.ref f2) (.ref x)) (h':=h2.push (PySem.W.methodObj (.ref f2) (.ref x))) (t':=tok + (ps.zip us).length + 1) I (fun b o z=>Heap.get?_push_of_some _ (k2 b o z)) h12 (Heap.get?_push_size h2 rfl) (fun v z=>nomatch z)
  have hq3:=ClX.pin_at I3
  have hL:=(I3.pin (h2.objs.size,PySem.W.methodObj (.ref f2) (.ref x)) (List.mem_append_right _ List.mem_cons_self)).2.2.1
  have hbq:base.get? h2.objs.size=none:=ClX.base_none I h12
  refine PySem.W.callWith_M (K:=K) (h₀:=base) (first:=[]) e0.mod.kin (news_at hL hbq hq3) List.mem_cons_self SU.fn (thn (dA.run p3 _ _ _ H (fun vs H1=>∃ G1 ds s1,Post K G so (L2.start N (.ref x::vs')) H (startD N (.d (.raw (.ref x))::as)) H1 G1 s1∧VsOk K G1 so H1 vs ds∧ds.length=n∧noBl s1=true∧noMu s1=true∧
      sp2 (sel.map (pickD (.d .non::ds) [])) (fun t'=>t'.top=.raw (.ref x)→t { nx:=fun _=>endIN x C QD,rt:=fun _ _=>False,bk:=fun _ _=>False,ct:=fun _ _=>False,xc:=fun cls fs _=>ED cls fs } s1 [t']) fun cls fs=>ED cls fs) I3
    ⟨G,so,_,_,_,rep,hR,fun vs H1 G1 ds s1 p1 w z=>⟨G1,ds,s1,p1,w,z⟩,ends.xc.ex fo⟩) fun us' s3 ⟨vs3,H3,I4,r3,G3,ds3,sl3,p3',w3,l3,nb3,nm3,z3⟩=>⟨⟨ClX.pin_at I4,I4.kIn⟩,?_⟩) (hst _) (hpl _)
  have pA:=p3'.s.f fo
  refine wpAny_mono (run_supN (X:=cxK (L2N.CX P w) P w K mg base N qual scope f cda cc A outer ⟨hh,g,dr,tok,os⟩ H E) (Q':=fun t' s1=>t { nx:=fun _=>endIN x C QD,rt:=fun _ _=>False,bk:=fun _ _=>False,ct:=fun _ _=>False,xc:=fun cls fs _=>ED cls fs } s1 [t']) (E:=fun cls fs _=>ED cls fs)
    (Q:=fun _ H'=>∃ G' t',PostF K G3 so (L2.start N (.ref x::vs')) H3 sl3 [.ins x C []] (L2.start N (.ref x::vs')) H' G' sl3 [t']∧t { nx:=fun _=>endIN x C QD,rt:=fun _ _=>False,bk:=fun _ _=>False,ct:=fun _ _=>False,xc:=fun cls fs _=>ED cls fs } sl3 [t'])
    F2 ((hroom.deeper _).mono hjk) hg tkX hb2 hz I4 p3'.rep pA.flo nb3 nm3 r3 w3 l3 z3 (fun H' G' t' p z=>⟨G',t',p,z⟩) (ends.xc.step pA)) (fun u s4 hs=>?_) fun _ _ z=>z
  obtain ⟨v4,H4,I5,_,G4,t4,pB,z4⟩:=hs
  refine wpAt_of_wpAny (wpAny_mono (dR.run [] s4 _ H4 { nx:=fun _ H'=>Q .non H',rt:=Q } I5 ⟨G4,so,sl3,[t4],_,pB.rep,pB.flo,z4,ends.step (pA.trans pB)⟩) (fun fl s' hs=>?_) fun e s' hs=>hs)
  cases fl with
  | ret u=>
    obtain ⟨v,σ',H',J,rv,z⟩:=hs
    exact ⟨v,H',J.os,J.bare,J.base,J.hok,rv,z⟩
  | next=>
    obtain ⟨σ',H',J,z⟩:=hs
    exact ⟨.non,H',J.os,J.bare,J.base,J.hok,rfl,z⟩
  | brk=>obtain ⟨_,_,_,z⟩:=hs;exact False.elim z
  | cont=>obtain ⟨_,_,_,z⟩:=hs;exact False.elim z
section
variable {X:Cx} {W:WX} {e:Expr} {t u:TD}
def dAlt (t u:TD):TD:=fun sl Q E=>t sl Q E∨u sl Q E
theorem de_alt (h1:DE X W e t) (h2:DE X W e u):DE X W e (dAlt t u):=⟨fun pins s σ H Q I ⟨G,so,sl,Q',E,rep,q,hq,hx⟩=>q.elim (fun q=>h1.run pins s σ H Q I ⟨G,so,sl,Q',E,rep,q,hq,hx⟩) fun q=>h2.run pins s σ H Q I ⟨G,so,sl,Q',E,rep,q,hq,hx⟩⟩
theorem altL {t u:TD} {sl:DSt} {Q:DV→DSt→Prop} {E:XP} (h:t sl Q E):dAlt t u sl Q E:=.inl h
theorem altR {t u:TD} {sl:DSt} {Q:DV→DSt→Prop} {E:XP} (h:u sl Q E):dAlt t u sl Q E:=.inr h
end
def ICon (K:PySem.W.Frag) (C:Addr) (f:Str) (d:D):Prop:=∃ v u,Con K C f v u∧∀ G,DOk K G v d
theorem icB_ok {K:PySem.W.Frag} {C:Addr} {f:Str} {d:D} (h:icB K C f d=true):ICon K C f d:=by
  unfold icB at h
  split at h
  · rename_i u e
    obtain ⟨h1,h2⟩:=He.ba h
    obtain ⟨h3,h4⟩:=He.ba h2
    obtain ⟨v,r,w⟩:=datB_ok d u h4
    exact ⟨v,u,⟨e,r,of_decide_eq_true h1,by simpa using h3⟩,w⟩
  · cases h
def dCon (to:TD) (C:Addr) (f:Str) (d:D):TD:=fun sl Q E=>to sl (fun x s=>match pubV x with
  | .d (.ins D fs)=>D=C∧fs.lookup f=none∧Q (.d d) s
  | _=>False) E
theorem de_con {X:Cx} {W:WX} {o:Expr} {to:TD} {C:Addr} {f:Str} {d:D} {pos:Pos} (he:DE X W o to) (c:Cls X.K C) (k:ICon X.K C f d) (hb:attributeBase o f X.env (eval o X.env)=eval o X.env:=by rfl):DE X W (.Attribute o f pos) (dCon to C f d):=by
  obtain ⟨v,u,k,w⟩:=k
  refine ⟨fun pins s σ H Q I ⟨G,so,sl,Q',E,rep,q,hq,hx⟩=>?_⟩
  refine attr_of hb (thn (he.run pins s σ H (fun v H1=>∃ G1 s1 fs,PostE X.K G so σ H sl v H1 G1 (.d (.ins C fs)) s1∧fs.lookup f=none∧Q' (.d d) s1) I
    ⟨G,so,sl,_,E,rep,q,fun v H1 G1 dv s1 p1 z=>?_,hx⟩) fun u1 s1 ⟨x,H1,I1,rx,G1,sl1,fs,p1,l,z⟩=>?_)
  · obtain ⟨G2,p2⟩:=p1.pub
    split at z
    · rename_i D fs ed
      obtain ⟨rfl,l,z⟩:=z
      exact ⟨G2,s1,fs,by rw [← ed];exact p2,l,z⟩
    · exact z.elim
  · obtain ⟨a,dx,vs,ex,ea,fa⟩:=VOk.inst p1.rep.h p1.val rfl
    subst ex
    obtain rfl:u1=Value.ref a:=rx
    exact getcon_ok I1 ea c k (fa.lookN l) fun s2 I2=>⟨v,H1,I2,k.rel,hq v H1 G1 (.d d) sl1 (p1.toPost.thenV (.dat p1.rep.h (w G1))) z⟩
@[irreducible] def isiSR (K:PySem.W.Frag) (C:Addr):List DV→(DV→Prop)→Prop
  | [v,.d (.raw (.ref D))],Q=>D=C∧match v.inst with
    | some (B,_)=>CInst K B∧∃ b,PySem.W.kitOne K (.ref B) (.ref C)=some b∧Q (.d (.bl b))
    | none=>match v.dat with
      | some d=>CInst K C∧(tyD d).isSome=true∧Q (.d (.bl false))
      | none=>False
  | _,_=>False
theorem sem_isiS {K:PySem.W.Frag} {C:Addr}:CallSem K (rIsi K) (isiSR K C):=by
  intro G so H xs dxs Q R h w q k
  unfold isiSR at q
  split at q
  · obtain ⟨v,v',rfl,w1,w2,_⟩:=w.v2
    cases w2
    obtain ⟨rfl,q⟩:=q
    split at q
    · rename_i B fs e
      obtain ⟨c,b,kb,q⟩:=q
      exact ⟨_,_,_,_,b,rfl,.own _,ty_ins h w1 c e,kb,k _ H G _ (.dat h (.bl _)) q⟩
    · split at q
      · rename_i d e
        obtain ⟨c,et,q⟩:=q
        obtain ⟨t,et⟩:=Option.isSome_iff_exists.mp et
        exact ⟨_,_,_,_,false,rfl,.own _,ty_ok h w1 e et,c.no t (ty_kind et),k _ H G _ (.dat h (.bl _)) q⟩
      · exact q.elim
  · exact q.elim
theorem l_isiS {K:PySem.W.Frag} {B C:Addr} {v:DV} {fs:List (Str × D)} {b:Bool} {Q:DV→Prop} (c:CInst K B) (kb:PySem.W.kitOne K (.ref B) (.ref C)=some b) (h:v.inst=some (B,fs)) (q:Q (.d (.bl b))):isiSR K C [v,.d (.raw (.ref C))] Q:=by
  unfold isiSR
  refine ⟨rfl,?_⟩
  rw [h]
  exact ⟨c,b,kb,q⟩
section
variable {K:PySem.W.Frag} {file:Str} {params:Arguments} {body:List Stmt} {scope:Scope} {dvs:List V} {kws:List (Str × V)} {f Da:Addr} {fd:FuncData} {ps ks:List Str} {n:Nat} {sel:List Sel}
theorem bd_ofK (F:FunK K file params body scope [] kws f fd Da) (g:List Value→List Value→List Value)
    (h:∀ (name qual:Str) (kV doc pm:Value) (an:Option Addr) (cdv ct:Value) (cc:Addr) (us ws:List Value),us.length=n→ws.length=ks.length→bindArgs (PySem.W.ksFn name qual params body scope .none kV doc pm an cdv ct cc) ⟨us,ks.zip ws⟩=pure (ps.zip (g us ws)))
    (hv:∀ (vs qs:List V) (us ws:List Value),us.length=n→ws.length=ks.length→Vals vs us→Vals qs ws→Vals (sel.map (pickV vs qs)) (g us ws)) (hs:∀ s∈sel,∀ (v:V) (d:DL.D),s=.dfl v d→∀ G,DOk K G v d):Bd K fd ps n ks sel:=by
  obtain ⟨oc,od,osl,name,qual,dV,kV,doc,pm,an,cda,cc,ct,cvs,tf,ccl,cl,cdd,cld,ccs,csl,rfl,lk,hcd,lkc,hv2,lcc,hD,hK⟩:=F.ex
  rcases hD with ⟨_,rfl⟩ | ⟨e,_⟩
  · exact ⟨fun s us ws vs qs _ l1 l2 r1 r2=>⟨g us ws,.of_eq (h name qual kV doc pm an (.ref cda) ct cc us ws l1 l2),hv vs qs us ws l1 l2 r1 r2⟩,hs⟩
  · exact absurd rfl e
end
section
variable {K:PySem.W.Frag} {G G1:Hp} {so:So} {σ σ1:L2.St} {H H1:Hp} {sl s1:DSt} {fl f0 f1:Fl} {v:V} {z x:D} {i:Nat}
theorem own_setD (e:sl[i]?=some (some (.d z))) {a:Addr}:Own (sl.set i (some (.d x))) σ a ↔ Own sl σ a:=by
  constructor
  · rintro ⟨j,o,q1,q2⟩
    rcases get_set q1 with ⟨_,y⟩ | ⟨_,y⟩
    · cases y
    · exact ⟨j,o,y,q2⟩
  · rintro ⟨j,o,q1,q2⟩
    by_cases q:i=j
    · subst q;rw [e] at q1;cases q1
    · exact ⟨j,o,by rw [List.getElem?_set_ne q];exact q1,q2⟩
theorem set_back (e:sl[i]?=some (some (.d z))):(sl.set i (some (.d x))).set i (some (.d z))=sl:=by
  rw [List.set_set]
  apply List.ext_getElem?
  intro j
  by_cases q:i=j
  · subst q
    have hi:=(List.getElem?_eq_some_iff.mp e).1
    rw [List.getElem?_set_self hi,e]
  · rw [List.getElem?_set_ne q]
end
def fForL (g:TDG) (tb:TDF) (E:EndsF):List D→DSt→Fl→Prop
  | [],sl,fl=>E.nx sl fl
  | d::r,sl,fl=>g d sl fun s1=>tb { nx:=fForL g tb E r,ct:=fForL g tb E r,bk:=E.nx,rt:=E.rt,xc:=E.xc } s1 fl
def fForC (j:Nat) (g:TDG) (tb:TDF):TDF:=fun E sl fl=>∃ k a cs,sl[j]?=some (some (.d (.raw (.ref a))))∧fl[k]?=some (.lst a cs)∧fForL g tb E (cs.map FT.top) sl (cs++fl.eraseIdx k)
section
variable {X:Cx} {W:WX} {tg iter:Expr} {body:List Stmt} {g:TDG} {tb:TDF} {pos:Pos} {ix:List Nat} {g':TG} {j:Nat}
theorem fs_forF (hp:PassesOwn (model X.prog X.w) X.A X.env X.xe) (hc:X.calm=true) (hi:PE X iter (tVar j)) (hg:DG X ix tg g' g) (hb:FSs X W body tb) (hs:∀ x,foldedSetIterable iter X.env x=pure x:=by intro _;rfl):FS X W (.For tg iter body [] pos) (fForC j g tb):=by
  obtain ⟨pg,sg⟩:=hg
  refine ps_len (ps_for hp hc (pi_any hi) pg hb hs) fun D σ H hl ⟨G,so,sl,fl,E,rep,fo,⟨k,a,cs,e1,e2,q⟩,ok⟩=>?_
  obtain ⟨v,ev,w⟩:=rep.slots j _ e1
  obtain rfl:v=.ref a:=by cases w;rfl
  obtain ⟨ft,⟨va,fa⟩,fout⟩:=fo.take e2
  obtain ⟨us0,fo0⟩:=ft.ok
  cases fo0 with
  | cons q0 fr=>
    cases q0 with
    | lst ha hx=>
      rename_i vs us
      have e0:FT.asL (.lst a cs::fl.eraseIdx k)=a::(FT.asL cs++FT.asL (fl.eraseIdx k)):=by rw [asF_cons,FT.as];rfl
      have ea:FT.asL (cs++fl.eraseIdx k)=FT.asL cs++FT.asL (fl.eraseIdx k):=asLF_app _ _
      have nd:=ft.nod
      rw [e0,List.nodup_cons] at nd
      have am:a∈FT.asL (.lst a cs::fl.eraseIdx k):=by rw [e0];exact List.mem_cons_self ..
      have na:a∉FT.asL (cs++fl.eraseIdx k):=by rw [ea];exact nd.1
      obtain ⟨sa,ga,wa⟩:=ft.own a am
      have sub1:∀ b∈FT.asL (cs++fl.eraseIdx k),b∈FT.asL (.lst a cs::fl.eraseIdx k):=fun b m=>by rw [e0,← ea];exact List.mem_cons_of_mem _ m
      have sub0:∀ b∈FT.asL (cs++fl.eraseIdx k),b∈FT.asL fl:=fun b m=>Classical.byContradiction fun n=>fout b n (sub1 b m)
      have p00:PostF X.K G so σ H sl fl σ H G sl (cs++fl.eraseIdx k):=(PostF.refl rep fo).sub' (hx.app fr) (by rw [ea];exact nd.2) sub0
      have ok0:=ok.step p00
      refine ⟨.ref a,ev,.inl ⟨a,rfl,⟨_,SqL.of ha⟩,?_⟩⟩
      refine ⟨fun i m σ' H'=>m=cs.length - i∧i≤cs.length∧∃ G' sl' fl',PostF X.K G so σ H sl (cs++fl.eraseIdx k) σ' H' G' sl' fl'∧fForL g tb E ((cs.map FT.top).drop i) sl' fl',⟨cs.length,by simp,Nat.zero_le _,G,sl,_,PostF.refl rep p00.flo,q⟩,?_⟩
      rintro i m σ' H' ⟨rfl,hi',G',sl',fl',t,q2⟩
      have same:H' a=some (.lst us):=t.keep a _ ha sa wa na
      have len:us.length=cs.length:=hx.len
      by_cases hlt:i < cs.length
      · refine .inr ⟨⟨us,us[i]'(by omega),SqL.of same,List.getElem?_eq_getElem _⟩,fun σ'' H''=>∃ G'' sl'' fl'',PostF X.K G so σ H sl (cs++fl.eraseIdx k) σ'' H'' G'' sl'' fl''∧fForL g tb E ((cs.map FT.top).drop (i + 1)) sl'' fl'',fun σ'' H'' ⟨G'',sl'',fl'',t2,q3⟩=>⟨cs.length - (i + 1),by omega,rfl,hlt,G'',sl'',fl'',t2,q3⟩,fun x H2 y=>?_⟩
        obtain ⟨rfl,y⟩:=y
        have yx:us[i]?=some x:=y us (SqL.of same)
        obtain ⟨x',e3,wc⟩:=hx.get (i:=i) (List.getElem?_eq_getElem hlt)
        rw [yx] at e3
        cases e3
        have dx:DOk X.K G' x (cs[i]).top:=(FOk.top wc).mono t.ex
        have q4:fForL g tb E ((cs[i]).top::(cs.map FT.top).drop (i + 1)) sl' fl':=by
          have z:(cs.map FT.top).drop i=(cs[i]).top::(cs.map FT.top).drop (i + 1):=by
            rw [List.drop_eq_getElem_cons (by rw [List.length_map];exact hlt),List.getElem_map]
          rw [← z];exact q2
        unfold fForL at q4
        refine sg G' so σ' H2 sl' x _ _ _ (t.ln.trans hl) t.rep dx q4 fun σ3 sl3 t3 _ q3=>?_
        have t13:=t.trans (t3.f t.flo)
        refine ⟨G',so,sl3,fl',_,t3.rep,t13.flo,q3,⟨fun σ4 H4 G4 s4 f4 t4 q4=>⟨G4,s4,f4,t13.trans t4,q4⟩,fun σ4 H4 G4 s4 f4 t4 q4=>ok0.nx σ4 H4 G4 s4 f4 (t13.trans t4) q4,fun σ4 H4 G4 s4 f4 t4 q4=>⟨G4,s4,f4,t13.trans t4,q4⟩,fun v H4 G4 dv z4 t4 q4=>ok0.rt v H4 G4 dv z4 (t13.thenR t4) q4,ok0.xc.step t13⟩⟩
      · have e:i=cs.length:=by omega
        subst e
        rw [List.drop_eq_nil_of_le (by rw [List.length_map];exact Nat.le_refl _)] at q2
        unfold fForL at q2
        exact .inl ⟨⟨us,SqL.of same,by omega⟩,ok0.nx σ' H' G' sl' fl' t q2⟩
end
def xRaw (i:Nat) (te:TFE):TFE:=fun sl fl Q _=>∃ z,sl[i]?=some (some (.d z))∧∀ v,te (sl.set i (some (.d (.raw v)))) fl (fun x s f=>s=sl.set i (some (.d (.raw v)))∧∃ a C f1 nm f2,x=.ins a C (f1++(nm,.leaf (.raw v))::f2)∧Q (.ins a C (f1++(nm,.leaf z)::f2)) sl f) fun _ _ _=>False
theorem asF_app:∀ (xs ys:List (Str × FT)),FT.asF (xs++ys)=FT.asF xs++FT.asF ys
  | [],ys=>by rw [FT.asF];rfl
  | (f,x)::r,ys=>by rw [List.cons_append,FT.asF,FT.asF,asF_app r ys,List.append_assoc]
theorem re_as {a C:Addr} {f1 f2:List (Str × FT)} {nm:Str} {d1 d2:D}:(FT.ins a C (f1++(nm,.leaf d1)::f2)).as=(FT.ins a C (f1++(nm,.leaf d2)::f2)).as:=by
  rw [FT.as,FT.as,asF_app,asF_app,FT.asF,FT.asF,FT.as,FT.as]
theorem FOkF.re {K:PySem.W.Frag} {G H:Hp} {u:V} {z:D} {nm:Str} {f2:List (Str × FT)} (w:DOk K G u z):∀ {f1:List (Str × FT)} {vs:List (Str × V)},FOkF K G H vs (f1++(nm,.leaf (.raw u))::f2)→FOkF K G H vs (f1++(nm,.leaf z)::f2)
  | [],_,.cons h r=>by
    cases h with
    | leaf h=>cases h;exact .cons (.leaf w) r
  | _::f1,_,.cons h r=>.cons h (FOkF.re w r)
theorem fe_raw {X:Cx} {W:WX} {e:Expr} {te:TFE} {i:Nat} (h:FE X W e te):FE X W e (xRaw i te):=pe_imp h fun σ H R ⟨G,so,sl,fl,Q,E,rep,fo,⟨z,ez,q⟩,hq,hx⟩=>by
  obtain ⟨v,e1,w⟩:=rep.slots i _ ez
  have w:DOk X.K G v z:=w
  have rep2:=rep.setDF (x:=.raw v) ez e1 (.raw v)
  have os:∀ a,Own (sl.set i (some (.d (.raw v)))) σ a ↔ Own sl σ a:=fun a=>own_setD ez
  have fo2:FlOk X.K G so σ H (sl.set i (some (.d (.raw v)))) fl:=⟨fo.ok,fo.nod,fun a m=>⟨(fo.own a m).1,(fo.own a m).2.1,fun y=>(fo.own a m).2.2 ((os a).mp y)⟩⟩
  refine ⟨G,so,_,fl,_,_,rep2,fo2,q v,fun u H1 G1 x s1 f1 p1 ⟨es,a,C,g1,nm,g2,ex,q1⟩=>?_,fun _ _ _ _ _ _ _ _ _ y=>y.elim⟩
  subst es;subst ex
  have wz:DOk X.K G1 v z:=w.mono p1.ex
  have hi:=(List.getElem?_eq_some_iff.mp ez).1
  have ez2:(sl.set i (some (.d (.raw v))))[i]?=some (some (.d (.raw v))):=List.getElem?_set_self hi
  have rep3:=p1.rep.setDF (x:=z) ez2 e1 wz
  rw [set_back ez] at rep3
  have asq:FT.asL (FT.ins a C (g1++(nm,.leaf z)::g2)::f1)=FT.asL (FT.ins a C (g1++(nm,.leaf (.raw v))::g2)::f1):=by rw [asF_cons,asF_cons,re_as]
  have val:FOk X.K G1 H1 u (.ins a C (g1++(nm,.leaf z)::g2)):=by
    have y:=p1.val
    cases y with
    | ins h g r=>exact .ins h g (FOkF.re wz r)
  obtain ⟨ws,okl⟩:=p1.flo.tail.ok
  refine hq u H1 G1 _ sl f1 ⟨⟨p1.ex,rep3,⟨⟨_,.cons val okl⟩,by rw [asq];exact p1.flo.nod,fun b m=>?_⟩,fun b o eb s n y=>p1.keep b o eb s (fun y2=>n ((os b).mp y2)) y,fun b n g s y m=>p1.frm b n g s (fun y2=>y ((os b).mp y2)) m,fun b n s y m=>?_,rfl⟩,val⟩ q1
  · rw [asq] at m
    exact ⟨(p1.flo.own b m).1,(p1.flo.own b m).2.1,fun y=>(p1.flo.own b m).2.2 ((os b).mpr y)⟩
  · obtain ⟨k1,k2⟩:=p1.sub b n s (fun y2=>y ((os b).mp y2)) m
    exact ⟨fun y2=>k1 ((os b).mpr y2),by rw [asq];exact k2⟩
theorem xs_ok {l:LX} {fa:List He.Fa} {fn:List He.DefD} {h:Heap} {K:PySem.W.Frag} {b:PySem.W.Frag→Bool} (S:SaysX l fa fn h K) {i:Nat} (e:l.xs[i]?=some b):b K=true:=List.all_eq_true.mp (He.ba (He.ba S.c).2).2 _ (List.mem_of_getElem? e)
theorem supB_ok {K:PySem.W.Frag} {C D:Addr} {m:Str} {f2:Addr} (h:supB K C D m f2=true):SupOk K C D m f2:=by
  unfold supB at h
  obtain ⟨h1,h⟩:=He.ba h
  obtain ⟨h2,h⟩:=He.ba h
  obtain ⟨h3,h⟩:=He.ba h
  obtain ⟨h4,h⟩:=He.ba h
  obtain ⟨h5,h6⟩:=He.ba h
  exact ⟨Option.isSome_iff_exists.mp h1,of_decide_eq_true h2,of_decide_eq_true h3,of_decide_eq_true h4,of_decide_eq_true h5,h6⟩
theorem meB_ok {K:PySem.W.Frag} {C:Addr} {m:Str} {f:Addr} (h:meB K C m f=true):Meth K C m f:=by
  unfold meB at h
  obtain ⟨h1,h⟩:=He.ba h
  obtain ⟨h2,h3⟩:=He.ba h
  exact ⟨of_decide_eq_true h1,h2,h3⟩
theorem prB_ok {K:PySem.W.Frag} {C D:Addr} {m:Str} {p g:Addr} (h:prB K C m p=true) (q:PropOf K D m p g):PropOf K C m p g:={ q with at_:=of_decide_eq_true h }
theorem ktB_ok {K:PySem.W.Frag} {B C:Addr} {b:Bool} (h:ktB K B C b=true):PySem.W.kitOne K (.ref B) (.ref C)=some b:=of_decide_eq_true h
theorem funK_ok {K:PySem.W.Frag} {file:Str} {q:He.DefD} {C:Str} (h:shB K file q C=true) (e:fnWs K q.at_=q.val):∃ fd,FunK K file q.params q.body q.scope (q.dvs K) (q.kws K) (He.fAd K q.at_) fd (He.ga K C):=by
  unfold shB at h
  unfold fnWs at e
  generalize He.fAd K q.at_=f at *
  obtain ⟨hk,h⟩:=He.ba h
  split at h
  · rename_i oc od fd osl lk
    rw [lk] at e
    obtain ⟨n1,n2,n3,n4,n5,n6,n7,n8,n9,n10,n11,n12,n13,n14,n15⟩:=fd
    have e2:(some (n1,n2,n3,n4,n5,n6,[],n15):He.FnW)=some (q.name,q.qual,q.params,.stmts q.body,q.scope,mainGlobals,[],builtinsNs):=e
    simp only [Option.some.injEq,Prod.mk.injEq] at e2
    obtain ⟨h1,h2,h3,h4,h5,h6,_,h8⟩:=e2
    subst h1 h2 h3 h4 h5 h6 h8
    obtain ⟨k1,h⟩:=He.ba h
    obtain ⟨k2,h⟩:=He.ba h
    dsimp only at h k1 k2
    split at h
    · rename_i x cc cda _ _
      obtain ⟨k3,h⟩:=He.ba h
      obtain ⟨k4,h⟩:=He.ba h
      obtain ⟨k5,k6⟩:=He.ba h
      obtain rfl:=of_decide_eq_true k3
      split at k5
      · rename_i ccl cdd vs ccs lkc
        split at k5
        · rename_i fl tf ev
          obtain rfl:=of_decide_eq_true k5
          split at k6
          · rename_i cl cld D csl lcc
            obtain rfl:=of_decide_eq_true k6
            exact ⟨_,⟨oc,od,osl,q.name,q.qual,n8,n9,n10,n11,n12,cda,cc,n14,vs,tf,ccl,cl,cdd,cld,ccs,csl,rfl,lk,k4,lkc,ev,lcc,He.dflB_ok k1,He.kwdB_ok k2⟩,hk⟩
          · cases k6
        · cases k5
      · cases k5
    · cases h
  · cases h
theorem pe_neg {X:Cx} {n:Int} {k:Nat} {p1 p2:Pos}:PE X (.UnaryOp .USub (.Constant (.int n) k p1) p2) (tC (.int (-n))):=pe_imp (pe_un un_neg pe_int) fun σ H Q h=>⟨n,rfl,h⟩
def fParP (i j:Nat) (ta:TFA):TDF:=fun E sl fl=>ta sl fl (fun xs s f=>match xs with
  | [x,y]=>E.nx ((s.set i (some (.d x.d))).set j (some (.d y.d))) f
  | _=>False) E.xc
section
variable {X:Cx} {W:WX} {a b:Expr} {ta:TFA} {i j:Nat} {x y:Str} {pos:Pos}
theorem fs_parP {px py pt kt k2 pt2} (hc:X.calm=true) (hN:X.N.Nodup) (hi:X.N[i]?=some x) (hj:X.N[j]?=some y) (hij:i≠j)
    (hx:X.env.scope.names.lookup x=some .local) (hy:X.env.scope.names.lookup y=some .local) (ha:FA X W [a,b] ta)
    (hw:swappedStores [.Tuple [.Name x px,.Name y py] kt pt] (.Tuple [a,b] k2 pt2) X.env=pure (some [x,y]))
    (hs:swapsWithSole [.Tuple [.Name x px,.Name y py] kt pt] (.Tuple [a,b] k2 pt2) pos.line X.env=pure false:=by rfl) :
    FS X W (.Assign [.Tuple [.Name x px,.Name y py] kt pt] (.Tuple [a,b] k2 pt2) pos) (fParP i j ta):=by
  refine ps_len (ps_par hc hN hi hj hij hx hy ha hw hs) fun D σ H hl ⟨G,so,sl,fl,E,rep,fo,q,ok⟩=>?_
  have li:i < σ.length:=by rw [hl];exact (List.getElem?_eq_some_iff.mp hi).1
  have lj:j < σ.length:=by rw [hl];exact (List.getElem?_eq_some_iff.mp hj).1
  refine ⟨G,so,sl,fl,_,E.xc,rep,fo,q,fun vs H2 G2 xs s2 f2 P w z2=>?_,ok.xc⟩
  split at z2
  · rename_i dx dy
    cases w with
    | cons k1 w=>
      cases w with
      | cons k2 w=>
        cases w
        rename_i v1 v2
        obtain ⟨G3,Q1,w1⟩:=PostFE.pub (v:=v1) ⟨PostF.refl P.rep P.flo,k1⟩
        obtain ⟨G4,Q2,w2⟩:=PostFE.pub (v:=v2) ⟨PostF.refl Q1.rep Q1.flo,k2.keep Q1.ex fun _ _=>rfl⟩
        have T1:=(P.trans (Q1.trans Q2)).set li (w1.mono Q2.ex)
        have T2:=T1.trans ((PostF.refl T1.rep T1.flo).set (by rw [List.length_set];exact lj) w2)
        exact ⟨v1,v2,rfl,ok.nx _ H2 G4 _ f2 T2 z2⟩
  · exact z2.elim
end
end DL
namespace K12
open PySem PySem.Spec PyProof.Rows L2 DL
structure Tx (P:Program) (K:PySem.W.Frag) (mg:Str→Option Value) (base:Heap) (a:Nat→Addr) (d:Nat→FuncData):Prop where
  tb:∀ q∈lamFns K,LamX.TabB base mg q.1 q.2.1
  F_is_whole:FunD K "is_whole" "is_whole" (defArgs s_is_whole) (defBody s_is_whole) (defScope s_is_whole) [] [] (a i_is_whole) (d i_is_whole)
  m_is_whole:mg "is_whole"=some (.ref (a i_is_whole))
  F_is_number:FunD K "is_number" "is_number" (defArgs s_is_number) (defBody s_is_number) (defScope s_is_number) [] [] (a i_is_number) (d i_is_number)
  m_is_number:mg "is_number"=some (.ref (a i_is_number))
  F_is_ratio:FunD K "is_ratio" "is_ratio" (defArgs s_is_ratio) (defBody s_is_ratio) (defScope s_is_ratio) [] [] (a i_is_ratio) (d i_is_ratio)
  m_is_ratio:mg "is_ratio"=some (.ref (a i_is_ratio))
  F_is_valued:FunD K "is_valued" "is_valued" (defArgs s_is_valued) (defBody s_is_valued) (defScope s_is_valued) [] [] (a i_is_valued) (d i_is_valued)
  m_is_valued:mg "is_valued"=some (.ref (a i_is_valued))
  F_lowest:FunD K "lowest" "lowest" (defArgs s_lowest) (defBody s_lowest) (defScope s_lowest) [] [] (a i_lowest) (d i_lowest)
  m_lowest:mg "lowest"=some (.ref (a i_lowest))
  F_ratio_of:FunD K "ratio_of" "ratio_of" (defArgs s_ratio_of) (defBody s_ratio_of) (defScope s_ratio_of) [] [] (a i_ratio_of) (d i_ratio_of)
  m_ratio_of:mg "ratio_of"=some (.ref (a i_ratio_of))
  F_ratio_text:FunD K "ratio_text" "ratio_text" (defArgs s_ratio_text) (defBody s_ratio_text) (defScope s_ratio_text) [] [] (a i_ratio_text) (d i_ratio_text)
  m_ratio_text:mg "ratio_text"=some (.ref (a i_ratio_text))
  F_is_row:FunD K "is_row" "is_row" (defArgs s_is_row) (defBody s_is_row) (defScope s_is_row) [] [] (a i_is_row) (d i_is_row)
  m_is_row:mg "is_row"=some (.ref (a i_is_row))
  F_Problem___init__:FunD K "__init__" "Problem.__init__" (defArgs s_Problem___init__) (defBody s_Problem___init__) (defScope s_Problem___init__) [.ref (He.dflAt ("Problem",some "__init__") 0 K)] [] (a i_Problem___init__) (d i_Problem___init__)
  dt_Problem___init___0:∀ G:Hp,DOk K G (.ref (He.dflAt ("Problem",some "__init__") 0 K)) (.tup [])
  mk_Problem:Mk K (He.ga K "Problem") (a i_Problem___init__)
  F_Problem___eq__:FunD K "__eq__" "Problem.__eq__" (defArgs s_Problem___eq__) (defBody s_Problem___eq__) (defScope s_Problem___eq__) [] [] (a i_Problem___eq__) (d i_Problem___eq__)
  me_Problem___eq__:Meth K (He.ga K "Problem") "__eq__" (a i_Problem___eq__)
  F_own_copy:FunD K "own_copy" "own_copy" (defArgs s_own_copy) (defBody s_own_copy) (defScope s_own_copy) [] [] (a i_own_copy) (d i_own_copy)
  m_own_copy:mg "own_copy"=some (.ref (a i_own_copy))
  F_as_list:FunD K "as_list" "as_list" (defArgs s_as_list) (defBody s_as_list) (defScope s_as_list) [] [] (a i_as_list) (d i_as_list)
  m_as_list:mg "as_list"=some (.ref (a i_as_list))
  F_Answer___init__:FunD K "__init__" "Answer.__init__" (defArgs s_Answer___init__) (defBody s_Answer___init__) (defScope s_Answer___init__) [] [] (a i_Answer___init__) (d i_Answer___init__)
  mk_Answer:Mk K (He.ga K "Answer") (a i_Answer___init__)
  F_Answer_problem:FunD K "problem" "Answer.problem" (defArgs s_Answer_problem) (defBody s_Answer_problem) (defScope s_Answer_problem) [] [] (a i_Answer_problem) (d i_Answer_problem)
  pr_Answer_problem:PropOf K (He.ga K "Answer") "problem" (He.ma K (He.ga K "Answer") "problem") (a i_Answer_problem)
  F_Answer_holds:FunD K "holds" "Answer.holds" (defArgs s_Answer_holds) (defBody s_Answer_holds) (defScope s_Answer_holds) [] [] (a i_Answer_holds) (d i_Answer_holds)
  me_Answer_holds:Meth K (He.ga K "Answer") "holds" (a i_Answer_holds)
  F_Answer___bool__:FunD K "__bool__" "Answer.__bool__" (defArgs s_Answer___bool__) (defBody s_Answer___bool__) (defScope s_Answer___bool__) [] [] (a i_Answer___bool__) (d i_Answer___bool__)
  me_Answer___bool__:Meth K (He.ga K "Answer") "__bool__" (a i_Answer___bool__)
  F_Solved___init__:FunK K (PySem.Challenge.rw_missingmiles_k12_answers_told.prog.main.file) (defArgs s_Solved___init__) (defBody s_Solved___init__) (defScope s_Solved___init__) [] [] (a i_Solved___init__) (d i_Solved___init__) (He.ga K "Solved")
  mk_Solved:Mk K (He.ga K "Solved") (a i_Solved___init__)
  F_Solved_numbers:FunD K "numbers" "Solved.numbers" (defArgs s_Solved_numbers) (defBody s_Solved_numbers) (defScope s_Solved_numbers) [] [] (a i_Solved_numbers) (d i_Solved_numbers)
  me_Solved_numbers:Meth K (He.ga K "Solved") "numbers" (a i_Solved_numbers)
  F_Solved___bool__:FunD K "__bool__" "Solved.__bool__" (defArgs s_Solved___bool__) (defBody s_Solved___bool__) (defScope s_Solved___bool__) [] [] (a i_Solved___bool__) (d i_Solved___bool__)
  me_Solved___bool__:Meth K (He.ga K "Solved") "__bool__" (a i_Solved___bool__)
  F_Barred___init__:FunK K (PySem.Challenge.rw_missingmiles_k12_answers_told.prog.main.file) (defArgs s_Barred___init__) (defBody s_Barred___init__) (defScope s_Barred___init__) [] [] (a i_Barred___init__) (d i_Barred___init__) (He.ga K "Barred")
  mk_Barred:Mk K (He.ga K "Barred") (a i_Barred___init__)
  F_Barred_weights:FunD K "weights" "Barred.weights" (defArgs s_Barred_weights) (defBody s_Barred_weights) (defScope s_Barred_weights) [] [] (a i_Barred_weights) (d i_Barred_weights)
  me_Barred_weights:Meth K (He.ga K "Barred") "weights" (a i_Barred_weights)
  F_Top___init__:FunK K (PySem.Challenge.rw_missingmiles_k12_answers_told.prog.main.file) (defArgs s_Top___init__) (defBody s_Top___init__) (defScope s_Top___init__) [] [] (a i_Top___init__) (d i_Top___init__) (He.ga K "Top")
  mk_Top:Mk K (He.ga K "Top") (a i_Top___init__)
  F_Top_factors:FunD K "factors" "Top.factors" (defArgs s_Top_factors) (defBody s_Top_factors) (defScope s_Top_factors) [] [] (a i_Top_factors) (d i_Top_factors)
  me_Top_factors:Meth K (He.ga K "Top") "factors" (a i_Top_factors)
  F_Top_weights:FunD K "weights" "Top.weights" (defArgs s_Top_weights) (defBody s_Top_weights) (defScope s_Top_weights) [] [] (a i_Top_weights) (d i_Top_weights)
  me_Top_weights:Meth K (He.ga K "Top") "weights" (a i_Top_weights)
  F_Top_told:FunD K "told" "Top.told" (defArgs s_Top_told) (defBody s_Top_told) (defScope s_Top_told) [] [] (a i_Top_told) (d i_Top_told)
  me_Top_told:Meth K (He.ga K "Top") "told" (a i_Top_told)
  F_Answer_told:FunD K "told" "Answer.told" (defArgs s_Answer_told) (defBody s_Answer_told) (defScope s_Answer_told) [] [] (a i_Answer_told) (d i_Answer_told)
  me_Answer_told:Meth K (He.ga K "Answer") "told" (a i_Answer_told)
  F_Endless___init__:FunK K (PySem.Challenge.rw_missingmiles_k12_answers_told.prog.main.file) (defArgs s_Endless___init__) (defBody s_Endless___init__) (defScope s_Endless___init__) [] [] (a i_Endless___init__) (d i_Endless___init__) (He.ga K "Endless")
  mk_Endless:Mk K (He.ga K "Endless") (a i_Endless___init__)
  F_Endless_factors:FunD K "factors" "Endless.factors" (defArgs s_Endless_factors) (defBody s_Endless_factors) (defScope s_Endless_factors) [] [] (a i_Endless_factors) (d i_Endless_factors)
  me_Endless_factors:Meth K (He.ga K "Endless") "factors" (a i_Endless_factors)
  F_Endless_direction:FunD K "direction" "Endless.direction" (defArgs s_Endless_direction) (defBody s_Endless_direction) (defScope s_Endless_direction) [] [] (a i_Endless_direction) (d i_Endless_direction)
  me_Endless_direction:Meth K (He.ga K "Endless") "direction" (a i_Endless_direction)
  F_Answer___repr__:FunD K "__repr__" "Answer.__repr__" (defArgs s_Answer___repr__) (defBody s_Answer___repr__) (defScope s_Answer___repr__) [] [] (a i_Answer___repr__) (d i_Answer___repr__)
  me_Answer___repr__:Meth K (He.ga K "Answer") "__repr__" (a i_Answer___repr__)
  F__law_source:FunD K "_law_source" "_law_source" (defArgs s__law_source) (defBody s__law_source) (defScope s__law_source) [] [] (a i__law_source) (d i__law_source)
  m__law_source:mg "_law_source"=some (.ref (a i__law_source))
  F__law_draw:FunD K "_law_draw" "_law_draw" (defArgs s__law_draw) (defBody s__law_draw) (defScope s__law_draw) [] [] (a i__law_draw) (d i__law_draw)
  m__law_draw:mg "_law_draw"=some (.ref (a i__law_draw))
  F__law_of:FunD K "_law_of" "_law_of" (defArgs s__law_of) (defBody s__law_of) (defScope s__law_of) [] [] (a i__law_of) (d i__law_of)
  m__law_of:mg "_law_of"=some (.ref (a i__law_of))
  F__law_same:FunD K "_law_same" "_law_same" (defArgs s__law_same) (defBody s__law_same) (defScope s__law_same) [] [] (a i__law_same) (d i__law_same)
  m__law_same:mg "_law_same"=some (.ref (a i__law_same))
  F__law_low:FunD K "_law_low" "_law_low" (defArgs s__law_low) (defBody s__law_low) (defScope s__law_low) [] [] (a i__law_low) (d i__law_low)
  m__law_low:mg "_law_low"=some (.ref (a i__law_low))
  F__law_wide:FunD K "_law_wide" "_law_wide" (defArgs s__law_wide) (defBody s__law_wide) (defScope s__law_wide) [] [] (a i__law_wide) (d i__law_wide)
  m__law_wide:mg "_law_wide"=some (.ref (a i__law_wide))
  F__law_pair:FunD K "_law_pair" "_law_pair" (defArgs s__law_pair) (defBody s__law_pair) (defScope s__law_pair) [] [] (a i__law_pair) (d i__law_pair)
  m__law_pair:mg "_law_pair"=some (.ref (a i__law_pair))
  F__law_text:FunD K "_law_text" "_law_text" (defArgs s__law_text) (defBody s__law_text) (defScope s__law_text) [] [] (a i__law_text) (d i__law_text)
  m__law_text:mg "_law_text"=some (.ref (a i__law_text))
  F_law:FunD K "law" "law" (defArgs s_law) (defBody s_law) (defScope s_law) [] [] (a i_law) (d i_law)
  me_Barred___bool__:Meth K (He.ga K "Barred") "__bool__" (a i_Answer___bool__)
  me_Barred___repr__:Meth K (He.ga K "Barred") "__repr__" (a i_Answer___repr__)
  me_Barred_told:Meth K (He.ga K "Barred") "told" (a i_Answer_told)
  me_Endless___bool__:Meth K (He.ga K "Endless") "__bool__" (a i_Solved___bool__)
  me_Endless___repr__:Meth K (He.ga K "Endless") "__repr__" (a i_Answer___repr__)
  me_Endless_numbers:Meth K (He.ga K "Endless") "numbers" (a i_Solved_numbers)
  me_Endless_told:Meth K (He.ga K "Endless") "told" (a i_Answer_told)
  me_Solved___repr__:Meth K (He.ga K "Solved") "__repr__" (a i_Answer___repr__)
  me_Solved_told:Meth K (He.ga K "Solved") "told" (a i_Answer_told)
  me_Top___bool__:Meth K (He.ga K "Top") "__bool__" (a i_Solved___bool__)
  me_Top___repr__:Meth K (He.ga K "Top") "__repr__" (a i_Answer___repr__)
  me_Top_numbers:Meth K (He.ga K "Top") "numbers" (a i_Solved_numbers)
  pr_Barred_problem:PropOf K (He.ga K "Barred") "problem" (He.ma K (He.ga K "Answer") "problem") (a i_Answer_problem)
  pr_Endless_problem:PropOf K (He.ga K "Endless") "problem" (He.ma K (He.ga K "Answer") "problem") (a i_Answer_problem)
  pr_Solved_problem:PropOf K (He.ga K "Solved") "problem" (He.ma K (He.ga K "Answer") "problem") (a i_Answer_problem)
  pr_Top_problem:PropOf K (He.ga K "Top") "problem" (He.ma K (He.ga K "Answer") "problem") (a i_Answer_problem)
  ic_Answer_KIND:ICon K (He.ga K "Answer") "KIND" (.str "open")
  ic_Barred_KIND:ICon K (He.ga K "Barred") "KIND" (.str "barred")
  ic_Endless_KIND:ICon K (He.ga K "Endless") "KIND" (.str "endless")
  ic_Solved_KIND:ICon K (He.ga K "Solved") "KIND" (.str "solved")
  ic_Top_KIND:ICon K (He.ga K "Top") "KIND" (.str "top")
  kt_Answer_Answer:PySem.W.kitOne K (.ref (He.ga K "Answer")) (.ref (He.ga K "Answer"))=some true
  kt_Solved_Answer:PySem.W.kitOne K (.ref (He.ga K "Solved")) (.ref (He.ga K "Answer"))=some true
  kt_Barred_Answer:PySem.W.kitOne K (.ref (He.ga K "Barred")) (.ref (He.ga K "Answer"))=some true
  kt_Top_Answer:PySem.W.kitOne K (.ref (He.ga K "Top")) (.ref (He.ga K "Answer"))=some true
  kt_Endless_Answer:PySem.W.kitOne K (.ref (He.ga K "Endless")) (.ref (He.ga K "Answer"))=some true
  kt_Answer_Solved:PySem.W.kitOne K (.ref (He.ga K "Answer")) (.ref (He.ga K "Solved"))=some false
  kt_Solved_Solved:PySem.W.kitOne K (.ref (He.ga K "Solved")) (.ref (He.ga K "Solved"))=some true
  kt_Barred_Solved:PySem.W.kitOne K (.ref (He.ga K "Barred")) (.ref (He.ga K "Solved"))=some false
  kt_Top_Solved:PySem.W.kitOne K (.ref (He.ga K "Top")) (.ref (He.ga K "Solved"))=some true
  kt_Endless_Solved:PySem.W.kitOne K (.ref (He.ga K "Endless")) (.ref (He.ga K "Solved"))=some true
  kt_Answer_Top:PySem.W.kitOne K (.ref (He.ga K "Answer")) (.ref (He.ga K "Top"))=some false
  kt_Solved_Top:PySem.W.kitOne K (.ref (He.ga K "Solved")) (.ref (He.ga K "Top"))=some false
  kt_Barred_Top:PySem.W.kitOne K (.ref (He.ga K "Barred")) (.ref (He.ga K "Top"))=some false
  kt_Top_Top:PySem.W.kitOne K (.ref (He.ga K "Top")) (.ref (He.ga K "Top"))=some true
  kt_Endless_Top:PySem.W.kitOne K (.ref (He.ga K "Endless")) (.ref (He.ga K "Top"))=some false
  su_file:((P.main.file:Str) == (PySem.Challenge.rw_missingmiles_k12_answers_told.prog.main.file:Str))=true
  su_top:(P.main.scope.names.lookup ("super":Str)).isSome=false
  su_Barred_Barred:SupOk K (He.ga K "Barred") (He.ga K "Barred") "__init__" (a i_Answer___init__)
  su_Endless_Endless:SupOk K (He.ga K "Endless") (He.ga K "Endless") "__init__" (a i_Solved___init__)
  su_Endless_Solved:SupOk K (He.ga K "Endless") (He.ga K "Solved") "__init__" (a i_Answer___init__)
  su_Solved_Solved:SupOk K (He.ga K "Solved") (He.ga K "Solved") "__init__" (a i_Answer___init__)
  su_Top_Solved:SupOk K (He.ga K "Top") (He.ga K "Solved") "__init__" (a i_Answer___init__)
  su_Top_Top:SupOk K (He.ga K "Top") (He.ga K "Top") "__init__" (a i_Solved___init__)
  m_Problem:mg "Problem"=some (.ref (He.ga K "Problem"))
  cl_Problem:Cls K (He.ga K "Problem")
  na_Problem_own_size:NoAttr K (He.ga K "Problem") "own_size"
  na_Problem_own_rows:NoAttr K (He.ga K "Problem") "own_rows"
  m_Answer:mg "Answer"=some (.ref (He.ga K "Answer"))
  cl_Answer:Cls K (He.ga K "Answer")
  na_Answer_own_problem:NoAttr K (He.ga K "Answer") "own_problem"
  m_Solved:mg "Solved"=some (.ref (He.ga K "Solved"))
  cl_Solved:Cls K (He.ga K "Solved")
  na_Solved_own_values:NoAttr K (He.ga K "Solved") "own_values"
  na_Solved_own_problem:NoAttr K (He.ga K "Solved") "own_problem"
  m_Barred:mg "Barred"=some (.ref (He.ga K "Barred"))
  cl_Barred:Cls K (He.ga K "Barred")
  na_Barred_own_weights:NoAttr K (He.ga K "Barred") "own_weights"
  na_Barred_own_problem:NoAttr K (He.ga K "Barred") "own_problem"
  m_Top:mg "Top"=some (.ref (He.ga K "Top"))
  cl_Top:Cls K (He.ga K "Top")
  na_Top_own_factors:NoAttr K (He.ga K "Top") "own_factors"
  na_Top_number:NoAttr K (He.ga K "Top") "number"
  na_Top_own_weights:NoAttr K (He.ga K "Top") "own_weights"
  na_Top_own_values:NoAttr K (He.ga K "Top") "own_values"
  na_Top_own_problem:NoAttr K (He.ga K "Top") "own_problem"
  m_Endless:mg "Endless"=some (.ref (He.ga K "Endless"))
  cl_Endless:Cls K (He.ga K "Endless")
  na_Endless_own_factors:NoAttr K (He.ga K "Endless") "own_factors"
  na_Endless_own_direction:NoAttr K (He.ga K "Endless") "own_direction"
  na_Endless_own_values:NoAttr K (He.ga K "Endless") "own_values"
  na_Endless_own_problem:NoAttr K (He.ga K "Endless") "own_problem"
  cc_Answer_KIND:CConst K (He.ga K "Answer") "KIND" (.str "open")
  cc_Barred_KIND:CConst K (He.ga K "Barred") "KIND" (.str "barred")
  cc_Endless_KIND:CConst K (He.ga K "Endless") "KIND" (.str "endless")
  ci_Answer:CInst K (He.ga K "Answer")
  ci_Barred:CInst K (He.ga K "Barred")
  ci_Endless:CInst K (He.ga K "Endless")
  ci_Problem:CInst K (He.ga K "Problem")
  ci_Solved:CInst K (He.ga K "Solved")
  ci_Top:CInst K (He.ga K "Top")
  x_InvalidRatio:XCls P K mg (He.ga K "InvalidRatio") ["given"] xf_InvalidRatio
  x_InvalidNumber:XCls P K mg (He.ga K "InvalidNumber") ["given"] xf_InvalidNumber
  x_InvalidRow:XCls P K mg (He.ga K "InvalidRow") ["at"] xf_InvalidRow
  m_InvalidRatio:mg "InvalidRatio"=some (.ref (He.ga K "InvalidRatio"))
  m_InvalidNumber:mg "InvalidNumber"=some (.ref (He.ga K "InvalidNumber"))
  m_InvalidRow:mg "InvalidRow"=some (.ref (He.ga K "InvalidRow"))
  n_abs:mg "abs"=none
  n_all:mg "all"=none
  n_bool:mg "bool"=none
  n_enumerate:mg "enumerate"=none
  n_int:mg "int"=none
  n_isinstance:mg "isinstance"=none
  n_len:mg "len"=none
  n_list:mg "list"=none
  n_range:mg "range"=none
  n_repr:mg "repr"=none
  n_str:mg "str"=none
  n_super:mg "super"=none
  n_tuple:mg "tuple"=none
  b_gcd:mg "gcd"=some (.builtin "math.gcd")
  c_MOST_UNKNOWNS:GlobD K mg "MOST_UNKNOWNS" (.int 60)
theorem cutV_map (ns:List Int) (lo hi:Option Int):cutV (ns.map V.int) lo hi=(cut ns lo hi).map V.int:=by
  unfold cutV cut
  rw [List.length_map,List.map_take,List.map_drop]
theorem at_mem {α:Type} {xs:List α} {n:Int} (h0:0≤n) (h1:n < (xs.length:Int)):∃ x,atI xs n=some x∧x∈xs:=by
  have hj:n.toNat < xs.length:=by omega
  refine ⟨xs[n.toNat],?_,List.getElem_mem hj⟩
  unfold atI ixN
  rw [if_pos h0,if_pos h1]
  exact List.getElem?_eq_getElem hj
theorem small_len {n:Nat} (h:n≤szl):(n:Int) < 2 ^ 64:=by
  have:szl=16777216:=rfl
  omega
section
variable {P:Program} {w:World} {K:PySem.W.Frag} {mg:Str→Option Value} {base:Heap} {a:Nat→Addr} {d:Nat→FuncData}
abbrev n__law_source:List Str:=["_law_script","_law_seed","_law_cell"]
theorem sc__law_source:FnScope n__law_source ["_law_script"] (defScope s__law_source):=⟨rfl,rfl,rfl,by decide +kernel,rfl,by decide +kernel,by decide +kernel⟩
theorem ok__law_source (T:Tx P K mg base a d):FnR P w K mg base 1 (a i__law_source) (d i__law_source) ["_law_script"] (spSource K):=by
  refine fnR_of T.F__law_source sc__law_source (fun vs H Q E h=>?_) (fun cdv A outer s H vs Q E hr hg h=>?_)
  · obtain ⟨c,ns,rfl,_⟩:=h;rfl
  · obtain ⟨c,ns,rfl,hS,hlen,q⟩:=h
    refine ⟨_,pss_cons (ps_set (i:=1) sc__law_source.nd rfl (.inl rfl) pe_int)
      (pss_cons (ps_for (passes_of rfl) rfl (pi_list (pe_slice sl_list (pv 0) po_none (po_some pe_int))) (pg_name (i:=2) sc__law_source.nd rfl (.inl rfl))
        (pss_one (ps_set (i:=1) sc__law_source.nd rfl (.inl rfl) (pe_op op_mod (pe_callTy call_int1 (by rfl) T.n_int (by decide +kernel) (pa_cons (pe_op op_add (pe_op op_add (pe_op op_mul (pv 1) pe_int) (pe_op op_mod (pe_callTy call_int1 (by rfl) T.n_int (by decide +kernel) (pa_cons (pv 2) pa_nil)) pe_int)) pe_int) pa_nil)) pe_int))))
      (pss_one (ps_ret (pe_lst (pa_cons (pe_callTy call_list_of (by rfl) T.n_list (by decide +kernel) (pa_cons (pe_slice sl_list (pv 0) po_none (po_some pe_int)) pa_nil)) (pa_cons pe_int (pa_cons pe_int (pa_cons (pv 1) (pa_cons pe_int pa_nil))))))))),?_⟩
    refine ⟨.ref c,rfl,63,rfl,c,ns.map V.int,rfl,hS,fun l nl=>⟨l,rfl,⟨_,SqL.of upd_same⟩,?_⟩⟩
    refine for_list (K:=K) (a:=l) (xs:=cutV (ns.map V.int) none (some 63)) (fun i σ H2=>∃ sd v,σ=[some (.ref c),some (.int sd),v]∧Ex H H2∧H2 l=some (.lst (cutV (ns.map V.int) none (some 63)))∧0≤sd∧sd < 4294967296) ⟨10040,none,rfl,Ex.new nl,upd_same,by decide,by decide⟩ (fun i σ H2 _ ⟨_,_,_,_,e,_⟩=>SqL.of e) ?_ ?_
    · rintro i y σ H2 hi ⟨sd,v,rfl,ex,el,h0,h1⟩
      obtain ⟨z,rfl⟩:∃ z,y=V.int z:=by
        rw [cutV_map,List.getElem?_map] at hi
        cases e:(cut ns none (some 63))[i]? with
        | none=>rw [e] at hi;cases hi
        | some z=>rw [e] at hi;exact ⟨z,(Option.some.inj hi).symm⟩
      refine ⟨_,rfl,_,_,rfl,rfl,.inr ⟨by decide,by decide⟩,_,rfl,.inl ⟨z,rfl,_,_,rfl,rfl,(by show (0:Int) < 2147483353;decide),_,_,rfl,rfl,_,_,rfl,rfl,.inl ⟨_,rfl,_,_,rfl,rfl,(by show (0:Int) < 2147483587;decide),?_⟩⟩⟩
      refine ⟨_,_,rfl,ex,el,Int.emod_nonneg _ (by decide),Int.lt_trans (Int.emod_lt_of_pos _ (by decide)) (by decide)⟩
    · rintro σ H2 ⟨sd,v,rfl,ex,el,h0,h1⟩
      refine ⟨.ref c,rfl,63,rfl,c,ns.map V.int,rfl,ex_l ex hS,fun l2 n2=>⟨l2,_,rfl,.inl (SqL.of upd_same),fun l3 n3=>?_⟩⟩
      refine ⟨.int sd,rfl,by show 5≤sizeLine;decide,fun p np=>?_⟩
      have n23:H2 l3=none:=(Ex.new (o:=.lst (cutV (ns.map V.int) none (some 63))) n2).free n3
      have e3:Ex H2 (upd (upd (upd H2 l2 (.lst (cutV (ns.map V.int) none (some 63)))) l3 (.lst (cutV (ns.map V.int) none (some 63)))) p (.lst [.ref l3,.int 0,.int 0,.int sd,.int 0])):=(Ex.new n2).trans ((Ex.new n3).trans (Ex.new np))
      have ne:l3≠p:=fun e=>by subst e;rw [upd_same] at np;cases np
      refine q _ p l3 (cut ns none (some 63)) sd (ex.trans e3) ne upd_same (by rw [upd_ne ne,upd_same,cutV_map]) ?_ h0 h1
      exact Nat.le_trans (by unfold cut;rw [List.length_take,List.length_drop];omega) hlen
abbrev n__law_draw:List Str:=["_law_src","_law_many","_law_cell","_law_digit","_law_root","_law_grown"]
theorem sc__law_draw:FnScope n__law_draw ["_law_src","_law_many"] (defScope s__law_draw):=⟨rfl,rfl,rfl,by decide +kernel,rfl,by decide +kernel,by decide +kernel⟩
def SrcAt (p:Addr) (H H2:Hp) (c:Addr) (i r sd n:Int):Prop:=(∀ b,b≠p→H2 b=H b)∧H2 p=some (.lst [.ref c,.int i,.int r,.int sd,.int n])∧0≤i∧0≤r∧0≤sd∧sd < 4294967296
theorem small_log {m:Int} (h0:0 < m) (h:m < 2 ^ 64):m.natAbs.log2 < 9000:=by
  have:m.natAbs.log2 < 64:=(Nat.log2_lt (by omega)).mpr (by omega)
  omega
theorem mod_lt64 {x m:Int} (h0:0 < m) (h:m≤4294967296):(-(2 ^ 64) < x % m∧x % m < 2 ^ 64)∧0≤x % m∧x % m < m:=by
  have h1:=Int.emod_nonneg x (show m≠0 by omega)
  have h2:=Int.emod_lt_of_pos x h0
  exact ⟨⟨by omega,by omega⟩,h1,h2⟩
theorem ok__law_draw (T:Tx P K mg base a d):FnG P w K mg base 1 (a i__law_draw) (d i__law_draw) ["_law_src","_law_many"] spDraw:=by
  refine FnR.g (fnR_of T.F__law_draw sc__law_draw (fun vs H Q E h=>?_) (fun cdv A outer s H vs Q E hr hg h=>?_)) (fun args Q E h=>?_)
  · obtain ⟨G,so,as,QD,ED,_,w1,⟨m,rfl,_⟩,_⟩:=h
    exact w1.length
  · obtain ⟨G,so,as,QD,ED,hrep,w1,⟨m,rfl,hm0,hm1,hq⟩,hQ,_⟩:=h
    obtain ⟨v1,v2,rfl,⟨p,⟨c,hps⟩,rfl⟩,wm,_⟩:=w1.v2
    cases wm
    obtain ⟨gp,ms,i0,r0,sd0,n0,hp,hc,hms,hi0,hr0,hs0,hs1⟩:SrcOk K G H p c:=hrep.vol p (.src c) hps
    have fin:∀ (H2:Hp) (i r sd n k:Int),SrcAt p H H2 c i r sd n→0≤k→k < m→Q (.int k) H2:=fun H2 i r sd n k ⟨e1,e2,e3,e4,e5,e6⟩ k0 k1=>by
      refine hQ (.int k) H2 G (.d (.int k)) ⟨Ex.refl G,⟨fun b o e=>?_,fun b kd e=>?_,hrep.ok,fun b xs e=>?_⟩,fun b o e sb=>?_,fun _ _ g _=>g,.int k,fun _ _ z=>(nomatch z),fun _ z=>(nomatch z)⟩ (hq k k0 k1)
      · rw [e1 b (fun z=>by subst z;rw [gp] at e;cases e)];exact hrep.ex b o e
      · by_cases z:b=p
        · subst z
          obtain rfl:=hrep.ok.uq _ _ _ e hps
          exact ⟨gp,ms,i,r,sd,n,e2,hc,hms,e3,e4,e5,e6⟩
        · exact (hrep.vol b kd e).keep (Ex.refl G) (hrep.vol b kd e).g (e1 b z)
      · by_cases z:b=p
        · subst z;rw [e2] at e;cases e
        · rw [e1 b z] at e;exact hrep.tp b xs e
      · rw [e1 b (fun z=>by subst z;obtain ⟨_,q⟩:=sb (.src c) hps;cases q)];exact e
    have cells:∀ {H2:Hp},(∀ b,b≠p→H2 b=H b)→SqL K H2 c (ms.map V.int):=fun {H2} e1=>ex_l (fun b o e=>by
      rw [e1 b (fun z=>by subst z;rw [gp] at e;cases e)];exact hrep.ex b o e) hc
    obtain ⟨t2,pt2,key⟩:∃ t2,PSs (cxOf (L2N.CX P w) P w K mg base n__law_draw "_law_draw" (defScope s__law_draw) (a i__law_draw) cdv A outer s H E) ((defBody s__law_draw).drop 1) t2∧
        ∀ (H2:Hp) (i r sd n:Int) (y:Option V),SrcAt p H H2 c i r sd n→t2 { nx:=fun _ H'=>Q .non H',rt:=Q } [some (.ref p),some (.int m),y,none,none,none] H2:=by
      refine ⟨_,pss_cons (ps_if (pt_cmpR op_ge (pe_ix ix_list (pv 0) pe_int (fun _ _=>rfl)) (pv 1) (nomark _))
          (pss_cons (ps_set (i:=3) sc__law_draw.nd rfl (.inl rfl) (pe_op op_mod (pe_callTy call_int1 (by rfl) T.n_int (by decide +kernel) (pa_cons (pe_ix ix_list (pv 0) pe_int (fun _ _=>rfl)) pa_nil)) (pv 1)))
          (pss_cons (ps_asg (pe_op op_fdivW (pe_ix ix_list (pv 0) pe_int (fun _ _=>rfl)) (pv 1)) (pg_sub (pv 0) pe_int set_list))
          (pss_one (ps_ret (pv 3))))) pss_nil)
        (pss_cons (ps_asg (pe_op op_add (pe_ix ix_list (pv 0) pe_int (fun _ _=>rfl)) pe_int) (pg_sub (pv 0) pe_int set_list))
        (pss_cons (ps_set (i:=4) sc__law_draw.nd rfl (.inl rfl) (pe_op op_mod (pe_callTy call_int1 (by rfl) T.n_int (by decide +kernel) (pa_cons (pe_op op_add (pe_ix ix_list (pv 0) pe_int (fun _ _=>rfl)) (pe_op op_mul (pe_ix ix_list (pv 0) pe_int (fun _ _=>rfl)) pe_int)) pa_nil)) pe_int))
        (pss_cons (ps_set (i:=5) sc__law_draw.nd rfl (.inl rfl) (pe_op op_mul (pe_op op_mod (pe_callTy call_int1 (by rfl) T.n_int (by decide +kernel) (pa_cons (pe_op op_mul (pv 4) (pv 4)) pa_nil)) pe_int) (pe_op op_add (pe_op op_mod (pe_callTy call_int1 (by rfl) T.n_int (by decide +kernel) (pa_cons (pv 4) pa_nil)) pe_int) pe_int)))
        (pss_cons (ps_asg (pe_op op_mod (pe_callTy call_int1 (by rfl) T.n_int (by decide +kernel) (pa_cons (pe_op op_add (pe_op op_add (pv 5) (pe_op op_mul pe_int (pv 4))) pe_int) pa_nil)) pe_int) (pg_sub (pv 0) pe_int set_list))
        (pss_one (ps_ret (pe_op op_mod (pe_callTy call_int1 (by rfl) T.n_int (by decide +kernel) (pa_cons (pe_op op_add (pe_op op_fdiv (pe_ix ix_list (pv 0) pe_int (fun _ _=>rfl)) pe_int) (pe_op op_mul (pe_op op_mod (pe_callTy call_int1 (by rfl) T.n_int (by decide +kernel) (pa_cons (pe_ix ix_list (pv 0) pe_int (fun _ _=>rfl)) pa_nil)) pe_int) pe_int)) pa_nil)) (pv 1)))))))),?_⟩
      rintro H2 i r sd n y ⟨e1,e2,e3,e4,e5,e6⟩
      have e2L:SqL K H2 p [.ref c,.int i,.int r,.int sd,.int n]:=SqL.of e2
      refine ⟨.ref p,rfl,p,_,2,.int r,rfl,rfl,e2L,rfl,.int m,rfl,r,m,rfl,rfl,_,rfl,ite2 (fun h=>?_) (fun h=>?_)⟩
      · have hrm:m≤r:=of_decide_eq_true h
        refine ⟨.ref p,rfl,p,_,2,.int r,rfl,rfl,e2L,rfl,.inl ⟨r,rfl,.int m,rfl,r,m,rfl,rfl,hm0,?_⟩⟩
        refine ⟨.ref p,rfl,p,_,2,.int r,rfl,rfl,e2L,rfl,.int m,rfl,r,m,rfl,rfl,⟨hm0,small_log hm0 hm1⟩,.ref p,rfl,p,_,2,2,rfl,rfl,e2,rfl,?_⟩
        refine ⟨.int (r % m),rfl,?_⟩
        refine fin _ i (r / m) sd n (r % m) ⟨fun b hb=>by rw [upd_ne hb];exact e1 b hb,upd_same,e3,Int.ediv_nonneg e4 (by omega),e5,e6⟩ (Int.emod_nonneg _ (by omega)) (Int.emod_lt_of_pos _ hm0)
      · refine ⟨.ref p,rfl,p,_,4,.int n,rfl,rfl,e2L,rfl,n,1,rfl,rfl,.ref p,rfl,p,_,4,4,rfl,rfl,e2,rfl,?_⟩
        have e3L:SqL K (upd H2 p (.lst ([V.ref c,.int i,.int r,.int sd,.int n].set 4 (.int (n + 1))))) p [.ref c,.int i,.int r,.int sd,.int (n + 1)]:=SqL.of upd_same
        refine ⟨.ref p,rfl,p,_,3,.int sd,rfl,rfl,e3L,rfl,.ref p,rfl,p,_,4,.int (n + 1),rfl,rfl,e3L,rfl,n + 1,9431,rfl,rfl,.inr ⟨by decide,by decide⟩,sd,_,rfl,rfl,.inl ⟨_,rfl,_,2147483629,rfl,rfl,(by show (0:Int) < 2147483629;decide),?_⟩⟩
        obtain ⟨q1,q2,q3⟩:=mod_lt64 (x:=sd + (n + 1) * 9431) (m:=2147483629) (by decide) (by decide)
        refine ⟨_,rfl,_,rfl,_,_,rfl,rfl,.inl q1,.inl ⟨_,rfl,_,2147483399,rfl,rfl,(by show (0:Int) < 2147483399;decide),_,rfl,.inl ⟨_,rfl,_,39989,rfl,rfl,(by show (0:Int) < 39989;decide),_,9,rfl,rfl,_,_,rfl,rfl,.inl (mod_lt64 (by decide) (by decide)).1,?_⟩⟩⟩
        refine ⟨_,rfl,_,rfl,29989,_,rfl,rfl,.inl ⟨by decide,by decide⟩,_,_,rfl,rfl,_,991,rfl,rfl,.inl ⟨_,rfl,_,2147483549,rfl,rfl,(by show (0:Int) < 2147483549;decide),.ref p,rfl,p,_,3,3,rfl,rfl,upd_same,rfl,?_⟩⟩
        generalize hg2:((sd + (n + 1) * 9431) % 2147483629 * ((sd + (n + 1) * 9431) % 2147483629) % 2147483399 * ((sd + (n + 1) * 9431) % 2147483629 % 39989 + 9) + 29989 * ((sd + (n + 1) * 9431) % 2147483629) + 991) % 2147483549=sd2
        have s2:0≤sd2:=by rw [← hg2];exact Int.emod_nonneg _ (by decide)
        have s3:sd2 < 4294967296:=by rw [← hg2];exact Int.lt_trans (Int.emod_lt_of_pos _ (by decide)) (by decide)
        dsimp only
        rw [hg2,upd_upd]
        have e4L:SqL K (upd H2 p (.lst (([V.ref c,.int i,.int r,.int sd,.int n].set 4 (.int (n + 1))).set 3 (.int sd2)))) p [.ref c,.int i,.int r,.int sd2,.int (n + 1)]:=SqL.of upd_same
        refine ⟨.ref p,rfl,p,_,3,.int sd2,rfl,rfl,e4L,rfl,sd2,73,rfl,rfl,⟨by decide,by decide⟩,.ref p,rfl,p,_,3,.int sd2,rfl,rfl,e4L,rfl,.inl ⟨sd2,rfl,sd2,8521,rfl,rfl,(by show (0:Int) < 8521;decide),_,57,rfl,rfl,.inr ⟨by decide,by decide⟩,_,_,rfl,rfl,.inl ⟨_,rfl,.int m,rfl,_,m,rfl,rfl,hm0,?_⟩⟩⟩
        exact fin _ i r sd2 (n + 1) _ ⟨fun b hb=>by rw [upd_ne hb];exact e1 b hb,upd_same,e3,e4,s2,s3⟩ (Int.emod_nonneg _ (by omega)) (Int.emod_lt_of_pos _ hm0)
    refine ⟨_,pss_cons (ps_if (PW.pt (pw_and (pt_cmpR op_lt (pe_ix ix_list (pv 0) pe_int (fun _ _=>rfl)) (pv 1) (nomark _)) (pw_and1 (pt_cmpR op_lt (pe_ix ix_list (pv 0) pe_int (fun _ _=>rfl)) (pe_callB call_len_seq (by rfl) T.n_len PySem.boot_len (pa_cons (pe_ix ix_list (pv 0) pe_int (fun _ _=>rfl)) pa_nil)) (nomark _)))))
        (pss_cons (ps_set (i:=2) sc__law_draw.nd rfl (.inl rfl) (pe_ix ix_list (pe_ix ix_list (pv 0) pe_int (fun _ _=>rfl)) (pe_ix ix_list (pv 0) pe_int (fun _ _=>rfl)) (fun _ _=>rfl)))
        (pss_cons (ps_asg (pe_op op_add (pe_ix ix_list (pv 0) pe_int (fun _ _=>rfl)) pe_int) (pg_sub (pv 0) pe_int set_list))
        (pss_cons (ps_asg (pe_op op_mod (pe_callTy call_int1 (by rfl) T.n_int (by decide +kernel) (pa_cons (pe_op op_add (pe_op op_add (pe_op op_mul (pe_ix ix_list (pv 0) pe_int (fun _ _=>rfl)) pe_int) (pe_op op_mod (pe_callTy call_int1 (by rfl) T.n_int (by decide +kernel) (pa_cons (pv 2) pa_nil)) pe_int)) pe_int) pa_nil)) pe_int) (pg_sub (pv 0) pe_int set_list))
        (pss_one (ps_asg (pe_ifExp (pt_cmpR op_ge (pv 2) (pe_op op_pow pe_int pe_int) (nomark _)) (pv 2) pe_int) (pg_sub (pv 0) pe_int set_list)))))) pss_nil) pt2,?_⟩
    have hpL:SqL K H p [.ref c,.int i0,.int r0,.int sd0,.int n0]:=SqL.of hp
    have S0:SrcAt p H H c i0 r0 sd0 n0:=⟨fun _ _=>rfl,hp,hi0,hr0,hs0,hs1⟩
    refine ⟨.ref p,rfl,p,_,2,.int r0,rfl,rfl,hpL,rfl,.int m,rfl,r0,m,rfl,rfl,_,rfl,ite2 (fun h=>?_) (fun h=>?_)⟩
    · refine ⟨.ref p,rfl,p,_,1,.int i0,rfl,rfl,hpL,rfl,.ref p,rfl,p,_,0,.ref c,rfl,rfl,hpL,rfl,c,ms.map V.int,rfl,.inl (cells fun _ _=>rfl),i0,_,rfl,rfl,_,rfl,ite2 (fun h2=>?_) (fun h2=>?_)⟩
      · have hlt:i0 < ((ms.map V.int).length:Int):=of_decide_eq_true h2
        rw [List.length_map] at hlt
        have hj:i0.toNat < ms.length:=by omega
        have atc:atI (ms.map V.int) i0=some (.int ms[i0.toNat]):=at_of (j:=i0.toNat) (by omega) (by rw [List.getElem?_map,List.getElem?_eq_getElem hj];rfl)
        generalize ms[i0.toNat]=z at atc
        refine ⟨.ref p,rfl,p,_,0,.ref c,rfl,rfl,hpL,rfl,.ref p,rfl,p,_,1,.int i0,rfl,rfl,hpL,rfl,c,_,i0,.int z,rfl,rfl,cells (fun _ _=>rfl),atc,?_⟩
        refine ⟨.ref p,rfl,p,_,1,.int i0,rfl,rfl,hpL,rfl,i0,1,rfl,rfl,.ref p,rfl,p,_,1,1,rfl,rfl,hp,rfl,?_⟩
        have e3L:SqL K (upd H p (.lst ([V.ref c,.int i0,.int r0,.int sd0,.int n0].set 1 (.int (i0 + 1))))) p [.ref c,.int (i0 + 1),.int r0,.int sd0,.int n0]:=SqL.of upd_same
        refine ⟨.ref p,rfl,p,_,3,.int sd0,rfl,rfl,e3L,rfl,sd0,46757,rfl,rfl,.inr ⟨by decide,by decide⟩,.int z,rfl,.inl ⟨z,rfl,z,2147483323,rfl,rfl,(by show (0:Int) < 2147483323;decide),_,_,rfl,rfl,_,31,rfl,rfl,.inl ⟨_,rfl,_,2147483549,rfl,rfl,(by show (0:Int) < 2147483549;decide),.ref p,rfl,p,_,3,3,rfl,rfl,upd_same,rfl,?_⟩⟩⟩
        generalize hg2:(sd0 * 46757 + z % 2147483323 + 31) % 2147483549=sd2
        have s2:0≤sd2:=by rw [← hg2];exact Int.emod_nonneg _ (by decide)
        have s3:sd2 < 4294967296:=by rw [← hg2];exact Int.lt_trans (Int.emod_lt_of_pos _ (by decide)) (by decide)
        dsimp only
        rw [hg2,upd_upd]
        refine ⟨.int z,rfl,10,18,rfl,rfl,⟨by decide,by decide,by decide⟩,z,_,rfl,rfl,_,rfl,ite2 (fun h3=>?_) (fun h3=>?_)⟩
        · have hz:(10:Int) ^ (18:Int).toNat≤z:=of_decide_eq_true h3
          refine ⟨.int z,rfl,.ref p,rfl,p,_,2,2,rfl,rfl,upd_same,rfl,?_⟩
          rw [upd_upd]
          exact key _ (i0 + 1) z sd2 n0 (some (.int z)) ⟨fun b hb=>upd_ne hb,upd_same,by omega,Int.le_trans (by decide) hz,s2,s3⟩
        · refine ⟨.ref p,rfl,p,_,2,2,rfl,rfl,upd_same,rfl,?_⟩
          rw [upd_upd]
          exact key _ (i0 + 1) 0 sd2 n0 (some (.int z)) ⟨fun b hb=>upd_ne hb,upd_same,by omega,by decide,s2,s3⟩
      · exact key H i0 r0 sd0 n0 none S0
    · refine iteF ?_
      exact key H i0 r0 sd0 n0 none S0
  · obtain ⟨m,rfl,_⟩:=h;rfl
theorem B_Answer___init___2 (T:Tx P K mg base a d):Bd K (d i_Answer___init__) ["self","problem"] 2 [] [.pos 0,.pos 1]:=
  bd_of T.F_Answer___init__ (fun us ws=>match us,ws with | [u0,u1],[]=>[u0,u1] | _,_=>[])
    (fun _ _ _ _ _ _ us ws h1 h2=>match us,ws,h1,h2 with | [_,_],[],_,_=>rfl)
    (fun vs qs us ws h1 h2 r1 r2=>match vs,us,qs,ws,h1,h2,r1,r2 with | _,[_,_],_,[],_,_,.cons u0 (.cons u1 .nil),.nil=>.cons u0 (.cons u1 .nil)) (fun s h v d e=>by subst e;simp at h)
theorem B_Answer_holds_1 (T:Tx P K mg base a d):Bd K (d i_Answer_holds) ["self"] 1 [] [.pos 0]:=
  bd_of T.F_Answer_holds (fun us ws=>match us,ws with | [u0],[]=>[u0] | _,_=>[])
    (fun _ _ _ _ _ _ us ws h1 h2=>match us,ws,h1,h2 with | [_],[],_,_=>rfl)
    (fun vs qs us ws h1 h2 r1 r2=>match vs,us,qs,ws,h1,h2,r1,r2 with | _,[_],_,[],_,_,.cons u0 .nil,.nil=>.cons u0 .nil) (fun s h v d e=>by subst e;simp at h)
theorem B_Answer_told_1 (T:Tx P K mg base a d):Bd K (d i_Answer_told) ["self"] 1 [] [.pos 0]:=
  bd_of T.F_Answer_told (fun us ws=>match us,ws with | [u0],[]=>[u0] | _,_=>[])
    (fun _ _ _ _ _ _ us ws h1 h2=>match us,ws,h1,h2 with | [_],[],_,_=>rfl)
    (fun vs qs us ws h1 h2 r1 r2=>match vs,us,qs,ws,h1,h2,r1,r2 with | _,[_],_,[],_,_,.cons u0 .nil,.nil=>.cons u0 .nil) (fun s h v d e=>by subst e;simp at h)
theorem B_Barred___init___3 (T:Tx P K mg base a d):Bd K (d i_Barred___init__) ["self","problem","weights"] 3 [] [.pos 0,.pos 1,.pos 2]:=
  bd_ofK T.F_Barred___init__ (fun us ws=>match us,ws with | [u0,u1,u2],[]=>[u0,u1,u2] | _,_=>[])
    (fun _ _ _ _ _ _ _ _ _ us ws h1 h2=>match us,ws,h1,h2 with | [_,_,_],[],_,_=>rfl)
    (fun vs qs us ws h1 h2 r1 r2=>match vs,us,qs,ws,h1,h2,r1,r2 with | _,[_,_,_],_,[],_,_,.cons u0 (.cons u1 (.cons u2 .nil)),.nil=>.cons u0 (.cons u1 (.cons u2 .nil))) (fun s h v d e=>by subst e;simp at h)
theorem B_Barred_weights_1 (T:Tx P K mg base a d):Bd K (d i_Barred_weights) ["self"] 1 [] [.pos 0]:=
  bd_of T.F_Barred_weights (fun us ws=>match us,ws with | [u0],[]=>[u0] | _,_=>[])
    (fun _ _ _ _ _ _ us ws h1 h2=>match us,ws,h1,h2 with | [_],[],_,_=>rfl)
    (fun vs qs us ws h1 h2 r1 r2=>match vs,us,qs,ws,h1,h2,r1,r2 with | _,[_],_,[],_,_,.cons u0 .nil,.nil=>.cons u0 .nil) (fun s h v d e=>by subst e;simp at h)
theorem B_Endless___init___1_values_factors_problem_direction (T:Tx P K mg base a d):Bd K (d i_Endless___init__) ["self","problem","factors","values","direction"] 1 ["values","factors","problem","direction"] [.pos 0,.kw 2,.kw 1,.kw 0,.kw 3]:=
  bd_ofK T.F_Endless___init__ (fun us ws=>match us,ws with | [u0],[w0,w1,w2,w3]=>[u0,w2,w1,w0,w3] | _,_=>[])
    (fun _ _ _ _ _ _ _ _ _ us ws h1 h2=>match us,ws,h1,h2 with | [_],[_,_,_,_],_,_=>rfl)
    (fun vs qs us ws h1 h2 r1 r2=>match vs,us,qs,ws,h1,h2,r1,r2 with | _,[_],_,[_,_,_,_],_,_,.cons u0 .nil,.cons w0 (.cons w1 (.cons w2 (.cons w3 .nil)))=>.cons u0 (.cons w2 (.cons w1 (.cons w0 (.cons w3 .nil))))) (fun s h v d e=>by subst e;simp at h)
theorem B_Endless_direction_1 (T:Tx P K mg base a d):Bd K (d i_Endless_direction) ["self"] 1 [] [.pos 0]:=
  bd_of T.F_Endless_direction (fun us ws=>match us,ws with | [u0],[]=>[u0] | _,_=>[])
    (fun _ _ _ _ _ _ us ws h1 h2=>match us,ws,h1,h2 with | [_],[],_,_=>rfl)
    (fun vs qs us ws h1 h2 r1 r2=>match vs,us,qs,ws,h1,h2,r1,r2 with | _,[_],_,[],_,_,.cons u0 .nil,.nil=>.cons u0 .nil) (fun s h v d e=>by subst e;simp at h)
theorem B_Endless_factors_1 (T:Tx P K mg base a d):Bd K (d i_Endless_factors) ["self"] 1 [] [.pos 0]:=
  bd_of T.F_Endless_factors (fun us ws=>match us,ws with | [u0],[]=>[u0] | _,_=>[])
    (fun _ _ _ _ _ _ us ws h1 h2=>match us,ws,h1,h2 with | [_],[],_,_=>rfl)
    (fun vs qs us ws h1 h2 r1 r2=>match vs,us,qs,ws,h1,h2,r1,r2 with | _,[_],_,[],_,_,.cons u0 .nil,.nil=>.cons u0 .nil) (fun s h v d e=>by subst e;simp at h)
theorem B_Problem___init___3 (T:Tx P K mg base a d):Bd K (d i_Problem___init__) ["self","size","rows"] 3 [] [.pos 0,.pos 1,.pos 2]:=
  bd_dfl T.F_Problem___init__ (by simp) (fun us ws its=>match us,ws,its with | [u0,u1,u2],[],[t0]=>[u0,u1,u2] | _,_,_=>[])
    (fun _ _ _ _ _ _ _ us ws its h1 h2 h3=>match us,ws,its,h1,h2,h3 with | [_,_,_],[],[_],_,_,_=>⟨_,rfl,rfl⟩)
    (fun vs qs us ws its h1 h2 r1 r2 r3=>match vs,us,qs,ws,its,h1,h2,r1,r2,r3 with | _,[_,_,_],_,[],[_],_,_,.cons u0 (.cons u1 (.cons u2 .nil)),.nil,.cons t0 .nil=>.cons u0 (.cons u1 (.cons u2 .nil))) (fun s h v d e=>by subst e;simp at h)
theorem B_Solved___init___3 (T:Tx P K mg base a d):Bd K (d i_Solved___init__) ["self","problem","values"] 3 [] [.pos 0,.pos 1,.pos 2]:=
  bd_ofK T.F_Solved___init__ (fun us ws=>match us,ws with | [u0,u1,u2],[]=>[u0,u1,u2] | _,_=>[])
    (fun _ _ _ _ _ _ _ _ _ us ws h1 h2=>match us,ws,h1,h2 with | [_,_,_],[],_,_=>rfl)
    (fun vs qs us ws h1 h2 r1 r2=>match vs,us,qs,ws,h1,h2,r1,r2 with | _,[_,_,_],_,[],_,_,.cons u0 (.cons u1 (.cons u2 .nil)),.nil=>.cons u0 (.cons u1 (.cons u2 .nil))) (fun s h v d e=>by subst e;simp at h)
theorem B_Solved_numbers_1 (T:Tx P K mg base a d):Bd K (d i_Solved_numbers) ["self"] 1 [] [.pos 0]:=
  bd_of T.F_Solved_numbers (fun us ws=>match us,ws with | [u0],[]=>[u0] | _,_=>[])
    (fun _ _ _ _ _ _ us ws h1 h2=>match us,ws,h1,h2 with | [_],[],_,_=>rfl)
    (fun vs qs us ws h1 h2 r1 r2=>match vs,us,qs,ws,h1,h2,r1,r2 with | _,[_],_,[],_,_,.cons u0 .nil,.nil=>.cons u0 .nil) (fun s h v d e=>by subst e;simp at h)
theorem B_Top___init___6 (T:Tx P K mg base a d):Bd K (d i_Top___init__) ["self","problem","factors","number","values","weights"] 6 [] [.pos 0,.pos 1,.pos 2,.pos 3,.pos 4,.pos 5]:=
  bd_ofK T.F_Top___init__ (fun us ws=>match us,ws with | [u0,u1,u2,u3,u4,u5],[]=>[u0,u1,u2,u3,u4,u5] | _,_=>[])
    (fun _ _ _ _ _ _ _ _ _ us ws h1 h2=>match us,ws,h1,h2 with | [_,_,_,_,_,_],[],_,_=>rfl)
    (fun vs qs us ws h1 h2 r1 r2=>match vs,us,qs,ws,h1,h2,r1,r2 with | _,[_,_,_,_,_,_],_,[],_,_,.cons u0 (.cons u1 (.cons u2 (.cons u3 (.cons u4 (.cons u5 .nil))))),.nil=>.cons u0 (.cons u1 (.cons u2 (.cons u3 (.cons u4 (.cons u5 .nil)))))) (fun s h v d e=>by subst e;simp at h)
theorem B_Top_factors_1 (T:Tx P K mg base a d):Bd K (d i_Top_factors) ["self"] 1 [] [.pos 0]:=
  bd_of T.F_Top_factors (fun us ws=>match us,ws with | [u0],[]=>[u0] | _,_=>[])
    (fun _ _ _ _ _ _ us ws h1 h2=>match us,ws,h1,h2 with | [_],[],_,_=>rfl)
    (fun vs qs us ws h1 h2 r1 r2=>match vs,us,qs,ws,h1,h2,r1,r2 with | _,[_],_,[],_,_,.cons u0 .nil,.nil=>.cons u0 .nil) (fun s h v d e=>by subst e;simp at h)
theorem B_Top_told_1 (T:Tx P K mg base a d):Bd K (d i_Top_told) ["self"] 1 [] [.pos 0]:=
  bd_of T.F_Top_told (fun us ws=>match us,ws with | [u0],[]=>[u0] | _,_=>[])
    (fun _ _ _ _ _ _ us ws h1 h2=>match us,ws,h1,h2 with | [_],[],_,_=>rfl)
    (fun vs qs us ws h1 h2 r1 r2=>match vs,us,qs,ws,h1,h2,r1,r2 with | _,[_],_,[],_,_,.cons u0 .nil,.nil=>.cons u0 .nil) (fun s h v d e=>by subst e;simp at h)
theorem B_Top_weights_1 (T:Tx P K mg base a d):Bd K (d i_Top_weights) ["self"] 1 [] [.pos 0]:=
  bd_of T.F_Top_weights (fun us ws=>match us,ws with | [u0],[]=>[u0] | _,_=>[])
    (fun _ _ _ _ _ _ us ws h1 h2=>match us,ws,h1,h2 with | [_],[],_,_=>rfl)
    (fun vs qs us ws h1 h2 r1 r2=>match vs,us,qs,ws,h1,h2,r1,r2 with | _,[_],_,[],_,_,.cons u0 .nil,.nil=>.cons u0 .nil) (fun s h v d e=>by subst e;simp at h)
theorem B__law_draw_2 (T:Tx P K mg base a d):Bd K (d i__law_draw) ["_law_src","_law_many"] 2 [] [.pos 0,.pos 1]:=
  bd_of T.F__law_draw (fun us ws=>match us,ws with | [u0,u1],[]=>[u0,u1] | _,_=>[])
    (fun _ _ _ _ _ _ us ws h1 h2=>match us,ws,h1,h2 with | [_,_],[],_,_=>rfl)
    (fun vs qs us ws h1 h2 r1 r2=>match vs,us,qs,ws,h1,h2,r1,r2 with | _,[_,_],_,[],_,_,.cons u0 (.cons u1 .nil),.nil=>.cons u0 (.cons u1 .nil)) (fun s h v d e=>by subst e;simp at h)
theorem B__law_low_2 (T:Tx P K mg base a d):Bd K (d i__law_low) ["_law_top","_law_bottom"] 2 [] [.pos 0,.pos 1]:=
  bd_of T.F__law_low (fun us ws=>match us,ws with | [u0,u1],[]=>[u0,u1] | _,_=>[])
    (fun _ _ _ _ _ _ us ws h1 h2=>match us,ws,h1,h2 with | [_,_],[],_,_=>rfl)
    (fun vs qs us ws h1 h2 r1 r2=>match vs,us,qs,ws,h1,h2,r1,r2 with | _,[_,_],_,[],_,_,.cons u0 (.cons u1 .nil),.nil=>.cons u0 (.cons u1 .nil)) (fun s h v d e=>by subst e;simp at h)
theorem B__law_of_2 (T:Tx P K mg base a d):Bd K (d i__law_of) ["_law_src","_law_some"] 2 [] [.pos 0,.pos 1]:=
  bd_of T.F__law_of (fun us ws=>match us,ws with | [u0,u1],[]=>[u0,u1] | _,_=>[])
    (fun _ _ _ _ _ _ us ws h1 h2=>match us,ws,h1,h2 with | [_,_],[],_,_=>rfl)
    (fun vs qs us ws h1 h2 r1 r2=>match vs,us,qs,ws,h1,h2,r1,r2 with | _,[_,_],_,[],_,_,.cons u0 (.cons u1 .nil),.nil=>.cons u0 (.cons u1 .nil)) (fun s h v d e=>by subst e;simp at h)
theorem B__law_pair_1 (T:Tx P K mg base a d):Bd K (d i__law_pair) ["_law_value"] 1 [] [.pos 0]:=
  bd_of T.F__law_pair (fun us ws=>match us,ws with | [u0],[]=>[u0] | _,_=>[])
    (fun _ _ _ _ _ _ us ws h1 h2=>match us,ws,h1,h2 with | [_],[],_,_=>rfl)
    (fun vs qs us ws h1 h2 r1 r2=>match vs,us,qs,ws,h1,h2,r1,r2 with | _,[_],_,[],_,_,.cons u0 .nil,.nil=>.cons u0 .nil) (fun s h v d e=>by subst e;simp at h)
theorem B__law_same_2 (T:Tx P K mg base a d):Bd K (d i__law_same) ["_law_found","_law_due"] 2 [] [.pos 0,.pos 1]:=
  bd_of T.F__law_same (fun us ws=>match us,ws with | [u0,u1],[]=>[u0,u1] | _,_=>[])
    (fun _ _ _ _ _ _ us ws h1 h2=>match us,ws,h1,h2 with | [_,_],[],_,_=>rfl)
    (fun vs qs us ws h1 h2 r1 r2=>match vs,us,qs,ws,h1,h2,r1,r2 with | _,[_,_],_,[],_,_,.cons u0 (.cons u1 .nil),.nil=>.cons u0 (.cons u1 .nil)) (fun s h v d e=>by subst e;simp at h)
theorem B__law_text_1 (T:Tx P K mg base a d):Bd K (d i__law_text) ["_law_value"] 1 [] [.pos 0]:=
  bd_of T.F__law_text (fun us ws=>match us,ws with | [u0],[]=>[u0] | _,_=>[])
    (fun _ _ _ _ _ _ us ws h1 h2=>match us,ws,h1,h2 with | [_],[],_,_=>rfl)
    (fun vs qs us ws h1 h2 r1 r2=>match vs,us,qs,ws,h1,h2,r1,r2 with | _,[_],_,[],_,_,.cons u0 .nil,.nil=>.cons u0 .nil) (fun s h v d e=>by subst e;simp at h)
theorem B__law_wide_1 (T:Tx P K mg base a d):Bd K (d i__law_wide) ["_law_src"] 1 [] [.pos 0]:=
  bd_of T.F__law_wide (fun us ws=>match us,ws with | [u0],[]=>[u0] | _,_=>[])
    (fun _ _ _ _ _ _ us ws h1 h2=>match us,ws,h1,h2 with | [_],[],_,_=>rfl)
    (fun vs qs us ws h1 h2 r1 r2=>match vs,us,qs,ws,h1,h2,r1,r2 with | _,[_],_,[],_,_,.cons u0 .nil,.nil=>.cons u0 .nil) (fun s h v d e=>by subst e;simp at h)
theorem B_as_list_1 (T:Tx P K mg base a d):Bd K (d i_as_list) ["value"] 1 [] [.pos 0]:=
  bd_of T.F_as_list (fun us ws=>match us,ws with | [u0],[]=>[u0] | _,_=>[])
    (fun _ _ _ _ _ _ us ws h1 h2=>match us,ws,h1,h2 with | [_],[],_,_=>rfl)
    (fun vs qs us ws h1 h2 r1 r2=>match vs,us,qs,ws,h1,h2,r1,r2 with | _,[_],_,[],_,_,.cons u0 .nil,.nil=>.cons u0 .nil) (fun s h v d e=>by subst e;simp at h)
theorem B_is_number_3 (T:Tx P K mg base a d):Bd K (d i_is_number) ["value","least","most"] 3 [] [.pos 0,.pos 1,.pos 2]:=
  bd_of T.F_is_number (fun us ws=>match us,ws with | [u0,u1,u2],[]=>[u0,u1,u2] | _,_=>[])
    (fun _ _ _ _ _ _ us ws h1 h2=>match us,ws,h1,h2 with | [_,_,_],[],_,_=>rfl)
    (fun vs qs us ws h1 h2 r1 r2=>match vs,us,qs,ws,h1,h2,r1,r2 with | _,[_,_,_],_,[],_,_,.cons u0 (.cons u1 (.cons u2 .nil)),.nil=>.cons u0 (.cons u1 (.cons u2 .nil))) (fun s h v d e=>by subst e;simp at h)
theorem B_is_ratio_1 (T:Tx P K mg base a d):Bd K (d i_is_ratio) ["value"] 1 [] [.pos 0]:=
  bd_of T.F_is_ratio (fun us ws=>match us,ws with | [u0],[]=>[u0] | _,_=>[])
    (fun _ _ _ _ _ _ us ws h1 h2=>match us,ws,h1,h2 with | [_],[],_,_=>rfl)
    (fun vs qs us ws h1 h2 r1 r2=>match vs,us,qs,ws,h1,h2,r1,r2 with | _,[_],_,[],_,_,.cons u0 .nil,.nil=>.cons u0 .nil) (fun s h v d e=>by subst e;simp at h)
theorem B_is_row_2 (T:Tx P K mg base a d):Bd K (d i_is_row) ["value","size"] 2 [] [.pos 0,.pos 1]:=
  bd_of T.F_is_row (fun us ws=>match us,ws with | [u0,u1],[]=>[u0,u1] | _,_=>[])
    (fun _ _ _ _ _ _ us ws h1 h2=>match us,ws,h1,h2 with | [_,_],[],_,_=>rfl)
    (fun vs qs us ws h1 h2 r1 r2=>match vs,us,qs,ws,h1,h2,r1,r2 with | _,[_,_],_,[],_,_,.cons u0 (.cons u1 .nil),.nil=>.cons u0 (.cons u1 .nil)) (fun s h v d e=>by subst e;simp at h)
theorem B_is_valued_1 (T:Tx P K mg base a d):Bd K (d i_is_valued) ["value"] 1 [] [.pos 0]:=
  bd_of T.F_is_valued (fun us ws=>match us,ws with | [u0],[]=>[u0] | _,_=>[])
    (fun _ _ _ _ _ _ us ws h1 h2=>match us,ws,h1,h2 with | [_],[],_,_=>rfl)
    (fun vs qs us ws h1 h2 r1 r2=>match vs,us,qs,ws,h1,h2,r1,r2 with | _,[_],_,[],_,_,.cons u0 .nil,.nil=>.cons u0 .nil) (fun s h v d e=>by subst e;simp at h)
theorem B_is_whole_1 (T:Tx P K mg base a d):Bd K (d i_is_whole) ["value"] 1 [] [.pos 0]:=
  bd_of T.F_is_whole (fun us ws=>match us,ws with | [u0],[]=>[u0] | _,_=>[])
    (fun _ _ _ _ _ _ us ws h1 h2=>match us,ws,h1,h2 with | [_],[],_,_=>rfl)
    (fun vs qs us ws h1 h2 r1 r2=>match vs,us,qs,ws,h1,h2,r1,r2 with | _,[_],_,[],_,_,.cons u0 .nil,.nil=>.cons u0 .nil) (fun s h v d e=>by subst e;simp at h)
theorem B_own_copy_1 (T:Tx P K mg base a d):Bd K (d i_own_copy) ["value"] 1 [] [.pos 0]:=
  bd_of T.F_own_copy (fun us ws=>match us,ws with | [u0],[]=>[u0] | _,_=>[])
    (fun _ _ _ _ _ _ us ws h1 h2=>match us,ws,h1,h2 with | [_],[],_,_=>rfl)
    (fun vs qs us ws h1 h2 r1 r2=>match vs,us,qs,ws,h1,h2,r1,r2 with | _,[_],_,[],_,_,.cons u0 .nil,.nil=>.cons u0 .nil) (fun s h v d e=>by subst e;simp at h)
theorem B_ratio_of_1 (T:Tx P K mg base a d):Bd K (d i_ratio_of) ["value"] 1 [] [.pos 0]:=
  bd_of T.F_ratio_of (fun us ws=>match us,ws with | [u0],[]=>[u0] | _,_=>[])
    (fun _ _ _ _ _ _ us ws h1 h2=>match us,ws,h1,h2 with | [_],[],_,_=>rfl)
    (fun vs qs us ws h1 h2 r1 r2=>match vs,us,qs,ws,h1,h2,r1,r2 with | _,[_],_,[],_,_,.cons u0 .nil,.nil=>.cons u0 .nil) (fun s h v d e=>by subst e;simp at h)
theorem B_ratio_text_1 (T:Tx P K mg base a d):Bd K (d i_ratio_text) ["value"] 1 [] [.pos 0]:=
  bd_of T.F_ratio_text (fun us ws=>match us,ws with | [u0],[]=>[u0] | _,_=>[])
    (fun _ _ _ _ _ _ us ws h1 h2=>match us,ws,h1,h2 with | [_],[],_,_=>rfl)
    (fun vs qs us ws h1 h2 r1 r2=>match vs,us,qs,ws,h1,h2,r1,r2 with | _,[_],_,[],_,_,.cons u0 .nil,.nil=>.cons u0 .nil) (fun s h v d e=>by subst e;simp at h)
theorem bi_Problem___eq__ (T:Tx P K mg base a d):Binds K (d i_Problem___eq__) ["self","other"] []:=binds_of T.F_Problem___eq__ fun _ _ _ _ _ _ us hl=>match us,hl with | [_,_],_=>rfl
theorem bi_Answer_problem (T:Tx P K mg base a d):Binds K (d i_Answer_problem) ["self"] []:=binds_of T.F_Answer_problem fun _ _ _ _ _ _ us hl=>match us,hl with | [_],_=>rfl
theorem bi_Answer___bool__ (T:Tx P K mg base a d):Binds K (d i_Answer___bool__) ["self"] []:=binds_of T.F_Answer___bool__ fun _ _ _ _ _ _ us hl=>match us,hl with | [_],_=>rfl
theorem bi_Solved___bool__ (T:Tx P K mg base a d):Binds K (d i_Solved___bool__) ["self"] []:=binds_of T.F_Solved___bool__ fun _ _ _ _ _ _ us hl=>match us,hl with | [_],_=>rfl
theorem bi_Answer___repr__ (T:Tx P K mg base a d):Binds K (d i_Answer___repr__) ["self"] []:=binds_of T.F_Answer___repr__ fun _ _ _ _ _ _ us hl=>match us,hl with | [_],_=>rfl
abbrev n__law_of:List Str:=["_law_src","_law_some"]
theorem sc__law_of:FnScope n__law_of ["_law_src","_law_some"] (defScope s__law_of):=⟨rfl,rfl,rfl,by decide +kernel,rfl,by decide +kernel,by decide +kernel⟩
theorem ok__law_of (T:Tx P K mg base a d):FnG P w K mg base 2 (a i__law_of) (d i__law_of) ["_law_src","_law_some"] spOf:=by
  have G__law_draw:FnG P w K mg base 1 (a i__law_draw) (d i__law_draw) ["_law_src","_law_many"] spDraw:=ok__law_draw T
  refine fnG_of T.F__law_of sc__law_of (fun args Q E h=>?_) (fun args Q E h=>?_) (fun cdv A outer s H E hr hg=>(ds_one (ds_ret (de_ix ix_seq sem_ix (de_see (pv 1)) (de_call G__law_draw (hr.mono (by decide)) hg (tkOf rfl rfl rfl rfl) (B__law_draw_2 T) (by rfl) T.m__law_draw T.F__law_draw.kp (da_cons (de_var (pv 0)) (da_cons (de_callB call_len sem_len (by rfl) T.n_len PySem.boot_len (da_cons (de_see (pv 1)) da_nil)) da_nil))) (fun _ _=>rfl))))) (fun args Q E h=>?_)
  · obtain ⟨x,rfl,_⟩:=h;rfl
  · obtain ⟨x,rfl,hx,_⟩:=h
    intro i o z
    match i with
    | 0=>cases z
    | 1=>exact hx o (Option.some.inj z)
    | i + 2=>simp at z
  · obtain ⟨x,rfl,hx,h⟩:=h
    cases x with
    | src=>exact h.elim
    | mu _ _ _=>exact h.elim
    | gh _ _=>exact h.elim
    | own o=>
      cases o with
      | lst ds=>
        obtain ⟨h1,h2,h3⟩:=h
        refine l_lenL rfl ?_
        refine ⟨rfl,rfl,_,rfl,by omega,small_len h2,fun n h0 h4=>?_⟩
        obtain ⟨y,e1,e2⟩:=at_mem h0 h4
        exact l_ixL rfl e1 (h3 y e2)
      | ins _ _ _=>exact h.elim
      | dk _=>exact h.elim
      | dt _=>exact h.elim
    | bor o=>
      cases o with
      | lst ds=>
        obtain ⟨h1,h2,h3⟩:=h
        refine l_lenL rfl ?_
        refine ⟨rfl,rfl,_,rfl,by omega,small_len h2,fun n h0 h4=>?_⟩
        obtain ⟨y,e1,e2⟩:=at_mem h0 h4
        exact l_ixL rfl e1 (h3 y e2)
      | ins _ _ _=>exact h.elim
      | dk _=>exact h.elim
      | dt _=>exact h.elim
    | see o=>exact absurd rfl (hx o)
    | d y=>
      cases y with
      | str z=>
        obtain ⟨h1,h2,h3⟩:=h
        refine l_lenS h2 ?_
        refine ⟨rfl,rfl,_,rfl,by omega,small_len h2,fun n h0 h4=>?_⟩
        obtain ⟨y,e1,e2⟩:=at_mem (xs:=z.cps.toList) h0 (by simpa [Str.length] using h4)
        exact l_ixS h2 e1 (h3 y e2)
      | tup ds=>
        obtain ⟨h1,h2,h3⟩:=h
        refine l_lenT ?_
        refine ⟨rfl,rfl,_,rfl,by omega,small_len h2,fun n h0 h4=>?_⟩
        obtain ⟨y,e1,e2⟩:=at_mem h0 h4
        exact l_ixT e1 (h3 y e2)
      | lst ds=>
        obtain ⟨h1,h2,h3⟩:=h
        refine l_lenL rfl ?_
        refine ⟨rfl,rfl,_,rfl,by omega,small_len h2,fun n h0 h4=>?_⟩
        obtain ⟨y,e1,e2⟩:=at_mem h0 h4
        exact l_ixL rfl e1 (h3 y e2)
      | non=>exact h.elim
      | bl _=>exact h.elim
      | int _=>exact h.elim
      | ins _ _=>exact h.elim
      | dk _=>exact h.elim
      | dt _=>exact h.elim
      | any=>exact h.elim
      | raw _=>exact h.elim
      | kt _=>exact h.elim
abbrev n__law_same:List Str:=["_law_found","_law_due"]
theorem sc__law_same:FnScope n__law_same ["_law_found","_law_due"] (defScope s__law_same):=⟨rfl,rfl,rfl,by decide +kernel,rfl,by decide +kernel,by decide +kernel⟩
theorem ok__law_same (T:Tx P K mg base a d):FnG P w K mg base 1 (a i__law_same) (d i__law_same) ["_law_found","_law_due"] spSame:=by
  refine fnG_of T.F__law_same sc__law_same (fun args Q E h=>?_) (fun args Q E h=>?_) (fun cdv A outer s H E hr hg=>(ds_one (ds_ret (de_cmp (op_eqAll hr.units) sem_eq (de_callB (call_reprD hg (room65 hr)) sem_repr (by rfl) T.n_repr (by decide +kernel) (da_cons (de_see (pv 0)) da_nil)) (de_callB (call_reprD hg (room65 hr)) sem_repr (by rfl) T.n_repr (by decide +kernel) (da_cons (de_see (pv 1)) da_nil)) (nomark _))))) (fun args Q E h=>?_)
  · obtain ⟨_,_,_,_,rfl,_⟩:=h;rfl
  · obtain ⟨_,_,_,_,rfl,_⟩:=h
    intro i o z
    match i with
    | 0=>cases z
    | 1=>cases z
    | i + 2=>simp at z
  · obtain ⟨d1,d2,p,q,rfl,s1,s2,h⟩:=h
    show reprR [.d d1] (fun x=>reprR [.d d2] (fun y=>eqR false x y (retQ Q)))
    exact repr_ok s1 (repr_ok s2 (l_eqS h))
end
section
variable {P:Program} {w:World} {K:PySem.W.Frag} {mg:Str→Option Value} {base:Heap} {a:Nat→Addr} {d:Nat→FuncData}
theorem whole_is (x:D):wholeD x=(isB "int" x && !isB "bool" x):=by cases x<;>rfl
abbrev n_is_whole:List Str:=["value"]
theorem sc_is_whole:FnScope n_is_whole ["value"] (defScope s_is_whole):=⟨rfl,rfl,rfl,by decide +kernel,rfl,by decide +kernel,by decide +kernel⟩
theorem ok_is_whole (T:Tx P K mg base a d):FnG P w K mg base 1 (a i_is_whole) (d i_is_whole) ["value"] (sp1 fun x Q _=>kindD x=true∧Q (.d (.bl (wholeD x)))):=by
  refine fn1_of T.F_is_whole sc_is_whole (fun cdv A outer s H E hr hg=>(ds_one (ds_ret (de_and (de_callB call_isi sem_isi (by rfl) T.n_isinstance (by decide +kernel) (da_cons (de_see (pv 0)) (da_cons (de_ty (T:="int") (by rfl) T.n_int (by decide +kernel)) da_nil))) (de_one (de_not (de_callB call_isi sem_isi (by rfl) T.n_isinstance (by decide +kernel) (da_cons (de_see (pv 0)) (da_cons (de_ty (T:="bool") (by rfl) T.n_bool (by decide +kernel)) da_nil))))))))) (fun x Q E h=>?_)
  replace h:kindD x=true∧Q (.d (.bl (wholeD x))):=h
  obtain ⟨k,h⟩:=h
  refine l_isi rfl k (by decide) ?_
  rw [whole_is] at h
  refine br (fun e=>?_) (fun e=>?_)
  · refine l_isi rfl k (by decide) (l_truB ?_)
    rw [e] at h
    exact h
  · rw [e] at h
    exact h
abbrev n_is_number:List Str:=["value","least","most"]
theorem sc_is_number:FnScope n_is_number ["value","least","most"] (defScope s_is_number):=⟨rfl,rfl,rfl,by decide +kernel,rfl,by decide +kernel,by decide +kernel⟩
theorem ok_is_number (T:Tx P K mg base a d):FnG P w K mg base 2 (a i_is_number) (d i_is_number) ["value","least","most"] (sp3 fun x lo hi Q _=>kindD x=true∧∃ l m:Int,lo=.int l∧hi=.int m∧Q (.d (.bl (numD l m x)))):=by
  have G_is_whole:FnG P w K mg base 1 (a i_is_whole) (d i_is_whole) ["value"] (sp1 fun x Q _=>kindD x=true∧Q (.d (.bl (wholeD x)))):=ok_is_whole T
  refine fn3_of T.F_is_number sc_is_number (fun cdv A outer s H E hr hg=>(ds_one (ds_ret (de_and (de_call G_is_whole (hr.mono (by decide)) hg (tkOf rfl rfl rfl rfl) (B_is_whole_1 T) (by rfl) T.m_is_whole T.F_is_whole.kp (da_cons (de_var (pv 0)) da_nil)) (de_one (de_chain op_le (sem_intR0 fun _ _ _=>.bl _) op_le (sem_intR0 fun _ _ _=>.bl _) (de_see (pv 1)) (de_see (pv 0)) (de_see (pv 2)))))))) (fun x lo hi Q E h=>?_)
  replace h:kindD x=true∧∃ l m:Int,lo=.int l∧hi=.int m∧Q (.d (.bl (numD l m x))):=h
  obtain ⟨k,l,m,rfl,rfl,h⟩:=h
  refine ⟨rfl,rfl,_,rfl,k,?_⟩
  cases x with
  | int i=>
    refine brT ?_
    refine l_int0 ?_
    have e:numD l m (.int i)=(decide (l≤i) && decide (i≤m)):=rfl
    rw [e] at h
    refine br (fun h1=>?_) (fun h1=>?_)
    · refine l_int0 ?_
      rw [h1,Bool.true_and] at h
      exact h
    · rw [h1,Bool.false_and] at h
      exact h
  | ins _ _=>cases k
  | dk _=>cases k
  | dt _=>cases k
  | any=>cases k
  | raw _=>cases k
  | _=>exact brF h
abbrev n_is_ratio:List Str:=["value"]
theorem sc_is_ratio:FnScope n_is_ratio ["value"] (defScope s_is_ratio):=⟨rfl,rfl,rfl,by decide +kernel,rfl,by decide +kernel,by decide +kernel⟩
theorem ok_is_ratio (T:Tx P K mg base a d):FnG P w K mg base 2 (a i_is_ratio) (d i_is_ratio) ["value"] (sp1 fun x Q _=>kindD x=true∧pairK x∧Q (.d (.bl (ratioD x)))):=by
  have G_is_whole:FnG P w K mg base 1 (a i_is_whole) (d i_is_whole) ["value"] (sp1 fun x Q _=>kindD x=true∧Q (.d (.bl (wholeD x)))):=ok_is_whole T
  refine fn1_of T.F_is_ratio sc_is_ratio (fun cdv A outer s H E hr hg=>(ds_cons (ds_if (DW.dt (dw_or (dt_not (dt_val (de_callB call_isi sem_isi (by rfl) T.n_isinstance (by decide +kernel) (da_cons (de_see (pv 0)) (da_cons (de_ty (T:="tuple") (by rfl) T.n_tuple (by decide +kernel)) da_nil))))) (dw_or (dt_cmp (op_neAll hr.units) sem_ne (de_callB call_len sem_len (by rfl) T.n_len PySem.boot_len (da_cons (de_see (pv 0)) da_nil)) de_int (nomark _)) (dw_or (dt_not (dt_val (de_call G_is_whole (hr.mono (by decide)) hg (tkOf rfl rfl rfl rfl) (B_is_whole_1 T) (by rfl) T.m_is_whole T.F_is_whole.kp (da_cons (de_ix ix_seq sem_ix (de_see (pv 0)) de_int (fun _ _=>rfl)) da_nil)))) (dw_or1 (dt_not (dt_val (de_call G_is_whole (hr.mono (by decide)) hg (tkOf rfl rfl rfl rfl) (B_is_whole_1 T) (by rfl) T.m_is_whole T.F_is_whole.kp (da_cons (de_ix ix_seq sem_ix (de_see (pv 0)) de_int (fun _ _=>rfl)) da_nil))))))))) (ds_one (ds_ret de_bl)) ds_nil)
      (ds_one (ds_ret (de_and (de_cmp op_ge (sem_intR0 fun _ _ _=>.bl _) (de_ix ix_seq sem_ix (de_see (pv 0)) de_int (fun _ _=>rfl)) de_int (nomark _)) (de_one (de_cmp (op_eqAll hr.units) sem_eq (de_callF cr_gcd sem_gcd (by rfl) T.b_gcd (da_cons (de_ix ix_seq sem_ix (de_see (pv 0)) de_int (fun _ _=>rfl)) (da_cons (de_ix ix_seq sem_ix (de_see (pv 0)) de_int (fun _ _=>rfl)) da_nil))) de_int (nomark _)))))))) (fun x Q E h=>?_)
  replace h:kindD x=true∧pairK x∧Q (.d (.bl (ratioD x))):=h
  obtain ⟨k,k2,h⟩:=h
  refine l_isi rfl k (by decide) ?_
  cases x with
  | tup ds=>
    refine l_truB (brF ?_)
    refine l_lenT ?_
    refine l_eqI ?_
    match ds,k2,h with
    | [],_,h=>exact brT (brT h)
    | [x],_,h=>
      rw [ratioD_ne (by simp)] at h
      exact brT (brT h)
    | _::_::_::r,_,h=>
      rw [ratioD_ne (by simp)] at h
      show Br (!decide (((r.length + 1 + 1 + 1:Nat):Int)=2)) _ _
      rw [decide_eq_false (by omega)]
      exact brT (brT h)
    | [x,y],k2,h=>
      refine brF ?_
      refine l_ixT rfl ?_
      refine ⟨rfl,rfl,x,rfl,k2.1,?_⟩
      refine l_truB ?_
      cases x with
      | int i=>
        refine brF ?_
        refine l_ixT rfl ?_
        refine ⟨rfl,rfl,y,rfl,k2.2,?_⟩
        refine l_truB ?_
        cases y with
        | int j=>
          refine brF ?_
          refine l_ixT rfl ?_
          refine l_int0 ?_
          have e:ratioD (.tup [.int i,.int j])=(decide (1≤j) && decide (gcI i j=1)):=rfl
          rw [e] at h
          refine br (fun h1=>?_) (fun h1=>?_)
          · refine l_ixT rfl ?_
            refine l_ixT rfl ?_
            refine l_gcd ?_
            refine l_eqI ?_
            rw [h1,Bool.true_and] at h
            exact h
          · rw [h1,Bool.false_and] at h
            exact h
        | ins _ _=>cases k2.2
        | dk _=>cases k2.2
        | dt _=>cases k2.2
        | any=>cases k2.2
        | raw _=>cases k2.2
        | _=>exact brT h
      | ins _ _=>cases k2.1
      | dk _=>cases k2.1
      | dt _=>cases k2.1
      | any=>cases k2.1
      | raw _=>cases k2.1
      | _=>exact brT (brT h)
  | ins _ _=>cases k
  | dk _=>cases k
  | dt _=>cases k
  | any=>cases k
  | raw _=>cases k
  | kt _=>exact k2.elim
  | _=>exact l_truB (brT (brT h))
abbrev n_is_valued:List Str:=["value"]
theorem sc_is_valued:FnScope n_is_valued ["value"] (defScope s_is_valued):=⟨rfl,rfl,rfl,by decide +kernel,rfl,by decide +kernel,by decide +kernel⟩
theorem ok_is_valued (T:Tx P K mg base a d):FnG P w K mg base 3 (a i_is_valued) (d i_is_valued) ["value"] (sp1 fun x Q _=>kindD x=true∧pairK x∧Q (.d (.bl (wholeD x || ratioD x)))):=by
  have G_is_ratio:FnG P w K mg base 2 (a i_is_ratio) (d i_is_ratio) ["value"] (sp1 fun x Q _=>kindD x=true∧pairK x∧Q (.d (.bl (ratioD x)))):=ok_is_ratio T
  have G_is_whole:FnG P w K mg base 1 (a i_is_whole) (d i_is_whole) ["value"] (sp1 fun x Q _=>kindD x=true∧Q (.d (.bl (wholeD x)))):=ok_is_whole T
  refine fn1_of T.F_is_valued sc_is_valued (fun cdv A outer s H E hr hg=>(ds_one (ds_ret (de_or (de_call G_is_whole (hr.mono (by decide)) hg (tkOf rfl rfl rfl rfl) (B_is_whole_1 T) (by rfl) T.m_is_whole T.F_is_whole.kp (da_cons (de_var (pv 0)) da_nil)) (de_one (de_call G_is_ratio (hr.mono (by decide)) hg (tkOf rfl rfl rfl rfl) (B_is_ratio_1 T) (by rfl) T.m_is_ratio T.F_is_ratio.kp (da_cons (de_var (pv 0)) da_nil))))))) (fun x Q E h=>?_)
  replace h:kindD x=true∧pairK x∧Q (.d (.bl (wholeD x || ratioD x))):=h
  obtain ⟨k,k2,h⟩:=h
  refine ⟨rfl,rfl,x,rfl,k,?_⟩
  cases e:wholeD x with
  | true=>rw [e,Bool.true_or] at h;exact brT h
  | false=>
    rw [e,Bool.false_or] at h
    exact brF ⟨rfl,rfl,x,rfl,k,k2,h⟩
abbrev pRof (K:PySem.W.Frag) (x:D) (Q:DV→Prop) (E:XE'):Prop:=kindD x=true∧pairK x∧(∀ q,ratOf x=some q→Q (.d (rD q)))∧(ratOf x=none→E (.ref (He.ga K "InvalidRatio")) (xd_InvalidRatio x))
abbrev n_ratio_of:List Str:=["value"]
theorem sc_ratio_of:FnScope n_ratio_of ["value"] (defScope s_ratio_of):=⟨rfl,rfl,rfl,by decide +kernel,rfl,by decide +kernel,by decide +kernel⟩
theorem ok_ratio_of (T:Tx P K mg base a d):FnG P w K mg base 3 (a i_ratio_of) (d i_ratio_of) ["value"] (sp1 fun x Q E=>pRof K x Q E):=by
  have G_is_ratio:FnG P w K mg base 2 (a i_is_ratio) (d i_is_ratio) ["value"] (sp1 fun x Q _=>kindD x=true∧pairK x∧Q (.d (.bl (ratioD x)))):=ok_is_ratio T
  have G_is_whole:FnG P w K mg base 1 (a i_is_whole) (d i_is_whole) ["value"] (sp1 fun x Q _=>kindD x=true∧Q (.d (.bl (wholeD x)))):=ok_is_whole T
  refine fn1_of T.F_ratio_of sc_ratio_of (fun cdv A outer s H E hr hg=>(ds_cons (ds_if (dt_val (de_call G_is_whole (hr.mono (by decide)) hg (tkOf rfl rfl rfl rfl) (B_is_whole_1 T) (by rfl) T.m_is_whole T.F_is_whole.kp (da_cons (de_var (pv 0)) da_nil))) (ds_one (ds_ret (de_tup (da_cons (de_var (pv 0)) (da_cons de_int da_nil))))) ds_nil)
      (ds_cons (ds_if (dt_not (dt_val (de_call G_is_ratio (hr.mono (by decide)) hg (tkOf rfl rfl rfl rfl) (B_is_ratio_1 T) (by rfl) T.m_is_ratio T.F_is_ratio.kp (da_cons (de_var (pv 0)) da_nil)))) (ds_one (ds_raise rfl (tkOf rfl rfl rfl rfl) T.x_InvalidRatio (hr.mono (by decide)) (by rfl) T.m_InvalidRatio (da_cons (de_var (pv 0)) da_nil))) ds_nil)
      (ds_one (ds_ret (de_var (pv 0))))))) (fun x Q E h=>?_)
  replace h:pRof K x Q E:=h
  obtain ⟨k,k2,h1,h2⟩:=h
  refine ⟨rfl,rfl,x,rfl,k,?_⟩
  refine l_truB ?_
  cases e:ratOf x with
  | some q=>
    rcases ratOf_some e with ⟨i,rfl,z⟩ | ⟨z1,z2,z3⟩
    · refine brT (l_tup rfl rfl ?_)
      have:=h1 q e
      rw [z] at this
      exact this
    · rw [z1]
      refine brF ⟨rfl,rfl,x,rfl,k,k2,l_truB ?_⟩
      rw [z2]
      refine brF ?_
      have:=h1 q e
      rw [← z3] at this
      exact this
  | none=>
    obtain ⟨z1,z2⟩:=ratOf_none k2 e
    rw [z1]
    refine brF ⟨rfl,rfl,x,rfl,k,k2,l_truB ?_⟩
    rw [z2]
    exact brT ⟨rfl,xr_InvalidRatio (h2 e)⟩
abbrev n_ratio_text:List Str:=["value","top","bottom"]
theorem sc_ratio_text:FnScope n_ratio_text ["value"] (defScope s_ratio_text):=⟨rfl,rfl,rfl,by decide +kernel,rfl,by decide +kernel,by decide +kernel⟩
theorem ok_ratio_text (T:Tx P K mg base a d):FnG P w K mg base 4 (a i_ratio_text) (d i_ratio_text) ["value"] (sp1 fun x Q E=>kindD x=true∧pairK x∧(∀ q,ratOf x=some q→(q.num.natAbs < 10 ^ 100∧q.den < 10 ^ 100)∧Q (.d (.str (ratS q))))∧(ratOf x=none→E (.ref (He.ga K "InvalidRatio")) (xd_InvalidRatio x))):=by
  have G_ratio_of:FnG P w K mg base 3 (a i_ratio_of) (d i_ratio_of) ["value"] (sp1 fun x Q E=>pRof K x Q E):=ok_ratio_of T
  refine fn1_of T.F_ratio_text sc_ratio_text (fun cdv A outer s H E hr hg=>(ds_cons (ds_asg (de_call G_ratio_of (hr.mono (by decide)) hg (tkOf rfl rfl rfl rfl) (B_ratio_of_1 T) (by rfl) T.m_ratio_of T.F_ratio_of.kp (da_cons (de_var (pv 0)) da_nil)) (dg_tup (n:=2) (K:=K) rfl (dgs_cons (dg_name (i:=1) sc_ratio_text.nd rfl (Or.inl rfl)) (dgs_cons (dg_name (i:=2) sc_ratio_text.nd rfl (Or.inl rfl)) dgs_nil))))
      (ds_one (ds_ret (de_ifE (dt_cmp (op_eqAll hr.units) sem_eq (de_see (pv 2)) de_int (nomark _)) (de_callT call_str_int sem_str (by rfl) T.n_str (by decide +kernel) (da_cons (de_see (pv 1)) da_nil)) (de_fstr (.cons (de_fmt (de_var (pv 1))) (.cons de_str (.cons (de_fmt (de_var (pv 2))) .nil))))))))) (fun x Q E h=>?_)
  replace h:kindD x=true∧pairK x∧(∀ q,ratOf x=some q→(q.num.natAbs < 10 ^ 100∧q.den < 10 ^ 100)∧Q (.d (.str (ratS q))))∧(ratOf x=none→E (.ref (He.ga K "InvalidRatio")) (xd_InvalidRatio x)):=h
  obtain ⟨kx,px,h1,h2⟩:=h
  have hz:szl=16777216:=rfl
  refine asg_cut ?_
  refine ⟨rfl,rfl,_,rfl,kx,px,fun q hq=>?_,fun hq=>h2 hq⟩
  obtain ⟨⟨b1,b2⟩,h3⟩:=h1 q hq
  have b3:(q.den:Int).natAbs < 10 ^ 100:=by simpa using b2
  have l1:=num_len b1
  have l2:=num_len b3
  refine ⟨rfl,g2 (s':=[some (.d x),some (.d (.int q.num)),some (.d (.int (q.den:Int)))]) rfl ?_⟩
  refine l_eqI ?_
  unfold ratS at h3
  refine br (fun z=>?_) (fun z=>?_)
  · rw [if_pos (of_decide_eq_true z)] at h3
    exact l_str (lg b1) h3
  · rw [if_neg (of_decide_eq_false z)] at h3
    have e1:("/":Str).length=1:=by decide
    refine l_fmtI (lg b1) ⟨?_,?_⟩
    · rw [empty_app];show (numS q.num).length≤szl;omega
    refine ⟨?_,l_fmtI (lg b3) ⟨?_,?_⟩⟩
    · rw [empty_app,str_app_len];show (numS q.num).length + _≤szl;omega
    · rw [empty_app,str_app_len,str_app_len];show (numS q.num).length + _ + (numS (q.den:Int)).length≤szl;omega
    · rw [empty_app];exact h3
def vlD (d:D):Bool:=wholeD d || ratioD d
def rowB (n:Int):D→Bool
  | .tup [f,b,s]=>(match itemsD f with
    | some ds=>decide ((ds.length:Int)=n) && (ds.all vlD && (vlD b && isB "bool" s))
    | none=>false)
  | _=>false
def smallR:D→Prop
  | .tup (f::_)=>(match itemsD f with
    | some ds=>ds.length≤100000
    | none=>True)
  | _=>True
theorem row_ne {n:Int} {ds:List D} (h:ds.length≠3):rowB n (.tup ds)=false:=by
  match ds,h with
  | [],_=>rfl
  | [_],_=>rfl
  | [_,_],_=>rfl
  | [_,_,_],h=>exact absurd rfl h
  | _::_::_::_::_,_=>rfl
theorem row_eq {n:Int} {f b s:D} {ds:List D} (h:itemsD f=some ds):rowB n (.tup [f,b,s])=(decide ((ds.length:Int)=n) && (ds.all vlD && (vlD b && isB "bool" s))):=by
  unfold rowB;dsimp only;rw [h]
theorem row_none {n:Int} {f b s:D} (h:itemsD f=none):rowB n (.tup [f,b,s])=false:=by
  unfold rowB;dsimp only;rw [h]
abbrev n_is_row:List Str:=["value","size","factor"]
theorem sc_is_row:FnScope n_is_row ["value","size"] (defScope s_is_row):=⟨rfl,rfl,rfl,by decide +kernel,rfl,by decide +kernel,by decide +kernel⟩
theorem ok_is_row (T:Tx P K mg base a d):FnG P w K mg base 4 (a i_is_row) (d i_is_row) ["value","size"] (sp2 fun x y Q _=>Pl x∧smallR x∧∃ n:Int,y=.int n∧Q (.d (.bl (rowB n x)))):=by
  have G_is_valued:FnG P w K mg base 3 (a i_is_valued) (d i_is_valued) ["value"] (sp1 fun x Q _=>kindD x=true∧pairK x∧Q (.d (.bl (wholeD x || ratioD x)))):=ok_is_valued T
  refine fn2_of T.F_is_row sc_is_row (fun cdv A outer s H E hr hg=>(ds_cons (ds_if (DW.dt (dw_or (dt_not (dt_val (de_callB call_isi sem_isi (by rfl) T.n_isinstance (by decide +kernel) (da_cons (de_see (pv 0)) (da_cons (de_ty (T:="tuple") (by rfl) T.n_tuple (by decide +kernel)) da_nil))))) (dw_or (dt_cmp (op_neAll hr.units) sem_ne (de_callB call_len sem_len (by rfl) T.n_len PySem.boot_len (da_cons (de_see (pv 0)) da_nil)) de_int (nomark _)) (dw_or1 (dt_not (dt_val (de_callB call_isiS sem_isiT (by rfl) T.n_isinstance (by decide +kernel) (da_cons (de_ix ix_seq sem_ix (de_see (pv 0)) de_int (fun _ _=>rfl)) (da_cons (de_tup (da_cons (de_ty (T:="list") (by rfl) T.n_list (by decide +kernel)) (da_cons (de_ty (T:="tuple") (by rfl) T.n_tuple (by decide +kernel)) da_nil))) da_nil))))))))) (ds_one (ds_ret de_bl)) ds_nil)
      (ds_cons (ds_if (DW.dt (dw_or (dt_cmp (op_neAll hr.units) sem_ne (de_callB call_len sem_len (by rfl) T.n_len PySem.boot_len (da_cons (de_ix ix_seq sem_ix (de_see (pv 0)) de_int (fun _ _=>rfl)) da_nil)) (de_see (pv 1)) (nomark _)) (dw_or1 (dt_not (dt_val (de_callB (cr_all rfl) sem_all (by rfl) T.n_all (by decide +kernel) (da_cons (de_lc (own:=[("factor",2)]) rfl sc_is_row.nd (di_any (de_ix ix_seq sem_ix (de_see (pv 0)) de_int (fun _ _=>rfl))) (blkOk_by (own:=[("factor",2)]) (N:=n_is_row) (sc:=(defScope s_is_row)) (by decide +kernel)) (fun _ _ _ _ _=>(dg_name (i:=2) sc_is_row.nd rfl (Or.inl rfl))) (fun _ _ _ _ _=>dts_nil) (fun _ _ _ _ _=>(de_call G_is_valued (hr.mono (by decide)) hg takes0 (B_is_valued_1 T) (by rfl) T.m_is_valued T.F_is_valued.kp (da_cons (de_var (pv 2)) da_nil)))) da_nil))))))) (ds_one (ds_ret de_bl)) ds_nil)
      (ds_one (ds_ret (de_and (de_call G_is_valued (hr.mono (by decide)) hg (tkOf rfl rfl rfl rfl) (B_is_valued_1 T) (by rfl) T.m_is_valued T.F_is_valued.kp (da_cons (de_ix ix_seq sem_ix (de_see (pv 0)) de_int (fun _ _=>rfl)) da_nil)) (de_one (de_callB call_isi sem_isi (by rfl) T.n_isinstance (by decide +kernel) (da_cons (de_ix ix_seq sem_ix (de_see (pv 0)) de_int (fun _ _=>rfl)) (da_cons (de_ty (T:="bool") (by rfl) T.n_bool (by decide +kernel)) da_nil)))))))))) (fun x y Q E h=>?_)
  replace h:Pl x∧smallR x∧∃ n:Int,y=.int n∧Q (.d (.bl (rowB n x))):=h
  obtain ⟨pl,sm,n,rfl,h⟩:=h
  refine seq_cut (fun s=>(∃ f b s' ds,x=.tup [f,b,s']∧itemsD f=some ds)∧s=[some (.d x),some (.d (.int n)),none]) (fun N hN=>?_) (fun s hs=>?_)
  · refine l_isi rfl pl.kind (by decide) ?_
    cases x with
    | tup ds=>
      refine l_truB (brF ?_)
      refine l_lenT ?_
      refine l_eqI ?_
      by_cases h3:ds.length=3
      · match ds,h3,pl,sm,h,hN with
        | [f,b,s'],_,pl,sm,h,hN=>
          refine brF ?_
          refine l_ixT rfl ?_
          refine l_tup rfl rfl ?_
          refine l_isis (Ts:=["list","tuple"]) rfl pl.tup.hd.kind rfl (by decide) ?_
          refine l_truB ?_
          rw [isBs_seq _ pl.tup.hd]
          cases e:itemsD f with
          | some ds=>exact brF (hN _ ⟨⟨f,b,s',ds,rfl,e⟩,rfl⟩)
          | none=>
            rw [row_none e] at h
            exact brT h
      · rw [row_ne h3] at h
        have e:(!decide ((ds.length:Int)=3))=true:=by
          rw [decide_eq_false (by omega)];rfl
        rw [if_pos rfl,e]
        exact brT (brT h)
    | ins _ _=>rw [Pl] at pl;exact pl.elim
    | dk _=>rw [Pl] at pl;exact pl.elim
    | dt _=>rw [Pl] at pl;exact pl.elim
    | any=>rw [Pl] at pl;exact pl.elim
    | raw _=>rw [Pl] at pl;exact pl.elim
    | kt _=>rw [Pl] at pl;exact pl.elim
    | _=>exact l_truB (brT (brT h))
  · obtain ⟨⟨f,b,s',ds,rfl,e⟩,rfl⟩:=hs
    rw [row_eq e] at h
    have pds:=pl.tup.hd.items e
    have sm':ds.length≤100000:=by
      have z:(match itemsD f with | some ds=>ds.length≤100000 | none=>True):=sm
      rw [e] at z;exact z
    refine seq_cut (fun s=>(decide ((ds.length:Int)=n) && ds.all vlD)=true∧s=[some (.d (.tup [f,b,s'])),some (.d (.int n)),none]) (fun N hN=>?_) (fun s hs=>?_)
    · refine l_ixT rfl ?_
      refine l_lenD e ?_
      refine l_eqI ?_
      rw [if_pos rfl]
      cases e1:decide ((ds.length:Int)=n) with
      | false=>
        rw [e1] at h
        exact brT (brT h)
      | true=>
        rw [e1] at h hN
        refine brF ?_
        refine l_ixT rfl ?_
        refine l_iterD e ?_
        refine lcL_map (fun x=>.bl (vlD x)) _ ?_ (fun d hd M A m=>?_) ?_
        · have:szl=16777216:=rfl;omega
        · refine brT ?_
          exact ⟨rfl,rfl,d,rfl,(pds.mem hd).kind,(pds.mem hd).pair,m⟩
        · refine l_all (bs:=ds.map vlD) rfl (bools_map vlD _) ?_
          have e2:(ds.map vlD).all id=ds.all vlD:=by rw [List.all_map];rfl
          rw [e2]
          refine l_truB ?_
          cases e3:ds.all vlD with
          | true=>exact brF (hN _ ⟨e3,rfl⟩)
          | false=>
            rw [e3] at h
            exact brT h
    · obtain ⟨e1,rfl⟩:=hs
      rw [← Bool.and_assoc,e1,Bool.true_and] at h
      refine l_ixT rfl ?_
      refine ⟨rfl,rfl,b,rfl,pl.tup.tl.hd.kind,pl.tup.tl.hd.pair,?_⟩
      have e4:(wholeD b || ratioD b)=vlD b:=rfl
      rw [e4]
      cases e5:vlD b with
      | false=>rw [e5] at h;exact brF h
      | true=>
        rw [e5] at h
        refine brT ?_
        refine l_ixT rfl ?_
        exact l_isi rfl pl.tup.tl.tl.hd.kind (by decide) h
def rOf (d:D):D:=match ratOf d with
  | some q=>rD q
  | none=>d
def normR:D→D
  | .tup [f,b,s]=>.tup [.tup (((itemsD f).getD []).map rOf),rOf b,s]
  | x=>x
theorem val_rat {d:D} (pl:Pl d) (h:vlD d=true):∃ q,ratOf d=some q∧rOf d=rD q:=by
  cases e:ratOf d with
  | some q=>exact ⟨q,rfl,by unfold rOf;rw [e]⟩
  | none=>
    obtain ⟨z1,z2⟩:=ratOf_none pl.pair e
    unfold vlD at h
    rw [z1,z2] at h;cases h
theorem row_parts {n:Int} {d:D} (h:rowB n d=true):∃ f b s ds,d=.tup [f,b,s]∧itemsD f=some ds∧(ds.length:Int)=n∧ds.all vlD=true∧vlD b=true∧isB "bool" s=true:=by
  unfold rowB at h
  split at h
  · rename_i f b s
    split at h
    · rename_i ds e
      simp only [Bool.and_eq_true,decide_eq_true_eq] at h
      exact ⟨f,b,s,ds,rfl,e,h.1,h.2.1,h.2.2.1,h.2.2.2⟩
    · cases h
  · cases h
theorem norm_good {n:Int} {d:D} (pl:Pl d) (h:rowB n d=true):Pl (normR d)∧rowB n (normR d)=true:=by
  obtain ⟨f,b,s,ds,rfl,e,el,ha,hb,hs⟩:=row_parts h
  have pds:=pl.tup.hd.items e
  have en:normR (.tup [f,b,s])=.tup [.tup (ds.map rOf),rOf b,s]:=by unfold normR;dsimp only;rw [e];rfl
  obtain ⟨q,_,eq⟩:=val_rat pl.tup.tl.hd hb
  have each:∀ x∈ds,∃ q,rOf x=rD q:=fun x hx=>let ⟨q,_,z⟩:=val_rat (pds.mem hx) (List.all_eq_true.mp ha x hx);⟨q,z⟩
  have vr:∀ q:Rat,vlD (rD q)=true:=fun q=>by unfold vlD;rw [ratioD_rD,Bool.or_true]
  rw [en]
  refine ⟨pl_tup (pls_cons (pl_tup (Pls.of fun x hx=>?_)) (pls_cons (by rw [eq];exact pl_rD q) (pls_cons pl.tup.tl.tl.hd pls_nil))),?_⟩
  · obtain ⟨y,hy,rfl⟩:=List.mem_map.mp hx
    obtain ⟨q,z⟩:=each y hy
    rw [z];exact pl_rD q
  · rw [row_eq (ds:=ds.map rOf) rfl]
    rw [List.length_map,decide_eq_true el,eq,vr,hs]
    have:(ds.map rOf).all vlD=true:=by
      rw [List.all_eq_true]
      intro x hx
      obtain ⟨y,hy,rfl⟩:=List.mem_map.mp hx
      obtain ⟨q,z⟩:=each y hy
      rw [z];exact vr q
    rw [this];rfl
abbrev prob (K:PySem.W.Frag) (n:Int) (rs:List D):D:=.ins (He.ga K "Problem") [("own_size",.int n),("own_rows",.lst rs)]
theorem enum_at:∀ (ds:List D) (k:Int) (d:D) (r:List D),enumFrom k ds=d::r→∃ x ds',ds=x::ds'∧d=.tup [.int k,x]∧r=enumFrom (k + 1) ds'
  | [],_,_,_,h=>by cases h
  | x::ds',k,d,r,h=>by
    have e:enumFrom k (x::ds')=.tup [.int k,x]::enumFrom (k + 1) ds':=rfl
    rw [e] at h
    cases h
    exact ⟨x,ds',rfl,rfl,rfl⟩
abbrev n_Problem___init__:List Str:=["self","size","rows","at","row","factors","bound","strict","factor"]
theorem sc_Problem___init__:FnScope n_Problem___init__ ["self","size","rows"] (defScope s_Problem___init__):=⟨rfl,rfl,rfl,by decide +kernel,rfl,by decide +kernel,by decide +kernel⟩
theorem ok_Problem___init__ (T:Tx P K mg base a d):FnR P w K mg base 5 (a i_Problem___init__) (d i_Problem___init__) ["self","size","rows"] (upIn K (He.ga K "Problem") fun args Q E=>∃ sz:D,∃ rs:DV,args=[.d sz,rs]∧Lent rs∧(Pl sz∧(numD 0 60 sz=false→E (.ref (He.ga K "InvalidNumber")) (xd_InvalidNumber sz))∧∀ n:Int,sz=.int n→numD 0 60 sz=true→∃ ds,itemsV rs=some ds∧Pls ds∧(∀ d∈ds,smallR d)∧ds.length≤100000∧(∀ a d b,ds=a++d::b→(∀ e∈a,rowB n e=true)→rowB n d=false→E (.ref (He.ga K "InvalidRow")) (xd_InvalidRow (.int (a.length:Int))))∧((∀ d∈ds,rowB n d=true)→Q [("own_size",.int n),("own_rows",.lst (ds.map normR))]))):=by
  have G_is_number:FnG P w K mg base 2 (a i_is_number) (d i_is_number) ["value","least","most"] (sp3 fun x lo hi Q _=>kindD x=true∧∃ l m:Int,lo=.int l∧hi=.int m∧Q (.d (.bl (numD l m x)))):=ok_is_number T
  have G_is_row:FnG P w K mg base 4 (a i_is_row) (d i_is_row) ["value","size"] (sp2 fun x y Q _=>Pl x∧smallR x∧∃ n:Int,y=.int n∧Q (.d (.bl (rowB n x)))):=ok_is_row T
  have G_ratio_of:FnG P w K mg base 3 (a i_ratio_of) (d i_ratio_of) ["value"] (sp1 fun x Q E=>pRof K x Q E):=ok_ratio_of T
  refine fnIB_of T.F_Problem___init__ sc_Problem___init__ (by rintro _ Q E ⟨sz,rs,rfl,hL_rs,h⟩;rfl) (by rintro _ Q E ⟨sz,rs,rfl,hL_rs,h⟩ x hx;simp only [List.mem_cons,List.not_mem_nil,or_false] at hx;rcases hx with rfl | rfl<;>first | exact .inl ⟨_,rfl⟩ | assumption) (fun cdv A outer s H E hr hg=>(ds_cons (ds_if (dt_not (dt_val (de_call G_is_number (hr.mono (by decide)) hg (tkOf rfl rfl rfl rfl) (B_is_number_3 T) (by rfl) T.m_is_number T.F_is_number.kp (da_cons (de_var (pv 1)) (da_cons de_int (da_cons (de_globD (by rfl) T.c_MOST_UNKNOWNS) da_nil)))))) (ds_one (ds_raise rfl (tkOf rfl rfl rfl rfl) T.x_InvalidNumber (hr.mono (by decide)) (by rfl) T.m_InvalidNumber (da_cons (de_var (pv 1)) da_nil))) ds_nil)
      (ds_cons (ds_for (passes_of rfl) rfl (di_enumV (by rfl) T.n_enumerate (de_varL (pv 2))) (dg_tup (n:=2) (K:=K) rfl (dgs_cons (dg_name (i:=3) sc_Problem___init__.nd rfl (Or.inl rfl)) (dgs_cons (dg_name (i:=4) sc_Problem___init__.nd rfl (Or.inl rfl)) dgs_nil))) (ds_one (ds_if (dt_not (dt_val (de_call G_is_row (hr.mono (by decide)) hg (tkOf rfl rfl rfl rfl) (B_is_row_2 T) (by rfl) T.m_is_row T.F_is_row.kp (da_cons (de_var (pv 4)) (da_cons (de_var (pv 1)) da_nil))))) (ds_one (ds_raise rfl (tkOf rfl rfl rfl rfl) T.x_InvalidRow (hr.mono (by decide)) (by rfl) T.m_InvalidRow (da_cons (de_var (pv 3)) da_nil))) ds_nil)))
      (ds_cons (ds_fld (K:=K) (pv 0) (de_var (pv 1)))
      (ds_one (ds_fld (K:=K) (pv 0) (de_lc (own:=[("factors",5),("bound",6),("strict",7)]) rfl sc_Problem___init__.nd (di_any (de_varL (pv 2))) (blkOk_by (own:=[("factors",5),("bound",6),("strict",7)]) (N:=n_Problem___init__) (sc:=(defScope s_Problem___init__)) (by decide +kernel)) (fun _ _ _ _ _=>(dg_tup (n:=3) (K:=K) rfl (dgs_cons (dg_name (i:=5) sc_Problem___init__.nd rfl (Or.inl rfl)) (dgs_cons (dg_name (i:=6) sc_Problem___init__.nd rfl (Or.inl rfl)) (dgs_cons (dg_name (i:=7) sc_Problem___init__.nd rfl (Or.inl rfl)) dgs_nil))))) (fun _ _ _ _ _=>dts_nil) (fun _ _ _ _ _=>(de_tup (da_cons (de_callT call_tuple_of sem_tuple (by rfl) T.n_tuple (by decide +kernel) (da_cons (de_lc (own:=[("factor",8)]) rfl sc_Problem___init__.nd (di_any (de_var (pv 5))) (blkOk_by (own:=[("factor",8)]) (N:=n_Problem___init__) (sc:=_) (by kernel_rfl)) (fun _ _ _ _ _=>(dg_name (i:=8) sc_Problem___init__.nd rfl (Or.inl rfl))) (fun _ _ _ _ _=>dts_nil) (fun _ _ _ _ _=>(de_call G_ratio_of (hr.mono (by decide)) hg takes0 (B_ratio_of_1 T) (by rfl) T.m_ratio_of T.F_ratio_of.kp (da_cons (de_var (pv 8)) da_nil)))) da_nil)) (da_cons (de_call G_ratio_of (hr.mono (by decide)) hg takes0 (B_ratio_of_1 T) (by rfl) T.m_ratio_of T.F_ratio_of.kp (da_cons (de_var (pv 6)) da_nil)) (da_cons (de_var (pv 7)) da_nil)))))))))))) (fun args Q E xx h=>?_)
  obtain ⟨sz,rs,rfl,hL_rs,h⟩:=h
  obtain ⟨psz,hE,h⟩:=h
  refine seq_cut (fun s=>∃ n:Int,sz=.int n∧numD 0 60 sz=true∧s=startD n_Problem___init__ [.own (.ins xx (He.ga K "Problem") []),.d sz,rs]) (fun N hN=>?_) (fun s hs=>?_)
  · refine ⟨rfl,rfl,sz,_,_,rfl,psz.kind,0,60,rfl,rfl,l_truB ?_⟩
    cases e:numD 0 60 sz with
    | false=>exact brT ⟨rfl,xr_InvalidNumber (hE e)⟩
    | true=>
      obtain ⟨n,rfl⟩:∃ n,sz=.int n:=by cases sz<;>first | exact ⟨_,rfl⟩ | cases e
      exact brF (hN _ ⟨n,rfl,e,rfl⟩)
  obtain ⟨n,rfl,e60,rfl⟩:=hs
  obtain ⟨ds,ei,pds,sds,lds,hx,hq⟩:=h n rfl e60
  have n60:n≤60:=by
    have z:(decide (0≤n) && decide (n≤60))=true:=e60
    simp only [Bool.and_eq_true,decide_eq_true_eq] at z
    exact z.2
  refine seq_cut (fun s=>(∀ d∈ds,rowB n d=true)∧∃ y z,s=[some (.own (.ins xx (He.ga K "Problem") [])),some (.d (.int n)),some rs,y,z,none,none,none,none]) (fun N hN=>?_) (fun s hs=>?_)
  · refine ⟨rs,rfl,hL_rs,?_⟩
    refine l_enumV ei ?_
    refine forL_ind (fun r s=>∃ (a b:List D) (y z:Option DV),ds=a++b∧(∀ e∈a,rowB n e=true)∧r=enumFrom (a.length:Int) b∧s=[some (.own (.ins xx (He.ga K "Problem") [])),some (.d (.int n)),some rs,y,z,none,none,none,none]) (fun N' d r s hN' hs=>?_) (fun s hs=>?_) _ _ ⟨[],ds,_,_,rfl,(fun _ h=>by cases h),rfl,rfl⟩
    · obtain ⟨a,b,y,z,ed,ha,er,rfl⟩:=hs
      obtain ⟨x,b',rfl,rfl,rfl⟩:=enum_at b _ _ _ er.symm
      have hm:x∈ds:=by rw [ed];simp
      refine ⟨rfl,?_⟩
      refine ⟨rfl,rfl,_,_,rfl,pds.mem hm,sds x hm,n,rfl,l_truB ?_⟩
      cases e:rowB n x with
      | false=>exact brT ⟨rfl,xr_InvalidRow (hx a x b' ed ha e)⟩
      | true=>
        refine brF (hN' _ ⟨a++[x],b',_,_,by rw [ed];simp,fun y hy=>?_,?_,rfl⟩)
        · rcases List.mem_append.mp hy with hy | hy
          · exact ha y hy
          · rw [List.mem_singleton.mp hy];exact e
        · rw [List.length_append];rfl
    · obtain ⟨a,b,y,z,ed,ha,er,rfl⟩:=hs
      have:b=[]:=by
        cases b with
        | nil=>rfl
        | cons u v=>cases er
      subst this
      rw [List.append_nil] at ed
      subst ed
      exact hN _ ⟨ha,y,z,rfl⟩
  obtain ⟨hall,y,z,rfl⟩:=hs
  refine ⟨T.cl_Problem,T.na_Problem_own_size,by show 0 < 1000;decide,?_⟩
  refine ⟨rs,rfl,hL_rs,?_⟩
  refine l_iterV ei ?_
  refine lcL_map normR _ ?_ (fun d hd M A m=>?_) ?_
  · have:szl=16777216:=rfl;omega
  · obtain ⟨f,b,s,es,rfl,e,el,ha,hb,hs⟩:=row_parts (hall d hd)
    have pd:=pds.mem hd
    have pes:=pd.tup.hd.items e
    have en:normR (.tup [f,b,s])=.tup [.tup (es.map rOf),rOf b,s]:=by unfold normR;dsimp only;rw [e];rfl
    rw [en] at m
    refine ⟨rfl,?_⟩
    refine brT ?_
    refine l_iterD e ?_
    refine lcL_map rOf _ ?_ (fun d' hd' M' A' m'=>?_) ?_
    · have:szl=16777216:=rfl;omega
    · refine brT ?_
      obtain ⟨q,eq1,eq2⟩:=val_rat (pes.mem hd') (List.all_eq_true.mp ha d' hd')
      refine ⟨rfl,rfl,d',rfl,(pes.mem hd').kind,(pes.mem hd').pair,(fun q' hq'=>?_),(fun z=>by rw [eq1] at z;cases z)⟩
      rw [eq1] at hq'
      cases hq'
      rw [eq2] at m'
      exact m'
    · refine l_tupleL (ds:=es.map rOf) rfl ?_
      obtain ⟨q,eq1,eq2⟩:=val_rat pd.tup.tl.hd hb
      refine ⟨rfl,rfl,b,rfl,pd.tup.tl.hd.kind,pd.tup.tl.hd.pair,(fun q' hq'=>?_),(fun z=>by rw [eq1] at z;cases z)⟩
      rw [eq1] at hq'
      cases hq'
      refine l_tup rfl rfl ?_
      rw [eq2] at m
      exact m
  · refine ⟨T.cl_Problem,T.na_Problem_own_rows,by show 1 < 1000;decide,?_⟩
    exact ⟨_,rfl,hq hall⟩
end
section
variable {P:Program} {w:World} {K:PySem.W.Frag} {mg:Str→Option Value} {base:Heap} {a:Nat→Addr} {d:Nat→FuncData}
abbrev shap (d:D):Prop:=∃ p,d.py=some p∧SeqAt.shaped p=true
abbrev n_Problem___eq__:List Str:=["self","other"]
theorem sc_Problem___eq__:FnScope n_Problem___eq__ ["self","other"] (defScope s_Problem___eq__):=⟨rfl,rfl,rfl,by decide +kernel,rfl,by decide +kernel,by decide +kernel⟩
theorem ok_Problem___eq__ (T:Tx P K mg base a d):FnG P w K mg base 1 (a i_Problem___eq__) (d i_Problem___eq__) ["self","other"] (sp2 fun me ot Q _=>∃ (n:Int) (rs:List D),me=prob K n rs∧shap (.lst rs)∧((∃ (m:Int) (ss:List D),ot=prob K m ss∧shap (.lst ss)∧Q (.d (.bl (decide (n=m) && eqDs rs ss))))∨((tyD ot).isSome=true∧Q (.d (.bl false))))):=by
  refine fn2_of T.F_Problem___eq__ sc_Problem___eq__ (fun cdv A outer s H E hr hg=>(ds_one (ds_ret (de_and (de_callB call_isi (sem_isiC (K:=K) (C:=He.ga K "Problem")) (by rfl) T.n_isinstance (by decide +kernel) (da_cons (de_see (pv 1)) (da_cons (de_glob (v:=.ref (He.ga K "Problem")) (d:=.raw (.ref (He.ga K "Problem"))) (by rfl) T.m_Problem rfl (fun _=>.raw _)) da_nil))) (de_and (de_cmp (op_eqAll hr.units) sem_eq (de_fld (K:=K) (de_see (pv 0))) (de_fld (K:=K) (de_see (pv 1))) (nomark _)) (de_one (de_cmp (op_eqAll hr.units) sem_eq (de_fld (K:=K) (de_see (pv 0))) (de_fld (K:=K) (de_see (pv 1))) (nomark _)))))))) (fun me ot Q E h=>?_)
  replace h:∃ (n:Int) (rs:List D),me=prob K n rs∧shap (.lst rs)∧((∃ (m:Int) (ss:List D),ot=prob K m ss∧shap (.lst ss)∧Q (.d (.bl (decide (n=m) && eqDs rs ss))))∨((tyD ot).isSome=true∧Q (.d (.bl false)))):=h
  obtain ⟨n,rs,rfl,hs,h⟩:=h
  rcases h with ⟨m,ss,rfl,hs2,h⟩ | ⟨hk,h⟩
  · refine l_isiC1 T.ci_Problem rfl ?_
    refine brT ?_
    refine l_own T.cl_Problem T.na_Problem_own_size rfl ?_
    refine l_own T.cl_Problem T.na_Problem_own_size rfl ?_
    refine l_eqI ?_
    cases e:decide (n=m) with
    | false=>rw [e] at h;exact brF h
    | true=>
      rw [e] at h
      refine brT ?_
      refine l_own T.cl_Problem T.na_Problem_own_rows rfl ?_
      refine l_own T.cl_Problem T.na_Problem_own_rows rfl ?_
      refine l_eqE rfl rfl hs hs2 ?_
      rw [show eqD (.lst rs) (.lst ss)=eqDs rs ss by rw [eqD]]
      exact h
  · refine l_isiC0 T.ci_Problem (by cases ot<;>first | rfl | cases hk) rfl hk ?_
    exact brF h
mutual
def soT:D→Bool
  | .lst ds=>soTs ds
  | .tup ds=>D.solL ds
  | _=>true
def soTs:List D→Bool
  | []=>true
  | d::r=>soT d && soTs r
end
theorem soTs_mem:∀ {ds:List D} {d:D},soTs ds=true→d∈ds→soT d=true
  | x::r,d,h,hd=>by
    rw [soTs,Bool.and_eq_true] at h
    rcases List.mem_cons.mp hd with rfl | hd
    · exact h.1
    · exact soTs_mem h.2 hd
theorem soT_sol {d:D} (h:d.sol=true):soT d=true:=by
  cases d with
  | lst ds=>rw [D.sol] at h;cases h
  | tup ds=>rw [soT];rw [D.sol] at h;exact h
  | _=>rw [soT]<;>(intros;first | rfl | contradiction)
theorem nks_memN:∀ {ds:List D} {d:D},nks ds=true→d∈ds→nk d=true
  | x::r,d,h,hd=>by
    have h':(nk x && nks r)=true:=h
    rw [Bool.and_eq_true] at h'
    rcases List.mem_cons.mp hd with rfl | hd
    · exact h'.1
    · exact nks_memN h'.2 hd
abbrev n_own_copy:List Str:=["value","one"]
theorem sc_own_copy:FnScope n_own_copy ["value"] (defScope s_own_copy):=⟨rfl,rfl,rfl,by decide +kernel,rfl,by decide +kernel,by decide +kernel⟩
def rs_own_copy (K:PySem.W.Frag):Nat→SpN
  | 0=>fun _ _ _=>False
  | k + 1=>fun args Q E=>∃ x:D,args=[.d x]∧(Sm 267 k 1000000 x∧nk x=true∧soT x=true∧∀ t:FT,t.d=x→t.sol=true→Q t)
theorem ok_own_copy (T:Tx P K mg base a d) (k:Nat):FnR P w K mg base (k) (a i_own_copy) (d i_own_copy) ["value"] (upSN K (rs_own_copy K k)):=by
  induction k with
  | zero=>exact FnR.neverN
  | succ k G_own_copy=>
    refine fnN_of T.F_own_copy sc_own_copy (by rintro _ Q E ⟨x,rfl,h⟩;rfl) (fun args Q E h=>no_seeN (by obtain ⟨x,rfl,h⟩:=h;intro x hx;simp only [List.mem_cons,List.not_mem_nil,or_false] at hx;rcases hx with rfl<;>exact fun _ z=>by cases z)) (fun cdv A outer s H E hr hg=>(fss_cons (fs_if (dt_val (de_callB call_isi sem_isi (by rfl) T.n_isinstance (by decide +kernel) (da_cons (de_see (pv 0)) (da_cons (de_ty (T:="list") (by rfl) T.n_list (by decide +kernel)) da_nil)))) (fss_one (fs_ret (fe_dn (dn_lc (own:=[("one",1)]) rfl sc_own_copy.nd (di_any (de_var (pv 0))) (blkOk_by (own:=[("one",1)]) (N:=n_own_copy) (sc:=(defScope s_own_copy)) (by decide +kernel)) (fun _ _ _ _ _=>(dg_name (i:=1) sc_own_copy.nd rfl (Or.inl rfl))) (fun _ _ _ _ _=>dts_nil) (fun _ _ _ _ _=>(dn_call G_own_copy (hr.mono (by omega)) hg takes0 (B_own_copy_1 T) (by rfl) T.m_own_copy T.F_own_copy.kp (da_cons (de_var (pv 1)) da_nil))))))) fss_nil)
        (fss_one (fs_ret (fe_dn (dn_leaf (de_ifE (dt_val (de_callB call_isi sem_isi (by rfl) T.n_isinstance (by decide +kernel) (da_cons (de_see (pv 0)) (da_cons (de_ty (T:="tuple") (by rfl) T.n_tuple (by decide +kernel)) da_nil)))) (de_callT call_tuple_of sem_tuple (by rfl) T.n_tuple (by decide +kernel) (da_cons (de_lc (own:=[("one",1)]) rfl sc_own_copy.nd (di_any (de_var (pv 0))) (blkOk_by (own:=[("one",1)]) (N:=n_own_copy) (sc:=(defScope s_own_copy)) (by decide +kernel)) (fun _ _ _ _ _=>(dg_name (i:=1) sc_own_copy.nd rfl (Or.inl rfl))) (fun _ _ _ _ _=>dts_nil) (fun _ _ _ _ _=>(de_dn (dn_call G_own_copy (hr.mono (by omega)) hg takes0 (B_own_copy_1 T) (by rfl) T.m_own_copy T.F_own_copy.kp (da_cons (de_var (pv 1)) da_nil))))) da_nil)) (de_var (pv 0))))))))) (fun args Q E h=>?_)
    obtain ⟨x,rfl,h⟩:=h
    obtain ⟨hs,nx,sx,h⟩:=h
    have hz:szl=16777216:=rfl
    refine l_isi rfl (hs.pl nx).kind (by decide) ?_
    cases x with
    | lst ds=>
      refine l_truB (brT ?_)
      cases k with
      | zero=>exact hs.lst0.elim
      | succ k=>
        have hm:=hs.unlst
        rw [soT] at sx
        refine l_iterL ?_
        refine lcW_map (fun d=>d) [some (.d (.lst ds)),none] (by have:=hm.len;omega) (fun d hd M A m=>?_) (fun ts e1 e2 C=>h _ (by rw [d_lst,e1,List.map_id']) (by rw [sol_lst];exact e2))
        exact brT ⟨rfl,rfl,d,rfl,hm.mem hd,nks_memN nx hd,soTs_mem sx hd,fun t et es=>m t et es⟩
    | tup ds=>
      refine l_truB (brF ?_)
      refine l_isi rfl (hs.pl nx).kind (by decide) ?_
      refine l_truB (brT ?_)
      cases k with
      | zero=>exact hs.tup0.elim
      | succ k=>
        have hm:=hs.untup
        rw [soT] at sx
        refine l_iterT ?_
        refine lcL_map (fun d=>d) _ (by have:=hm.len;omega) (fun d hd M A m=>?_) ?_
        · refine brT ⟨rfl,rfl,d,rfl,hm.mem hd,nks_memN nx hd,soT_sol ((dsolL_all ds).mp sx d hd),fun t et es=>?_⟩
          dsimp only
          rw [et]
          exact m
        · rw [List.map_id']
          exact l_tupleL (ds:=ds) rfl ⟨_,rfl,h _ (by rw [FT.d]) (by rw [FT.sol,D.sol];exact sx)⟩
    | ins _ _=>have:=hs.pl nx;rw [Pl] at this;exact this.elim
    | dk _=>have:=hs.pl nx;rw [Pl] at this;exact this.elim
    | dt _=>have:=hs.pl nx;rw [Pl] at this;exact this.elim
    | any=>have:=hs.pl nx;rw [Pl] at this;exact this.elim
    | raw _=>have:=hs.pl nx;rw [Pl] at this;exact this.elim
    | kt _=>cases nx
    | _=>
      refine l_truB (brF ?_)
      refine l_isi rfl (hs.pl nx).kind (by decide) ?_
      exact l_truB (brF ⟨_,rfl,h _ (by rw [FT.d]) rfl⟩)
theorem nk_itemsN {d:D} {ds:List D} (h:nk d=true) (e:itemsD d=some ds):∀ x∈ds,nk x=true:=by
  cases d with
  | lst _=>cases e;exact fun x hx=>nks_memN h hx
  | tup _=>cases e;exact fun x hx=>nks_memN h hx
  | _=>cases e
theorem soT_items {d:D} {ds:List D} (h:soT d=true) (e:itemsD d=some ds):∀ x∈ds,soT x=true:=by
  cases d with
  | lst _=>cases e;rw [soT] at h;exact fun x hx=>soTs_mem h hx
  | tup _=>cases e;rw [soT] at h;exact fun x hx=>soT_sol ((dsolL_all _).mp h x hx)
  | _=>cases e
abbrev n_as_list:List Str:=["value","one"]
theorem sc_as_list:FnScope n_as_list ["value"] (defScope s_as_list):=⟨rfl,rfl,rfl,by decide +kernel,rfl,by decide +kernel,by decide +kernel⟩
theorem ok_as_list (T:Tx P K mg base a d):FnR P w K mg base 9 (a i_as_list) (d i_as_list) ["value"] (upSN K (fun args Q E=>∃ x:D,args=[.d x]∧(Sm 267 7 1000000 x∧nk x=true∧soT x=true∧(∀ ds,itemsD x=some ds→∀ t:FT,t.d=.lst ds→t.sol=true→Q t)∧(itemsD x=none→Q (.leaf x))))):=by
  have G_own_copy:FnR P w K mg base 8 (a i_own_copy) (d i_own_copy) ["value"] (upSN K (rs_own_copy K 8)):=ok_own_copy T 8
  refine fnN_of T.F_as_list sc_as_list (by rintro _ Q E ⟨x,rfl,h⟩;rfl) (fun args Q E h=>no_seeN (by obtain ⟨x,rfl,h⟩:=h;intro x hx;simp only [List.mem_cons,List.not_mem_nil,or_false] at hx;rcases hx with rfl<;>first | assumption | exact fun _ z=>by cases z)) (fun cdv A outer s H E hr hg=>(fss_one (fs_ret (fe_dn (dn_ifE (dt_val (de_callB call_isiS sem_isiT (by rfl) T.n_isinstance (by decide +kernel) (da_cons (de_see (pv 0)) (da_cons (de_tup (da_cons (de_ty (T:="list") (by rfl) T.n_list (by decide +kernel)) (da_cons (de_ty (T:="tuple") (by rfl) T.n_tuple (by decide +kernel)) da_nil))) da_nil)))) (dn_lc (own:=[("one",1)]) rfl sc_as_list.nd (di_any (de_var (pv 0))) (blkOk_by (own:=[("one",1)]) (N:=n_as_list) (sc:=(defScope s_as_list)) (by decide +kernel)) (fun _ _ _ _ _=>(dg_name (i:=1) sc_as_list.nd rfl (Or.inl rfl))) (fun _ _ _ _ _=>dts_nil) (fun _ _ _ _ _=>(dn_call G_own_copy (hr.mono (by decide)) hg takes0 (B_own_copy_1 T) (by rfl) T.m_own_copy T.F_own_copy.kp (da_cons (de_var (pv 1)) da_nil)))) (dn_leaf (de_var (pv 0)))))))) (fun args Q E h=>?_)
  obtain ⟨x,rfl,h⟩:=h
  obtain ⟨hs,nx,sx,h1,h2⟩:=h
  have hz:szl=16777216:=rfl
  have hk:kindD x=true:=Pl.kind (hs.pl nx)
  refine l_tup rfl rfl ?_
  refine l_isis (Ts:=["list","tuple"]) rfl hk rfl (by decide) ?_
  rw [isBs_seq x (hs.pl nx)]
  cases e:itemsD x with
  | some ds=>
    refine l_truB (brT ?_)
    have hm:=hs.items e
    refine l_iterV e ?_
    refine lcW_map (fun d=>d) [some (.d x),none] (by have:=hm.len;omega) (fun d hd M A m=>?_) (fun ts e1 e2 C=>h1 ds e _ (by rw [d_lst,e1,List.map_id']) (by rw [sol_lst];exact e2))
    exact brT ⟨rfl,rfl,d,rfl,(hm.mem hd).mono (by decide) (by decide),nk_itemsN nx e d hd,soT_items sx e d hd,fun t et es=>m t et es⟩
  | none=>
    refine l_truB (brF ?_)
    exact ⟨_,rfl,h2 e⟩
def kindsL:List (Str × Str):=[("Answer","open"),("Solved","solved"),("Barred","barred"),("Endless","endless")]
def asv (x:D):D:=match itemsD x with
  | some ds=>.lst ds
  | none=>x
abbrev AsOk (x:D):Prop:=Sm 267 7 1000000 x∧nk x=true∧soT x=true
theorem AsOk.sol {x:D} (h:AsOk x) (e:itemsD x=none):x.sol=true:=by
  obtain ⟨hs,nx,_⟩:=h
  have pl:=hs.pl nx
  cases x with
  | lst _=>cases e
  | tup _=>cases e
  | ins _ _=>rw [Pl] at pl;exact pl.elim
  | dk _=>rw [Pl] at pl;exact pl.elim
  | dt _=>rw [Pl] at pl;exact pl.elim
  | _=>rw [D.sol]<;>(intros;contradiction)
theorem asl_of {x:D} {Q:FT→Prop} (ok:AsOk x) (h:∀ t:FT,t.d=asv x→t.sol=true→Q t):Sm 267 7 1000000 x∧nk x=true∧soT x=true∧(∀ ds,itemsD x=some ds→∀ t:FT,t.d=.lst ds→t.sol=true→Q t)∧(itemsD x=none→Q (.leaf x)):=
  ⟨ok.1,ok.2.1,ok.2.2,fun ds e t h1 h2=>h t (by rw [h1];unfold asv;rw [e]) h2,fun e=>h (.leaf x) (by rw [FT.d];unfold asv;rw [e]) (by rw [FT.sol];exact ok.sol e)⟩
abbrev n_Answer___init__:List Str:=["self","problem"]
theorem sc_Answer___init__:FnScope n_Answer___init__ ["self","problem"] (defScope s_Answer___init__):=⟨rfl,rfl,rfl,by decide +kernel,rfl,by decide +kernel,by decide +kernel⟩
theorem ok_Answer___init__ (T:Tx P K mg base a d):FnR P w K mg base 1 (a i_Answer___init__) (d i_Answer___init__) ["self","problem"] (upIN K (He.ga K "Answer") (fun args Q E=>∃ pr:D,args=[.d pr]∧(∀ a,Q (.ins a (He.ga K "Answer") [("own_problem",.leaf pr)])))):=by
  refine fnIN_of T.F_Answer___init__ sc_Answer___init__ (by rintro _ Q E ⟨pr,rfl,h⟩;rfl) (fun args Q E h=>no_seeN (by obtain ⟨pr,rfl,h⟩:=h;intro x hx;simp only [List.mem_cons,List.not_mem_nil,or_false] at hx;rcases hx with rfl<;>first | assumption | exact fun _ z=>by cases z)) (fun cdv A outer s H E hr hg=>(fss_one (fs_fld T.cl_Answer T.na_Answer_own_problem (fp_var (pv 0)) (fe_dn (dn_leaf (de_var (pv 1))))))) (fun args Q E xx h=>?_)
  obtain ⟨pr,rfl,h⟩:=h
  exact ⟨_,rfl,xx,rfl,[0],_,rfl,by decide,rfl,_,List.mem_cons_self ..,h xx⟩
theorem ok_Answer___init____Solved (T:Tx P K mg base a d):FnR P w K mg base 1 (a i_Answer___init__) (d i_Answer___init__) ["self","problem"] (upIN K (He.ga K "Solved") (fun args Q E=>∃ pr:D,args=[.d pr]∧(∀ a,Q (.ins a (He.ga K "Solved") [("own_problem",.leaf pr)])))):=by
  refine fnIN_of T.F_Answer___init__ sc_Answer___init__ (by rintro _ Q E ⟨pr,rfl,h⟩;rfl) (fun args Q E h=>no_seeN (by obtain ⟨pr,rfl,h⟩:=h;intro x hx;simp only [List.mem_cons,List.not_mem_nil,or_false] at hx;rcases hx with rfl<;>first | assumption | exact fun _ z=>by cases z)) (fun cdv A outer s H E hr hg=>(fss_one (fs_fld T.cl_Solved T.na_Solved_own_problem (fp_var (pv 0)) (fe_dn (dn_leaf (de_var (pv 1))))))) (fun args Q E xx h=>?_)
  obtain ⟨pr,rfl,h⟩:=h
  exact ⟨_,rfl,xx,rfl,[0],_,rfl,by decide,rfl,_,List.mem_cons_self ..,h xx⟩
theorem ok_Answer___init____Barred (T:Tx P K mg base a d):FnR P w K mg base 1 (a i_Answer___init__) (d i_Answer___init__) ["self","problem"] (upIN K (He.ga K "Barred") (fun args Q E=>∃ pr:D,args=[.d pr]∧(∀ a,Q (.ins a (He.ga K "Barred") [("own_problem",.leaf pr)])))):=by
  refine fnIN_of T.F_Answer___init__ sc_Answer___init__ (by rintro _ Q E ⟨pr,rfl,h⟩;rfl) (fun args Q E h=>no_seeN (by obtain ⟨pr,rfl,h⟩:=h;intro x hx;simp only [List.mem_cons,List.not_mem_nil,or_false] at hx;rcases hx with rfl<;>first | assumption | exact fun _ z=>by cases z)) (fun cdv A outer s H E hr hg=>(fss_one (fs_fld T.cl_Barred T.na_Barred_own_problem (fp_var (pv 0)) (fe_dn (dn_leaf (de_var (pv 1))))))) (fun args Q E xx h=>?_)
  obtain ⟨pr,rfl,h⟩:=h
  exact ⟨_,rfl,xx,rfl,[0],_,rfl,by decide,rfl,_,List.mem_cons_self ..,h xx⟩
theorem ok_Answer___init____Top (T:Tx P K mg base a d):FnR P w K mg base 1 (a i_Answer___init__) (d i_Answer___init__) ["self","problem"] (upIN K (He.ga K "Top") (fun args Q E=>∃ pr:D,args=[.d pr]∧(∀ a,Q (.ins a (He.ga K "Top") [("own_problem",.leaf pr)])))):=by
  refine fnIN_of T.F_Answer___init__ sc_Answer___init__ (by rintro _ Q E ⟨pr,rfl,h⟩;rfl) (fun args Q E h=>no_seeN (by obtain ⟨pr,rfl,h⟩:=h;intro x hx;simp only [List.mem_cons,List.not_mem_nil,or_false] at hx;rcases hx with rfl<;>first | assumption | exact fun _ z=>by cases z)) (fun cdv A outer s H E hr hg=>(fss_one (fs_fld T.cl_Top T.na_Top_own_problem (fp_var (pv 0)) (fe_dn (dn_leaf (de_var (pv 1))))))) (fun args Q E xx h=>?_)
  obtain ⟨pr,rfl,h⟩:=h
  exact ⟨_,rfl,xx,rfl,[0],_,rfl,by decide,rfl,_,List.mem_cons_self ..,h xx⟩
theorem ok_Answer___init____Endless (T:Tx P K mg base a d):FnR P w K mg base 1 (a i_Answer___init__) (d i_Answer___init__) ["self","problem"] (upIN K (He.ga K "Endless") (fun args Q E=>∃ pr:D,args=[.d pr]∧(∀ a,Q (.ins a (He.ga K "Endless") [("own_problem",.leaf pr)])))):=by
  refine fnIN_of T.F_Answer___init__ sc_Answer___init__ (by rintro _ Q E ⟨pr,rfl,h⟩;rfl) (fun args Q E h=>no_seeN (by obtain ⟨pr,rfl,h⟩:=h;intro x hx;simp only [List.mem_cons,List.not_mem_nil,or_false] at hx;rcases hx with rfl<;>first | assumption | exact fun _ z=>by cases z)) (fun cdv A outer s H E hr hg=>(fss_one (fs_fld T.cl_Endless T.na_Endless_own_problem (fp_var (pv 0)) (fe_dn (dn_leaf (de_var (pv 1))))))) (fun args Q E xx h=>?_)
  obtain ⟨pr,rfl,h⟩:=h
  exact ⟨_,rfl,xx,rfl,[0],_,rfl,by decide,rfl,_,List.mem_cons_self ..,h xx⟩
abbrev n_Answer_problem:List Str:=["self"]
theorem sc_Answer_problem:FnScope n_Answer_problem ["self"] (defScope s_Answer_problem):=⟨rfl,rfl,rfl,by decide +kernel,rfl,by decide +kernel,by decide +kernel⟩
theorem ok_Answer_problem (T:Tx P K mg base a d):FnG P w K mg base 1 (a i_Answer_problem) (d i_Answer_problem) ["self"] (sp1 fun me Q _=>∃ (C:Addr) (fs:List (Str × D)) (d:D),me=.ins C fs∧Cls K C∧NoAttr K C "own_problem"∧fs.lookup ("own_problem":Str)=some d∧Q (.d d)):=by
  refine fn1_of T.F_Answer_problem sc_Answer_problem (fun cdv A outer s H E hr hg=>(ds_one (ds_ret (de_fld (K:=K) (de_see (pv 0)))))) (fun me Q E h=>?_)
  replace h:∃ (C:Addr) (fs:List (Str × D)) (d:D),me=.ins C fs∧Cls K C∧NoAttr K C "own_problem"∧fs.lookup ("own_problem":Str)=some d∧Q (.d d):=h
  obtain ⟨C,fs,d,rfl,c,na,e,h⟩:=h
  exact l_own c na e h
abbrev n_Answer_holds:List Str:=["self"]
theorem sc_Answer_holds:FnScope n_Answer_holds ["self"] (defScope s_Answer_holds):=⟨rfl,rfl,rfl,by decide +kernel,rfl,by decide +kernel,by decide +kernel⟩
theorem ok_Answer_holds (T:Tx P K mg base a d):FnG P w K mg base 1 (a i_Answer_holds) (d i_Answer_holds) ["self"] (sp1 fun me Q _=>Q (.d (.bl false))):=by
  refine fn1_of T.F_Answer_holds sc_Answer_holds (fun cdv A outer s H E hr hg=>(ds_one (ds_ret de_bl))) (fun me Q E h=>?_)
  replace h:Q (.d (.bl false)):=h
  exact h
abbrev n_Answer___bool__:List Str:=["self"]
theorem sc_Answer___bool__:FnScope n_Answer___bool__ ["self"] (defScope s_Answer___bool__):=⟨rfl,rfl,rfl,by decide +kernel,rfl,by decide +kernel,by decide +kernel⟩
theorem ok_Answer___bool__ (T:Tx P K mg base a d):FnG P w K mg base 1 (a i_Answer___bool__) (d i_Answer___bool__) ["self"] (sp1 fun me Q _=>Q (.d (.bl false))):=by
  refine fn1_of T.F_Answer___bool__ sc_Answer___bool__ (fun cdv A outer s H E hr hg=>(ds_one (ds_ret de_bl))) (fun me Q E h=>?_)
  replace h:Q (.d (.bl false)):=h
  exact h
abbrev n_Solved___init__:List Str:=["self","problem","values"]
theorem sc_Solved___init__:KScope n_Solved___init__ ["self","problem","values"] (defScope s_Solved___init__):=⟨rfl,rfl,rfl,by decide +kernel,rfl,by decide +kernel,by decide +kernel,by decide +kernel,by decide +kernel,by decide +kernel⟩
theorem ok_Solved___init__ (T:Tx P K mg base a d):FnR P w K mg base 10 (a i_Solved___init__) (d i_Solved___init__) ["self","problem","values"] (upIN K (He.ga K "Solved") (fun args Q E=>∃ pr:D,∃ vs:D,args=[.d pr,.d vs]∧(AsOk vs∧∀ t:FT,t.d=asv vs→t.sol=true→∀ a,Q (.ins a (He.ga K "Solved") [("own_problem",.leaf pr),("own_values",t)])))):=by
  have G_Answer___init____Solved:FnR P w K mg base 1 (a i_Answer___init__) (d i_Answer___init__) ["self","problem"] (upIN K (He.ga K "Solved") (fun args Q E=>∃ pr:D,args=[.d pr]∧(∀ a,Q (.ins a (He.ga K "Solved") [("own_problem",.leaf pr)])))):=ok_Answer___init____Solved T
  have G_as_list:FnR P w K mg base 9 (a i_as_list) (d i_as_list) ["value"] (upSN K (fun args Q E=>∃ x:D,args=[.d x]∧(Sm 267 7 1000000 x∧nk x=true∧soT x=true∧(∀ ds,itemsD x=some ds→∀ t:FT,t.d=.lst ds→t.sol=true→Q t)∧(itemsD x=none→Q (.leaf x))))):=ok_as_list T
  refine fnIS_of T.F_Solved___init__ sc_Solved___init__ ⟨_,rfl,rfl⟩ T.su_file T.su_top T.n_super T.su_Solved_Solved G_Answer___init____Solved (by decide) (B_Answer___init___2 T) rfl (by rintro _ Q E ⟨pr,vs,rfl,h⟩;rfl) (fun args Q E h=>no_seeN (by obtain ⟨pr,vs,rfl,h⟩:=h;intro x hx;simp only [List.mem_cons,List.not_mem_nil,or_false] at hx;rcases hx with rfl | rfl<;>first | assumption | exact fun _ z=>by cases z)) (fun _=>rfl) (fun _=>rfl) (fun _=>⟨_,rfl⟩) (fun qual cda cc A outer s H E hr hg=>⟨(da_cons (de_var (pv 1)) da_nil),(fss_one (fs_fld T.cl_Solved T.na_Solved_own_values (fp_var (pv 0)) (fe_dn (dn_call G_as_list (hr.mono (by decide)) hg (tkOf rfl rfl rfl rfl) (B_as_list_1 T) (by rfl) T.m_as_list T.F_as_list.kp (da_cons (de_var (pv 2)) da_nil)))))⟩) (fun args Q E xx h=>?_)
  obtain ⟨pr,vs,rfl,h⟩:=h
  obtain ⟨ok,h⟩:=h
  refine ⟨rfl,rfl,rfl,pr,rfl,fun a ea=>?_⟩
  obtain rfl:a=xx:=by unfold FT.top at ea;cases ea;rfl
  refine ⟨rfl,rfl,vs,rfl,asl_of ok fun t h1 h2=>?_⟩
  exact ⟨a,rfl,[0],_,rfl,by show 1 < 1000;decide,rfl,_,List.mem_cons_self ..,h t h1 h2 a⟩
theorem ok_Solved___init____Top (T:Tx P K mg base a d):FnR P w K mg base 10 (a i_Solved___init__) (d i_Solved___init__) ["self","problem","values"] (upIN K (He.ga K "Top") (fun args Q E=>∃ pr:D,∃ vs:D,args=[.d pr,.d vs]∧(AsOk vs∧∀ t:FT,t.d=asv vs→t.sol=true→∀ a,Q (.ins a (He.ga K "Top") [("own_problem",.leaf pr),("own_values",t)])))):=by
  have G_Answer___init____Top:FnR P w K mg base 1 (a i_Answer___init__) (d i_Answer___init__) ["self","problem"] (upIN K (He.ga K "Top") (fun args Q E=>∃ pr:D,args=[.d pr]∧(∀ a,Q (.ins a (He.ga K "Top") [("own_problem",.leaf pr)])))):=ok_Answer___init____Top T
  have G_as_list:FnR P w K mg base 9 (a i_as_list) (d i_as_list) ["value"] (upSN K (fun args Q E=>∃ x:D,args=[.d x]∧(Sm 267 7 1000000 x∧nk x=true∧soT x=true∧(∀ ds,itemsD x=some ds→∀ t:FT,t.d=.lst ds→t.sol=true→Q t)∧(itemsD x=none→Q (.leaf x))))):=ok_as_list T
  refine fnIS_of T.F_Solved___init__ sc_Solved___init__ ⟨_,rfl,rfl⟩ T.su_file T.su_top T.n_super T.su_Top_Solved G_Answer___init____Top (by decide) (B_Answer___init___2 T) rfl (by rintro _ Q E ⟨pr,vs,rfl,h⟩;rfl) (fun args Q E h=>no_seeN (by obtain ⟨pr,vs,rfl,h⟩:=h;intro x hx;simp only [List.mem_cons,List.not_mem_nil,or_false] at hx;rcases hx with rfl | rfl<;>first | assumption | exact fun _ z=>by cases z)) (fun _=>rfl) (fun _=>rfl) (fun _=>⟨_,rfl⟩) (fun qual cda cc A outer s H E hr hg=>⟨(da_cons (de_var (pv 1)) da_nil),(fss_one (fs_fld T.cl_Top T.na_Top_own_values (fp_var (pv 0)) (fe_dn (dn_call G_as_list (hr.mono (by decide)) hg (tkOf rfl rfl rfl rfl) (B_as_list_1 T) (by rfl) T.m_as_list T.F_as_list.kp (da_cons (de_var (pv 2)) da_nil)))))⟩) (fun args Q E xx h=>?_)
  obtain ⟨pr,vs,rfl,h⟩:=h
  obtain ⟨ok,h⟩:=h
  refine ⟨rfl,rfl,rfl,pr,rfl,fun a ea=>?_⟩
  obtain rfl:a=xx:=by unfold FT.top at ea;cases ea;rfl
  refine ⟨rfl,rfl,vs,rfl,asl_of ok fun t h1 h2=>?_⟩
  exact ⟨a,rfl,[0],_,rfl,by show 1 < 1000;decide,rfl,_,List.mem_cons_self ..,h t h1 h2 a⟩
theorem ok_Solved___init____Endless (T:Tx P K mg base a d):FnR P w K mg base 10 (a i_Solved___init__) (d i_Solved___init__) ["self","problem","values"] (upIN K (He.ga K "Endless") (fun args Q E=>∃ pr:D,∃ vs:D,args=[.d pr,.d vs]∧(AsOk vs∧∀ t:FT,t.d=asv vs→t.sol=true→∀ a,Q (.ins a (He.ga K "Endless") [("own_problem",.leaf pr),("own_values",t)])))):=by
  have G_Answer___init____Endless:FnR P w K mg base 1 (a i_Answer___init__) (d i_Answer___init__) ["self","problem"] (upIN K (He.ga K "Endless") (fun args Q E=>∃ pr:D,args=[.d pr]∧(∀ a,Q (.ins a (He.ga K "Endless") [("own_problem",.leaf pr)])))):=ok_Answer___init____Endless T
  have G_as_list:FnR P w K mg base 9 (a i_as_list) (d i_as_list) ["value"] (upSN K (fun args Q E=>∃ x:D,args=[.d x]∧(Sm 267 7 1000000 x∧nk x=true∧soT x=true∧(∀ ds,itemsD x=some ds→∀ t:FT,t.d=.lst ds→t.sol=true→Q t)∧(itemsD x=none→Q (.leaf x))))):=ok_as_list T
  refine fnIS_of T.F_Solved___init__ sc_Solved___init__ ⟨_,rfl,rfl⟩ T.su_file T.su_top T.n_super T.su_Endless_Solved G_Answer___init____Endless (by decide) (B_Answer___init___2 T) rfl (by rintro _ Q E ⟨pr,vs,rfl,h⟩;rfl) (fun args Q E h=>no_seeN (by obtain ⟨pr,vs,rfl,h⟩:=h;intro x hx;simp only [List.mem_cons,List.not_mem_nil,or_false] at hx;rcases hx with rfl | rfl<;>first | assumption | exact fun _ z=>by cases z)) (fun _=>rfl) (fun _=>rfl) (fun _=>⟨_,rfl⟩) (fun qual cda cc A outer s H E hr hg=>⟨(da_cons (de_var (pv 1)) da_nil),(fss_one (fs_fld T.cl_Endless T.na_Endless_own_values (fp_var (pv 0)) (fe_dn (dn_call G_as_list (hr.mono (by decide)) hg (tkOf rfl rfl rfl rfl) (B_as_list_1 T) (by rfl) T.m_as_list T.F_as_list.kp (da_cons (de_var (pv 2)) da_nil)))))⟩) (fun args Q E xx h=>?_)
  obtain ⟨pr,vs,rfl,h⟩:=h
  obtain ⟨ok,h⟩:=h
  refine ⟨rfl,rfl,rfl,pr,rfl,fun a ea=>?_⟩
  obtain rfl:a=xx:=by unfold FT.top at ea;cases ea;rfl
  refine ⟨rfl,rfl,vs,rfl,asl_of ok fun t h1 h2=>?_⟩
  exact ⟨a,rfl,[0],_,rfl,by show 1 < 1000;decide,rfl,_,List.mem_cons_self ..,h t h1 h2 a⟩
abbrev n_Solved_numbers:List Str:=["self"]
theorem sc_Solved_numbers:FnScope n_Solved_numbers ["self"] (defScope s_Solved_numbers):=⟨rfl,rfl,rfl,by decide +kernel,rfl,by decide +kernel,by decide +kernel⟩
theorem ok_Solved_numbers (T:Tx P K mg base a d):FnR P w K mg base 10 (a i_Solved_numbers) (d i_Solved_numbers) ["self"] (upSN K (fun args Q E=>∃ me:D,args=[.d me]∧(∃ (C:Addr) (fs:List (Str × D)) (d:D),me=.ins C fs∧Cls K C∧NoAttr K C "own_values"∧fs.lookup ("own_values":Str)=some d∧AsOk d∧∀ t:FT,t.d=asv d→t.sol=true→Q t))):=by
  have G_as_list:FnR P w K mg base 9 (a i_as_list) (d i_as_list) ["value"] (upSN K (fun args Q E=>∃ x:D,args=[.d x]∧(Sm 267 7 1000000 x∧nk x=true∧soT x=true∧(∀ ds,itemsD x=some ds→∀ t:FT,t.d=.lst ds→t.sol=true→Q t)∧(itemsD x=none→Q (.leaf x))))):=ok_as_list T
  refine fnN_of T.F_Solved_numbers sc_Solved_numbers (by rintro _ Q E ⟨me,rfl,h⟩;rfl) (fun args Q E h=>no_seeN (by obtain ⟨me,rfl,h⟩:=h;intro x hx;simp only [List.mem_cons,List.not_mem_nil,or_false] at hx;rcases hx with rfl<;>first | assumption | exact fun _ z=>by cases z)) (fun cdv A outer s H E hr hg=>(fss_one (fs_ret (fe_dn (dn_call G_as_list (hr.mono (by decide)) hg (tkOf rfl rfl rfl rfl) (B_as_list_1 T) (by rfl) T.m_as_list T.F_as_list.kp (da_cons (de_fld (K:=K) (de_see (pv 0))) da_nil)))))) (fun args Q E h=>?_)
  obtain ⟨me,rfl,h⟩:=h
  obtain ⟨C,fs,d,rfl,c,na,e,ok,h⟩:=h
  refine l_own c na e ?_
  exact ⟨rfl,rfl,d,rfl,asl_of ok h⟩
abbrev n_Solved___bool__:List Str:=["self"]
theorem sc_Solved___bool__:FnScope n_Solved___bool__ ["self"] (defScope s_Solved___bool__):=⟨rfl,rfl,rfl,by decide +kernel,rfl,by decide +kernel,by decide +kernel⟩
theorem ok_Solved___bool__ (T:Tx P K mg base a d):FnG P w K mg base 1 (a i_Solved___bool__) (d i_Solved___bool__) ["self"] (sp1 fun me Q _=>Q (.d (.bl true))):=by
  refine fn1_of T.F_Solved___bool__ sc_Solved___bool__ (fun cdv A outer s H E hr hg=>(ds_one (ds_ret de_bl))) (fun me Q E h=>?_)
  replace h:Q (.d (.bl true)):=h
  exact h
abbrev n_Barred___init__:List Str:=["self","problem","weights"]
theorem sc_Barred___init__:KScope n_Barred___init__ ["self","problem","weights"] (defScope s_Barred___init__):=⟨rfl,rfl,rfl,by decide +kernel,rfl,by decide +kernel,by decide +kernel,by decide +kernel,by decide +kernel,by decide +kernel⟩
theorem ok_Barred___init__ (T:Tx P K mg base a d):FnR P w K mg base 10 (a i_Barred___init__) (d i_Barred___init__) ["self","problem","weights"] (upIN K (He.ga K "Barred") (fun args Q E=>∃ pr:D,∃ vs:D,args=[.d pr,.d vs]∧(AsOk vs∧∀ t:FT,t.d=asv vs→t.sol=true→∀ a,Q (.ins a (He.ga K "Barred") [("own_problem",.leaf pr),("own_weights",t)])))):=by
  have G_Answer___init____Barred:FnR P w K mg base 1 (a i_Answer___init__) (d i_Answer___init__) ["self","problem"] (upIN K (He.ga K "Barred") (fun args Q E=>∃ pr:D,args=[.d pr]∧(∀ a,Q (.ins a (He.ga K "Barred") [("own_problem",.leaf pr)])))):=ok_Answer___init____Barred T
  have G_as_list:FnR P w K mg base 9 (a i_as_list) (d i_as_list) ["value"] (upSN K (fun args Q E=>∃ x:D,args=[.d x]∧(Sm 267 7 1000000 x∧nk x=true∧soT x=true∧(∀ ds,itemsD x=some ds→∀ t:FT,t.d=.lst ds→t.sol=true→Q t)∧(itemsD x=none→Q (.leaf x))))):=ok_as_list T
  refine fnIS_of T.F_Barred___init__ sc_Barred___init__ ⟨_,rfl,rfl⟩ T.su_file T.su_top T.n_super T.su_Barred_Barred G_Answer___init____Barred (by decide) (B_Answer___init___2 T) rfl (by rintro _ Q E ⟨pr,vs,rfl,h⟩;rfl) (fun args Q E h=>no_seeN (by obtain ⟨pr,vs,rfl,h⟩:=h;intro x hx;simp only [List.mem_cons,List.not_mem_nil,or_false] at hx;rcases hx with rfl | rfl<;>first | assumption | exact fun _ z=>by cases z)) (fun _=>rfl) (fun _=>rfl) (fun _=>⟨_,rfl⟩) (fun qual cda cc A outer s H E hr hg=>⟨(da_cons (de_var (pv 1)) da_nil),(fss_one (fs_fld T.cl_Barred T.na_Barred_own_weights (fp_var (pv 0)) (fe_dn (dn_call G_as_list (hr.mono (by decide)) hg (tkOf rfl rfl rfl rfl) (B_as_list_1 T) (by rfl) T.m_as_list T.F_as_list.kp (da_cons (de_var (pv 2)) da_nil)))))⟩) (fun args Q E xx h=>?_)
  obtain ⟨pr,vs,rfl,h⟩:=h
  obtain ⟨ok,h⟩:=h
  refine ⟨rfl,rfl,rfl,pr,rfl,fun a ea=>?_⟩
  obtain rfl:a=xx:=by unfold FT.top at ea;cases ea;rfl
  refine ⟨rfl,rfl,vs,rfl,asl_of ok fun t h1 h2=>?_⟩
  exact ⟨a,rfl,[0],_,rfl,by show 1 < 1000;decide,rfl,_,List.mem_cons_self ..,h t h1 h2 a⟩
abbrev n_Barred_weights:List Str:=["self"]
theorem sc_Barred_weights:FnScope n_Barred_weights ["self"] (defScope s_Barred_weights):=⟨rfl,rfl,rfl,by decide +kernel,rfl,by decide +kernel,by decide +kernel⟩
theorem ok_Barred_weights (T:Tx P K mg base a d):FnR P w K mg base 10 (a i_Barred_weights) (d i_Barred_weights) ["self"] (upSN K (fun args Q E=>∃ me:D,args=[.d me]∧(∃ (C:Addr) (fs:List (Str × D)) (d:D),me=.ins C fs∧Cls K C∧NoAttr K C "own_weights"∧fs.lookup ("own_weights":Str)=some d∧AsOk d∧∀ t:FT,t.d=asv d→t.sol=true→Q t))):=by
  have G_as_list:FnR P w K mg base 9 (a i_as_list) (d i_as_list) ["value"] (upSN K (fun args Q E=>∃ x:D,args=[.d x]∧(Sm 267 7 1000000 x∧nk x=true∧soT x=true∧(∀ ds,itemsD x=some ds→∀ t:FT,t.d=.lst ds→t.sol=true→Q t)∧(itemsD x=none→Q (.leaf x))))):=ok_as_list T
  refine fnN_of T.F_Barred_weights sc_Barred_weights (by rintro _ Q E ⟨me,rfl,h⟩;rfl) (fun args Q E h=>no_seeN (by obtain ⟨me,rfl,h⟩:=h;intro x hx;simp only [List.mem_cons,List.not_mem_nil,or_false] at hx;rcases hx with rfl<;>first | assumption | exact fun _ z=>by cases z)) (fun cdv A outer s H E hr hg=>(fss_one (fs_ret (fe_dn (dn_call G_as_list (hr.mono (by decide)) hg (tkOf rfl rfl rfl rfl) (B_as_list_1 T) (by rfl) T.m_as_list T.F_as_list.kp (da_cons (de_fld (K:=K) (de_see (pv 0))) da_nil)))))) (fun args Q E h=>?_)
  obtain ⟨me,rfl,h⟩:=h
  obtain ⟨C,fs,d,rfl,c,na,e,ok,h⟩:=h
  refine l_own c na e ?_
  exact ⟨rfl,rfl,d,rfl,asl_of ok h⟩
abbrev n_Top___init__:List Str:=["self","problem","factors","number","values","weights"]
theorem sc_Top___init__:KScope n_Top___init__ ["self","problem","factors","number","values","weights"] (defScope s_Top___init__):=⟨rfl,rfl,rfl,by decide +kernel,rfl,by decide +kernel,by decide +kernel,by decide +kernel,by decide +kernel,by decide +kernel⟩
theorem ok_Top___init__ (T:Tx P K mg base a d):FnR P w K mg base 11 (a i_Top___init__) (d i_Top___init__) ["self","problem","factors","number","values","weights"] (upIN K (He.ga K "Top") (fun args Q E=>∃ pr:D,∃ gs:D,∃ nu:D,∃ vs:D,∃ ws:D,args=[.d pr,.d gs,.d nu,.d vs,.d ws]∧(AsOk gs∧AsOk vs∧AsOk ws∧(Sm 267 7 1000000 nu∧nk nu=true∧soT nu=true)∧∀ t1 t2 t3 t4:FT,t1.d=asv vs→t1.sol=true→t2.d=asv gs→t2.sol=true→t3.d=nu→t3.sol=true→t4.d=asv ws→t4.sol=true→∀ a,Q (.ins a (He.ga K "Top") [("own_problem",.leaf pr),("own_values",t1),("own_factors",t2),("number",t3),("own_weights",t4)])))):=by
  have G_Solved___init____Top:FnR P w K mg base 10 (a i_Solved___init__) (d i_Solved___init__) ["self","problem","values"] (upIN K (He.ga K "Top") (fun args Q E=>∃ pr:D,∃ vs:D,args=[.d pr,.d vs]∧(AsOk vs∧∀ t:FT,t.d=asv vs→t.sol=true→∀ a,Q (.ins a (He.ga K "Top") [("own_problem",.leaf pr),("own_values",t)])))):=ok_Solved___init____Top T
  have G_as_list:FnR P w K mg base 9 (a i_as_list) (d i_as_list) ["value"] (upSN K (fun args Q E=>∃ x:D,args=[.d x]∧(Sm 267 7 1000000 x∧nk x=true∧soT x=true∧(∀ ds,itemsD x=some ds→∀ t:FT,t.d=.lst ds→t.sol=true→Q t)∧(itemsD x=none→Q (.leaf x))))):=ok_as_list T
  have G_own_copy:FnR P w K mg base 8 (a i_own_copy) (d i_own_copy) ["value"] (upSN K (rs_own_copy K 8)):=ok_own_copy T 8
  refine fnIS_of T.F_Top___init__ sc_Top___init__ ⟨_,rfl,rfl⟩ T.su_file T.su_top T.n_super T.su_Top_Top G_Solved___init____Top (by decide) (B_Solved___init___3 T) rfl (by rintro _ Q E ⟨pr,gs,nu,vs,ws,rfl,h⟩;rfl) (fun args Q E h=>no_seeN (by obtain ⟨pr,gs,nu,vs,ws,rfl,h⟩:=h;intro x hx;simp only [List.mem_cons,List.not_mem_nil,or_false] at hx;rcases hx with rfl | rfl | rfl | rfl | rfl<;>first | assumption | exact fun _ z=>by cases z)) (fun _=>rfl) (fun _=>rfl) (fun _=>⟨_,rfl⟩) (fun qual cda cc A outer s H E hr hg=>⟨(da_cons (de_var (pv 1)) (da_cons (de_var (pv 4)) da_nil)),(fss_cons (fs_fld T.cl_Top T.na_Top_own_factors (fp_var (pv 0)) (fe_dn (dn_call G_as_list (hr.mono (by decide)) hg (tkOf rfl rfl rfl rfl) (B_as_list_1 T) (by rfl) T.m_as_list T.F_as_list.kp (da_cons (de_var (pv 2)) da_nil))))
      (fss_cons (fs_fld T.cl_Top T.na_Top_number (fp_var (pv 0)) (fe_dn (dn_call G_own_copy (hr.mono (by decide)) hg (tkOf rfl rfl rfl rfl) (B_own_copy_1 T) (by rfl) T.m_own_copy T.F_own_copy.kp (da_cons (de_var (pv 3)) da_nil))))
      (fss_one (fs_fld T.cl_Top T.na_Top_own_weights (fp_var (pv 0)) (fe_dn (dn_call G_as_list (hr.mono (by decide)) hg (tkOf rfl rfl rfl rfl) (B_as_list_1 T) (by rfl) T.m_as_list T.F_as_list.kp (da_cons (de_var (pv 5)) da_nil)))))))⟩) (fun args Q E xx h=>?_)
  obtain ⟨pr,gs,nu,vs,ws,rfl,h⟩:=h
  obtain ⟨ok1,ok2,ok3,ok4,h⟩:=h
  refine ⟨rfl,rfl,rfl,pr,vs,rfl,ok2,fun t1 h1 h2 a ea=>?_⟩
  obtain rfl:a=xx:=by unfold FT.top at ea;cases ea;rfl
  refine ⟨rfl,rfl,gs,rfl,asl_of ok1 fun t2 h3 h4=>?_⟩
  refine ⟨a,rfl,[0],_,rfl,by show 2 < 1000;decide,rfl,?_⟩
  refine ⟨rfl,rfl,nu,rfl,ok4.1,ok4.2.1,ok4.2.2,fun t3 h5 h6=>?_⟩
  refine ⟨a,rfl,[0],_,rfl,by show 3 < 1000;decide,rfl,?_⟩
  refine ⟨rfl,rfl,ws,rfl,asl_of ok3 fun t4 h7 h8=>?_⟩
  exact ⟨a,rfl,[0],_,rfl,by show 4 < 1000;decide,rfl,_,List.mem_cons_self ..,h t1 t2 t3 t4 h1 h2 h3 h4 h5 h6 h7 h8 a⟩
abbrev n_Top_factors:List Str:=["self"]
theorem sc_Top_factors:FnScope n_Top_factors ["self"] (defScope s_Top_factors):=⟨rfl,rfl,rfl,by decide +kernel,rfl,by decide +kernel,by decide +kernel⟩
theorem ok_Top_factors (T:Tx P K mg base a d):FnR P w K mg base 10 (a i_Top_factors) (d i_Top_factors) ["self"] (upSN K (fun args Q E=>∃ me:D,args=[.d me]∧(∃ (C:Addr) (fs:List (Str × D)) (d:D),me=.ins C fs∧Cls K C∧NoAttr K C "own_factors"∧fs.lookup ("own_factors":Str)=some d∧AsOk d∧∀ t:FT,t.d=asv d→t.sol=true→Q t))):=by
  have G_as_list:FnR P w K mg base 9 (a i_as_list) (d i_as_list) ["value"] (upSN K (fun args Q E=>∃ x:D,args=[.d x]∧(Sm 267 7 1000000 x∧nk x=true∧soT x=true∧(∀ ds,itemsD x=some ds→∀ t:FT,t.d=.lst ds→t.sol=true→Q t)∧(itemsD x=none→Q (.leaf x))))):=ok_as_list T
  refine fnN_of T.F_Top_factors sc_Top_factors (by rintro _ Q E ⟨me,rfl,h⟩;rfl) (fun args Q E h=>no_seeN (by obtain ⟨me,rfl,h⟩:=h;intro x hx;simp only [List.mem_cons,List.not_mem_nil,or_false] at hx;rcases hx with rfl<;>first | assumption | exact fun _ z=>by cases z)) (fun cdv A outer s H E hr hg=>(fss_one (fs_ret (fe_dn (dn_call G_as_list (hr.mono (by decide)) hg (tkOf rfl rfl rfl rfl) (B_as_list_1 T) (by rfl) T.m_as_list T.F_as_list.kp (da_cons (de_fld (K:=K) (de_see (pv 0))) da_nil)))))) (fun args Q E h=>?_)
  obtain ⟨me,rfl,h⟩:=h
  obtain ⟨C,fs,d,rfl,c,na,e,ok,h⟩:=h
  refine l_own c na e ?_
  exact ⟨rfl,rfl,d,rfl,asl_of ok h⟩
abbrev n_Top_weights:List Str:=["self"]
theorem sc_Top_weights:FnScope n_Top_weights ["self"] (defScope s_Top_weights):=⟨rfl,rfl,rfl,by decide +kernel,rfl,by decide +kernel,by decide +kernel⟩
theorem ok_Top_weights (T:Tx P K mg base a d):FnR P w K mg base 10 (a i_Top_weights) (d i_Top_weights) ["self"] (upSN K (fun args Q E=>∃ me:D,args=[.d me]∧(∃ (C:Addr) (fs:List (Str × D)) (d:D),me=.ins C fs∧Cls K C∧NoAttr K C "own_weights"∧fs.lookup ("own_weights":Str)=some d∧AsOk d∧∀ t:FT,t.d=asv d→t.sol=true→Q t))):=by
  have G_as_list:FnR P w K mg base 9 (a i_as_list) (d i_as_list) ["value"] (upSN K (fun args Q E=>∃ x:D,args=[.d x]∧(Sm 267 7 1000000 x∧nk x=true∧soT x=true∧(∀ ds,itemsD x=some ds→∀ t:FT,t.d=.lst ds→t.sol=true→Q t)∧(itemsD x=none→Q (.leaf x))))):=ok_as_list T
  refine fnN_of T.F_Top_weights sc_Top_weights (by rintro _ Q E ⟨me,rfl,h⟩;rfl) (fun args Q E h=>no_seeN (by obtain ⟨me,rfl,h⟩:=h;intro x hx;simp only [List.mem_cons,List.not_mem_nil,or_false] at hx;rcases hx with rfl<;>first | assumption | exact fun _ z=>by cases z)) (fun cdv A outer s H E hr hg=>(fss_one (fs_ret (fe_dn (dn_call G_as_list (hr.mono (by decide)) hg (tkOf rfl rfl rfl rfl) (B_as_list_1 T) (by rfl) T.m_as_list T.F_as_list.kp (da_cons (de_fld (K:=K) (de_see (pv 0))) da_nil)))))) (fun args Q E h=>?_)
  obtain ⟨me,rfl,h⟩:=h
  obtain ⟨C,fs,d,rfl,c,na,e,ok,h⟩:=h
  refine l_own c na e ?_
  exact ⟨rfl,rfl,d,rfl,asl_of ok h⟩
theorem ratS_short {q:Rat} (h1:q.num.natAbs < 10 ^ 50) (h2:q.den < 10 ^ 50):(ratS q).length≤200:=by
  have:=(ratS_len h1 h2 (by decide) (by decide)).1
  omega
abbrev n_Top_told:List Str:=["self"]
theorem sc_Top_told:FnScope n_Top_told ["self"] (defScope s_Top_told):=⟨rfl,rfl,rfl,by decide +kernel,rfl,by decide +kernel,by decide +kernel⟩
theorem ok_Top_told (T:Tx P K mg base a d):FnG P w K mg base 5 (a i_Top_told) (d i_Top_told) ["self"] (sp1 fun me Q _=>∃ (fs:List (Str × D)) (d:D),me=.ins (He.ga K "Top") fs∧fs.lookup ("KIND":Str)=none∧fs.lookup ("number":Str)=some d∧((∃ q:Rat,d=rD q∧(q.num.natAbs < 10 ^ 50∧q.den < 10 ^ 50)∧Q (.d (.str ("top "++ratS q))))∨(kindD d=true∧pairK d∧ratioD d=false∧Q (.d (.str "top"))))):=by
  have G_is_ratio:FnG P w K mg base 2 (a i_is_ratio) (d i_is_ratio) ["value"] (sp1 fun x Q _=>kindD x=true∧pairK x∧Q (.d (.bl (ratioD x)))):=ok_is_ratio T
  have G_ratio_text:FnG P w K mg base 4 (a i_ratio_text) (d i_ratio_text) ["value"] (sp1 fun x Q E=>kindD x=true∧pairK x∧(∀ q,ratOf x=some q→(q.num.natAbs < 10 ^ 100∧q.den < 10 ^ 100)∧Q (.d (.str (ratS q))))∧(ratOf x=none→E (.ref (He.ga K "InvalidRatio")) (xd_InvalidRatio x))):=ok_ratio_text T
  refine fn1_of T.F_Top_told sc_Top_told (fun cdv A outer s H E hr hg=>(ds_one (ds_ret (de_ifE (dt_val (de_call G_is_ratio (hr.mono (by decide)) hg (tkOf rfl rfl rfl rfl) (B_is_ratio_1 T) (by rfl) T.m_is_ratio T.F_is_ratio.kp (da_cons (de_fld (K:=K) (de_see (pv 0))) da_nil))) (de_fstr (.cons (de_fmt (de_con (de_var (pv 0)) T.cl_Top T.ic_Top_KIND)) (.cons de_str (.cons (de_fmt (de_call G_ratio_text (hr.mono (by decide)) hg (tkOf rfl rfl rfl rfl) (B_ratio_text_1 T) (by rfl) T.m_ratio_text T.F_ratio_text.kp (da_cons (de_fld (K:=K) (de_see (pv 0))) da_nil))) .nil)))) (de_con (de_var (pv 0)) T.cl_Top T.ic_Top_KIND))))) (fun me Q E h=>?_)
  replace h:∃ (fs:List (Str × D)) (d:D),me=.ins (He.ga K "Top") fs∧fs.lookup ("KIND":Str)=none∧fs.lookup ("number":Str)=some d∧((∃ q:Rat,d=rD q∧(q.num.natAbs < 10 ^ 50∧q.den < 10 ^ 50)∧Q (.d (.str ("top "++ratS q))))∨(kindD d=true∧pairK d∧ratioD d=false∧Q (.d (.str "top")))):=h
  obtain ⟨fs,d,rfl,e1,e2,h⟩:=h
  have hz:szl=16777216:=rfl
  refine l_own T.cl_Top T.na_Top_number e2 ?_
  rcases h with ⟨q,rfl,⟨b1,b2⟩,h⟩ | ⟨kd,pk,er,h⟩
  · refine ⟨rfl,rfl,_,rfl,(pl_rD q).kind,(pl_rD q).pair,l_truB ?_⟩
    rw [ratioD_rD]
    refine brT ?_
    have s1:("top":Str).length=3:=rfl
    have s2:(" ":Str).length=1:=rfl
    have rl:(ratS q).length≤200:=ratS_short b1 b2
    refine ⟨rfl,e1,?_⟩
    refine l_fmtS (by omega) ?_
    refine ⟨by rw [str_nil];omega,?_⟩
    refine ⟨by rw [str_nil,str_app_len];omega,?_⟩
    refine l_own T.cl_Top T.na_Top_number e2 ?_
    refine ⟨rfl,rfl,_,rfl,(pl_rD q).kind,(pl_rD q).pair,fun q' hq'=>?_,fun hq'=>by rw [ratOf_rD] at hq';cases hq'⟩
    rw [ratOf_rD] at hq'
    cases hq'
    refine ⟨⟨Nat.lt_of_lt_of_le b1 (Nat.pow_le_pow_right (by decide) (by decide)),Nat.lt_of_lt_of_le b2 (Nat.pow_le_pow_right (by decide) (by decide))⟩,?_⟩
    refine l_fmtS (by omega) ?_
    refine ⟨by rw [str_nil,str_app_len,str_app_len];omega,?_⟩
    rw [str_nil,show ("top":Str)++" "="top " from rfl]
    exact h
  · refine ⟨rfl,rfl,_,rfl,kd,pk,l_truB ?_⟩
    rw [er]
    refine brF ?_
    exact ⟨rfl,e1,h⟩
abbrev n_Answer_told:List Str:=["self"]
theorem sc_Answer_told:FnScope n_Answer_told ["self"] (defScope s_Answer_told):=⟨rfl,rfl,rfl,by decide +kernel,rfl,by decide +kernel,by decide +kernel⟩
theorem ok_Answer_told (T:Tx P K mg base a d):FnG P w K mg base 1 (a i_Answer_told) (d i_Answer_told) ["self"] (sp1 fun me Q _=>∃ (c k:Str) (fs:List (Str × D)),(c,k)∈kindsL∧me=.ins (He.ga K c) fs∧fs.lookup ("KIND":Str)=none∧Q (.d (.str k))):=by
  refine fn1_of T.F_Answer_told sc_Answer_told (fun cdv A outer s H E hr hg => (ds_one (ds_ret (de_alt (de_con (de_var (pv 0)) T.cl_Answer T.ic_Answer_KIND)
        (de_alt (de_con (de_var (pv 0)) T.cl_Solved T.ic_Solved_KIND)
        (de_alt (de_con (de_var (pv 0)) T.cl_Barred T.ic_Barred_KIND)
        (de_con (de_var (pv 0)) T.cl_Endless T.ic_Endless_KIND))))))) (fun me Q E h=>?_)
  replace h:∃ (c k:Str) (fs:List (Str × D)),(c,k)∈kindsL∧me=.ins (He.ga K c) fs∧fs.lookup ("KIND":Str)=none∧Q (.d (.str k)):=h
  obtain ⟨c,k,fs,m,rfl,e,h⟩:=h
  simp only [kindsL,List.mem_cons,List.not_mem_nil,or_false,Prod.mk.injEq] at m
  rcases m with ⟨rfl,rfl⟩ | ⟨rfl,rfl⟩ | ⟨rfl,rfl⟩ | ⟨rfl,rfl⟩
  · exact altL ⟨rfl,e,h⟩
  · exact altR (altL ⟨rfl,e,h⟩)
  · exact altR (altR (altL ⟨rfl,e,h⟩))
  · exact altR (altR (altR ⟨rfl,e,h⟩))
abbrev n_Endless___init__:List Str:=["self","problem","factors","values","direction"]
theorem sc_Endless___init__:KScope n_Endless___init__ ["self","problem","factors","values","direction"] (defScope s_Endless___init__):=⟨rfl,rfl,rfl,by decide +kernel,rfl,by decide +kernel,by decide +kernel,by decide +kernel,by decide +kernel,by decide +kernel⟩
theorem ok_Endless___init__ (T:Tx P K mg base a d):FnR P w K mg base 11 (a i_Endless___init__) (d i_Endless___init__) ["self","problem","factors","values","direction"] (upIN K (He.ga K "Endless") (fun args Q E=>∃ pr:D,∃ gs:D,∃ vs:D,∃ ws:D,args=[.d pr,.d gs,.d vs,.d ws]∧(AsOk gs∧AsOk vs∧AsOk ws∧∀ t1 t2 t3:FT,t1.d=asv vs→t1.sol=true→t2.d=asv gs→t2.sol=true→t3.d=asv ws→t3.sol=true→∀ a,Q (.ins a (He.ga K "Endless") [("own_problem",.leaf pr),("own_values",t1),("own_factors",t2),("own_direction",t3)])))):=by
  have G_Solved___init____Endless:FnR P w K mg base 10 (a i_Solved___init__) (d i_Solved___init__) ["self","problem","values"] (upIN K (He.ga K "Endless") (fun args Q E=>∃ pr:D,∃ vs:D,args=[.d pr,.d vs]∧(AsOk vs∧∀ t:FT,t.d=asv vs→t.sol=true→∀ a,Q (.ins a (He.ga K "Endless") [("own_problem",.leaf pr),("own_values",t)])))):=ok_Solved___init____Endless T
  have G_as_list:FnR P w K mg base 9 (a i_as_list) (d i_as_list) ["value"] (upSN K (fun args Q E=>∃ x:D,args=[.d x]∧(Sm 267 7 1000000 x∧nk x=true∧soT x=true∧(∀ ds,itemsD x=some ds→∀ t:FT,t.d=.lst ds→t.sol=true→Q t)∧(itemsD x=none→Q (.leaf x))))):=ok_as_list T
  refine fnIS_of T.F_Endless___init__ sc_Endless___init__ ⟨_,rfl,rfl⟩ T.su_file T.su_top T.n_super T.su_Endless_Endless G_Solved___init____Endless (by decide) (B_Solved___init___3 T) rfl (by rintro _ Q E ⟨pr,gs,vs,ws,rfl,h⟩;rfl) (fun args Q E h=>no_seeN (by obtain ⟨pr,gs,vs,ws,rfl,h⟩:=h;intro x hx;simp only [List.mem_cons,List.not_mem_nil,or_false] at hx;rcases hx with rfl | rfl | rfl | rfl<;>first | assumption | exact fun _ z=>by cases z)) (fun _=>rfl) (fun _=>rfl) (fun _=>⟨_,rfl⟩) (fun qual cda cc A outer s H E hr hg=>⟨(da_cons (de_var (pv 1)) (da_cons (de_var (pv 3)) da_nil)),(fss_cons (fs_fld T.cl_Endless T.na_Endless_own_factors (fp_var (pv 0)) (fe_dn (dn_call G_as_list (hr.mono (by decide)) hg (tkOf rfl rfl rfl rfl) (B_as_list_1 T) (by rfl) T.m_as_list T.F_as_list.kp (da_cons (de_var (pv 2)) da_nil))))
      (fss_one (fs_fld T.cl_Endless T.na_Endless_own_direction (fp_var (pv 0)) (fe_dn (dn_call G_as_list (hr.mono (by decide)) hg (tkOf rfl rfl rfl rfl) (B_as_list_1 T) (by rfl) T.m_as_list T.F_as_list.kp (da_cons (de_var (pv 4)) da_nil))))))⟩) (fun args Q E xx h=>?_)
  obtain ⟨pr,gs,vs,ws,rfl,h⟩:=h
  obtain ⟨ok1,ok2,ok3,h⟩:=h
  refine ⟨rfl,rfl,rfl,pr,vs,rfl,ok2,fun t1 h1 h2 a ea=>?_⟩
  obtain rfl:a=xx:=by unfold FT.top at ea;cases ea;rfl
  refine ⟨rfl,rfl,gs,rfl,asl_of ok1 fun t2 h3 h4=>?_⟩
  refine ⟨a,rfl,[0],_,rfl,by show 2 < 1000;decide,rfl,?_⟩
  refine ⟨rfl,rfl,ws,rfl,asl_of ok3 fun t4 h7 h8=>?_⟩
  exact ⟨a,rfl,[0],_,rfl,by show 3 < 1000;decide,rfl,_,List.mem_cons_self ..,h t1 t2 t4 h1 h2 h3 h4 h7 h8 a⟩
end
section
variable {P:Program} {w:World} {K:PySem.W.Frag} {mg:Str→Option Value} {base:Heap} {a:Nat→Addr} {d:Nat→FuncData}
abbrev n_Endless_factors:List Str:=["self"]
theorem sc_Endless_factors:FnScope n_Endless_factors ["self"] (defScope s_Endless_factors):=⟨rfl,rfl,rfl,by decide +kernel,rfl,by decide +kernel,by decide +kernel⟩
theorem ok_Endless_factors (T:Tx P K mg base a d):FnR P w K mg base 10 (a i_Endless_factors) (d i_Endless_factors) ["self"] (upSN K (fun args Q E=>∃ me:D,args=[.d me]∧(∃ (C:Addr) (fs:List (Str × D)) (d:D),me=.ins C fs∧Cls K C∧NoAttr K C "own_factors"∧fs.lookup ("own_factors":Str)=some d∧AsOk d∧∀ t:FT,t.d=asv d→t.sol=true→Q t))):=by
  have G_as_list:FnR P w K mg base 9 (a i_as_list) (d i_as_list) ["value"] (upSN K (fun args Q E=>∃ x:D,args=[.d x]∧(Sm 267 7 1000000 x∧nk x=true∧soT x=true∧(∀ ds,itemsD x=some ds→∀ t:FT,t.d=.lst ds→t.sol=true→Q t)∧(itemsD x=none→Q (.leaf x))))):=ok_as_list T
  refine fnN_of T.F_Endless_factors sc_Endless_factors (by rintro _ Q E ⟨me,rfl,h⟩;rfl) (fun args Q E h=>no_seeN (by obtain ⟨me,rfl,h⟩:=h;intro x hx;simp only [List.mem_cons,List.not_mem_nil,or_false] at hx;rcases hx with rfl<;>first | assumption | exact fun _ z=>by cases z)) (fun cdv A outer s H E hr hg=>(fss_one (fs_ret (fe_dn (dn_call G_as_list (hr.mono (by decide)) hg (tkOf rfl rfl rfl rfl) (B_as_list_1 T) (by rfl) T.m_as_list T.F_as_list.kp (da_cons (de_fld (K:=K) (de_see (pv 0))) da_nil)))))) (fun args Q E h=>?_)
  obtain ⟨me,rfl,h⟩:=h
  obtain ⟨C,fs,d,rfl,c,na,e,ok,h⟩:=h
  refine l_own c na e ?_
  exact ⟨rfl,rfl,d,rfl,asl_of ok h⟩
abbrev n_Endless_direction:List Str:=["self"]
theorem sc_Endless_direction:FnScope n_Endless_direction ["self"] (defScope s_Endless_direction):=⟨rfl,rfl,rfl,by decide +kernel,rfl,by decide +kernel,by decide +kernel⟩
theorem ok_Endless_direction (T:Tx P K mg base a d):FnR P w K mg base 10 (a i_Endless_direction) (d i_Endless_direction) ["self"] (upSN K (fun args Q E=>∃ me:D,args=[.d me]∧(∃ (C:Addr) (fs:List (Str × D)) (d:D),me=.ins C fs∧Cls K C∧NoAttr K C "own_direction"∧fs.lookup ("own_direction":Str)=some d∧AsOk d∧∀ t:FT,t.d=asv d→t.sol=true→Q t))):=by
  have G_as_list:FnR P w K mg base 9 (a i_as_list) (d i_as_list) ["value"] (upSN K (fun args Q E=>∃ x:D,args=[.d x]∧(Sm 267 7 1000000 x∧nk x=true∧soT x=true∧(∀ ds,itemsD x=some ds→∀ t:FT,t.d=.lst ds→t.sol=true→Q t)∧(itemsD x=none→Q (.leaf x))))):=ok_as_list T
  refine fnN_of T.F_Endless_direction sc_Endless_direction (by rintro _ Q E ⟨me,rfl,h⟩;rfl) (fun args Q E h=>no_seeN (by obtain ⟨me,rfl,h⟩:=h;intro x hx;simp only [List.mem_cons,List.not_mem_nil,or_false] at hx;rcases hx with rfl<;>first | assumption | exact fun _ z=>by cases z)) (fun cdv A outer s H E hr hg=>(fss_one (fs_ret (fe_dn (dn_call G_as_list (hr.mono (by decide)) hg (tkOf rfl rfl rfl rfl) (B_as_list_1 T) (by rfl) T.m_as_list T.F_as_list.kp (da_cons (de_fld (K:=K) (de_see (pv 0))) da_nil)))))) (fun args Q E h=>?_)
  obtain ⟨me,rfl,h⟩:=h
  obtain ⟨C,fs,d,rfl,c,na,e,ok,h⟩:=h
  refine l_own c na e ?_
  exact ⟨rfl,rfl,d,rfl,asl_of ok h⟩
def ToldK (K:PySem.W.Frag) (me:D) (k:Str):Prop:=(∃ (c:Str) (fs:List (Str × D)),(c,k)∈kindsL∧me=.ins (He.ga K c) fs∧fs.lookup ("KIND":Str)=none∧fs.lookup ("told":Str)=none)∨
  ∃ (fs:List (Str × D)) (q:Rat),me=.ins (He.ga K "Top") fs∧fs.lookup ("KIND":Str)=none∧fs.lookup ("told":Str)=none∧fs.lookup ("number":Str)=some (rD q)∧(q.num.natAbs < 10 ^ 50∧q.den < 10 ^ 50)∧k="top "++ratS q
abbrev n_Answer___repr__:List Str:=["self"]
theorem sc_Answer___repr__:FnScope n_Answer___repr__ ["self"] (defScope s_Answer___repr__):=⟨rfl,rfl,rfl,by decide +kernel,rfl,by decide +kernel,by decide +kernel⟩
theorem ok_Answer___repr__ (T:Tx P K mg base a d):FnG P w K mg base 6 (a i_Answer___repr__) (d i_Answer___repr__) ["self"] (sp1 fun me Q _=>∃ k:Str,ToldK K me k∧k.length < 1000∧Q (.d (.str ("Answer("++k++")")))):=by
  have G_Answer_told:FnG P w K mg base 1 (a i_Answer_told) (d i_Answer_told) ["self"] (sp1 fun me Q _=>∃ (c k:Str) (fs:List (Str × D)),(c,k)∈kindsL∧me=.ins (He.ga K c) fs∧fs.lookup ("KIND":Str)=none∧Q (.d (.str k))):=ok_Answer_told T
  have G_Top_told:FnG P w K mg base 5 (a i_Top_told) (d i_Top_told) ["self"] (sp1 fun me Q _=>∃ (fs:List (Str × D)) (d:D),me=.ins (He.ga K "Top") fs∧fs.lookup ("KIND":Str)=none∧fs.lookup ("number":Str)=some d∧((∃ q:Rat,d=rD q∧(q.num.natAbs < 10 ^ 50∧q.den < 10 ^ 50)∧Q (.d (.str ("top "++ratS q))))∨(kindD d=true∧pairK d∧ratioD d=false∧Q (.d (.str "top"))))):=ok_Top_told T
  refine fn1_of T.F_Answer___repr__ sc_Answer___repr__ (fun cdv A outer s H E hr hg => (ds_one (ds_ret (de_fstr (.cons de_str (.cons (de_fmt (de_alt (de_meth0 (de_var (pv 0)) T.cl_Answer T.me_Answer_told G_Answer_told (hr.mono (by decide)) hg (tkOf rfl rfl rfl rfl) (B_Answer_told_1 T))
        (de_alt (de_meth0 (de_var (pv 0)) T.cl_Solved T.me_Solved_told G_Answer_told (hr.mono (by decide)) hg (tkOf rfl rfl rfl rfl) (B_Answer_told_1 T))
        (de_alt (de_meth0 (de_var (pv 0)) T.cl_Barred T.me_Barred_told G_Answer_told (hr.mono (by decide)) hg (tkOf rfl rfl rfl rfl) (B_Answer_told_1 T))
        (de_alt (de_meth0 (de_var (pv 0)) T.cl_Top T.me_Top_told G_Top_told (hr.mono (by decide)) hg (tkOf rfl rfl rfl rfl) (B_Top_told_1 T))
        (de_meth0 (de_var (pv 0)) T.cl_Endless T.me_Endless_told G_Answer_told (hr.mono (by decide)) hg (tkOf rfl rfl rfl rfl) (B_Answer_told_1 T))))))) (.cons de_str .nil))))))) (fun me Q E h=>?_)
  replace h:∃ k:Str,ToldK K me k∧k.length < 1000∧Q (.d (.str ("Answer("++k++")"))):=h
  obtain ⟨k,hk,hl,h⟩:=h
  have hz:szl=16777216:=rfl
  have s1:("Answer(":Str).length=7:=rfl
  have s2:(")":Str).length=1:=rfl
  refine ⟨by rw [str_nil];omega,?_⟩
  rcases hk with ⟨c,fs,m,rfl,e1,e2⟩ | ⟨fs,q,rfl,e1,e2,e3,b,rfl⟩
  · have m2:=m
    simp only [kindsL,List.mem_cons,List.not_mem_nil,or_false,Prod.mk.injEq] at m
    rcases m with ⟨rfl,rfl⟩ | ⟨rfl,rfl⟩ | ⟨rfl,rfl⟩ | ⟨rfl,rfl⟩
    · refine altL ⟨rfl,e2,rfl,rfl,_,rfl,_,_,_,m2,rfl,e1,?_⟩
      refine l_fmtS (by omega) ?_
      refine ⟨by rw [str_nil,str_app_len];omega,?_⟩
      refine ⟨by rw [str_nil,str_app_len,str_app_len];omega,?_⟩
      rw [str_nil]
      exact h
    · refine altR (altL ⟨rfl,e2,rfl,rfl,_,rfl,_,_,_,m2,rfl,e1,?_⟩)
      refine l_fmtS (by omega) ?_
      refine ⟨by rw [str_nil,str_app_len];omega,?_⟩
      refine ⟨by rw [str_nil,str_app_len,str_app_len];omega,?_⟩
      rw [str_nil]
      exact h
    · refine altR (altR (altL ⟨rfl,e2,rfl,rfl,_,rfl,_,_,_,m2,rfl,e1,?_⟩))
      refine l_fmtS (by omega) ?_
      refine ⟨by rw [str_nil,str_app_len];omega,?_⟩
      refine ⟨by rw [str_nil,str_app_len,str_app_len];omega,?_⟩
      rw [str_nil]
      exact h
    · refine altR (altR (altR (altR ⟨rfl,e2,rfl,rfl,_,rfl,_,_,_,m2,rfl,e1,?_⟩)))
      refine l_fmtS (by omega) ?_
      refine ⟨by rw [str_nil,str_app_len];omega,?_⟩
      refine ⟨by rw [str_nil,str_app_len,str_app_len];omega,?_⟩
      rw [str_nil]
      exact h
  · refine altR (altR (altR (altL ⟨rfl,e2,rfl,rfl,_,rfl,_,_,rfl,e1,e3,.inl ⟨q,rfl,b,?_⟩⟩)))
    refine l_fmtS (by omega) ?_
    refine ⟨by rw [str_nil,str_app_len];omega,?_⟩
    refine ⟨by rw [str_nil,str_app_len,str_app_len];omega,?_⟩
    rw [str_nil]
    exact h
abbrev n__law_low:List Str:=["_law_top","_law_bottom","_law_one","_law_other"]
theorem sc__law_low:FnScope n__law_low ["_law_top","_law_bottom"] (defScope s__law_low):=⟨rfl,rfl,rfl,by decide +kernel,rfl,by decide +kernel,by decide +kernel⟩
theorem ok__law_low (T:Tx P K mg base a d):FnG P w K mg base 1 (a i__law_low) (d i__law_low) ["_law_top","_law_bottom"] (sp2 fun x y Q _=>∃ n m:Int,x=.int n∧y=.int m∧0 < m∧m.natAbs < 2 ^ 8000∧Q (.d (rD (Rat.divInt n m)))):=by
  refine fn2_of T.F__law_low sc__law_low (fun cdv A outer s H E hr hg=>(ds_cons (ds_par (i:=2) (j:=3) rfl sc__law_low.nd rfl rfl (by decide) rfl rfl (da_cons (de_callB call_abs sem_abs (by rfl) T.n_abs (by decide +kernel) (da_cons (de_see (pv 0)) da_nil)) (da_cons (de_var (pv 1)) da_nil)) (by rfl))
      (ds_cons (ds_while (passes_of rfl) (dt_cmp op_gt (sem_intR0 fun _ _ _=>.bl _) (de_see (pv 3)) de_int (nomark _)) (ds_one (ds_par (i:=2) (j:=3) rfl sc__law_low.nd rfl rfl (by decide) rfl rfl (da_cons (de_var (pv 3)) (da_cons (de_mod (de_callT call_int1 sem_int (by rfl) T.n_int (by decide +kernel) (da_cons (de_see (pv 2)) da_nil)) (de_var (pv 3))) da_nil)) (by rfl))))
      (ds_one (ds_ret (de_tup (da_cons (de_fdiv (de_var (pv 0)) (de_var (pv 2))) (da_cons (de_fdiv (de_var (pv 1)) (de_var (pv 2))) da_nil)))))))) (fun x y Q E h=>?_)
  replace h:∃ n m:Int,x=.int n∧y=.int m∧0 < m∧m.natAbs < 2 ^ 8000∧Q (.d (rD (Rat.divInt n m))):=h
  obtain ⟨n,m,rfl,rfl,h1,h2,h⟩:=h
  have ea:(if n < 0 then -n else n)=((n.natAbs:Nat):Int):=by split<;>omega
  refine par_cut (.int (n.natAbs:Nat)) (.int m) (s':=[some (.d (.int n)),some (.d (.int m)),none,none]) (fun Q hQ=>?_) ?_
  · refine l_abs ?_
    rw [ea]
    exact hQ
  refine seq_cut (fun s=>s=[some (.d (.int n)),some (.d (.int m)),some (.d (.int (gcI n m))),some (.d (.int 0))]) (fun N hN=>?_) (fun s hs=>?_)
  · refine ⟨fun k s=>∃ x:Nat,s=[some (.d (.int n)),some (.d (.int m)),some (.d (.int (x:Int))),some (.d (.int (k:Int)))]∧Nat.gcd x k=Nat.gcd n.natAbs m.natAbs,⟨m.natAbs,n.natAbs,?_,rfl⟩,?_⟩
    · have:((m.natAbs:Nat):Int)=m:=by omega
      rw [this];rfl
    · rintro k s ⟨x,rfl,hg⟩
      refine l_int0 ?_
      refine br (fun hk=>?_) (fun hk=>?_)
      · have hk':(0:Int) < (k:Int):=of_decide_eq_true hk
        refine l_int ?_
        refine l_int1 hk' ?_
        refine ⟨x % k,Nat.mod_lt _ (by omega),k,?_,?_⟩
        · show [_,_,_,some (DV.d (.int ((x:Int) % (k:Int))))]=_
          rw [← Int.natCast_emod]
        · rw [← hg,Nat.gcd_comm x k,Nat.gcd_rec k x,Nat.gcd_comm]
      · have hk':¬ (0:Int) < (k:Int):=of_decide_eq_false hk
        have k0:k=0:=by omega
        subst k0
        refine hN _ ?_
        rw [Nat.gcd_zero_right] at hg
        rw [hg];rfl
  · subst hs
    refine l_int1 (gc_bits h1 h2) ?_
    refine l_int1 (gc_bits (n:=n) h1 h2) ?_
    rw [rD_low h1] at h
    exact l_tup rfl rfl h
abbrev n__law_wide:List Str:=["_law_src"]
theorem sc__law_wide:FnScope n__law_wide ["_law_src"] (defScope s__law_wide):=⟨rfl,rfl,rfl,by decide +kernel,rfl,by decide +kernel,by decide +kernel⟩
theorem ok__law_wide (T:Tx P K mg base a d):FnG P w K mg base 2 (a i__law_wide) (d i__law_wide) ["_law_src"] (sr0 fun Q _=>∀ q:Rat,q.num.natAbs < 10 ^ 19→q.den < 10 ^ 19→Q (.d (rD q))):=by
  have G__law_draw:FnG P w K mg base 1 (a i__law_draw) (d i__law_draw) ["_law_src","_law_many"] (spDraw):=ok__law_draw T
  have G__law_low:FnG P w K mg base 1 (a i__law_low) (d i__law_low) ["_law_top","_law_bottom"] (sp2 fun x y Q _=>∃ n m:Int,x=.int n∧y=.int m∧0 < m∧m.natAbs < 2 ^ 8000∧Q (.d (rD (Rat.divInt n m)))):=ok__law_low T
  refine gn0_of T.F__law_wide sc__law_wide (fun cdv A outer s H E hr hg=>(ds_cons (ds_if (dt_cmp op_gt (sem_intR0 fun _ _ _=>.bl _) (de_call G__law_draw (hr.mono (by decide)) hg (tkOf rfl rfl rfl rfl) (B__law_draw_2 T) (by rfl) T.m__law_draw T.F__law_draw.kp (da_cons (de_var (pv 0)) (da_cons de_int da_nil))) de_int (nomark _)) (ds_one (ds_ret (de_call G__law_low (hr.mono (by decide)) hg (tkOf rfl rfl rfl rfl) (B__law_low_2 T) (by rfl) T.m__law_low T.F__law_low.kp (da_cons (de_sub (de_call G__law_draw (hr.mono (by decide)) hg (tkOf rfl rfl rfl rfl) (B__law_draw_2 T) (by rfl) T.m__law_draw T.F__law_draw.kp (da_cons (de_var (pv 0)) (da_cons de_int da_nil))) de_int) (da_cons (de_add de_int (de_call G__law_draw (hr.mono (by decide)) hg (tkOf rfl rfl rfl rfl) (B__law_draw_2 T) (by rfl) T.m__law_draw T.F__law_draw.kp (da_cons (de_var (pv 0)) (da_cons de_int da_nil)))) da_nil))))) ds_nil)
      (ds_one (ds_ret (de_call G__law_low (hr.mono (by decide)) hg (tkOf rfl rfl rfl rfl) (B__law_low_2 T) (by rfl) T.m__law_low T.F__law_low.kp (da_cons (de_sub (de_call G__law_draw (hr.mono (by decide)) hg (tkOf rfl rfl rfl rfl) (B__law_draw_2 T) (by rfl) T.m__law_draw T.F__law_draw.kp (da_cons (de_var (pv 0)) (da_cons (de_pow de_int de_int) da_nil))) (de_pow de_int de_int)) (da_cons (de_add de_int (de_call G__law_draw (hr.mono (by decide)) hg (tkOf rfl rfl rfl rfl) (B__law_draw_2 T) (by rfl) T.m__law_draw T.F__law_draw.kp (da_cons (de_var (pv 0)) (da_cons (de_pow de_int de_int) da_nil)))) da_nil))))))) (fun Q E h=>?_)
  replace h:∀ q:Rat,q.num.natAbs < 10 ^ 19→q.den < 10 ^ 19→Q (.d (rD q)):=h
  refine seq_cutN True (fun N hN=>?_) (fun _=>?_)
  · refine ⟨rfl,rfl,_,rfl,by decide,by decide,fun k k0 k1=>?_⟩
    refine l_int0 ?_
    refine br (fun _=>?_) (fun _=>hN trivial)
    refine ⟨rfl,rfl,_,rfl,by decide,by decide,fun n n0 n1=>l_int0 ?_⟩
    refine ⟨rfl,rfl,_,rfl,by decide,by decide,fun m m0 m1=>l_addI ?_⟩
    refine ⟨rfl,rfl,_,_,rfl,n - 12,1 + m,rfl,rfl,by omega,Nat.lt_of_lt_of_le (show (1 + m).natAbs < 2 ^ 40 by omega) (Nat.pow_le_pow_right (by decide) (by decide)),?_⟩
    obtain ⟨g1,g2⟩:=div_bd (n:=n - 12) (m:=1 + m) (by omega)
    exact h _ (by omega) (by omega)
  refine l_int1 ⟨by decide,by decide,by decide⟩ ?_
  refine ⟨rfl,rfl,_,rfl,by decide,by decide,fun n n0 n1=>?_⟩
  refine l_int1 ⟨by decide,by decide,by decide⟩ ?_
  refine l_int0 ?_
  refine l_int1 ⟨by decide,by decide,by decide⟩ ?_
  refine ⟨rfl,rfl,_,rfl,by decide,by decide,fun m m0 m1=>l_addI ?_⟩
  have n1':n < 1000000000000000000:=n1
  have m1':m < 1000000000000000000:=m1
  have e17:((10:Int) ^ (17:Int).toNat)=100000000000000000:=rfl
  rw [e17]
  refine ⟨rfl,rfl,_,_,rfl,n - 100000000000000000,1 + m,rfl,rfl,by omega,Nat.lt_of_lt_of_le (show (1 + m).natAbs < 2 ^ 64 by omega) (Nat.pow_le_pow_right (by decide) (by decide)),?_⟩
  obtain ⟨g1,g2⟩:=div_bd (n:=n - 100000000000000000) (m:=1 + m) (by omega)
  exact h _ (by omega) (by omega)
abbrev n__law_pair:List Str:=["_law_value"]
theorem sc__law_pair:FnScope n__law_pair ["_law_value"] (defScope s__law_pair):=⟨rfl,rfl,rfl,by decide +kernel,rfl,by decide +kernel,by decide +kernel⟩
theorem ok__law_pair (T:Tx P K mg base a d):FnG P w K mg base 1 (a i__law_pair) (d i__law_pair) ["_law_value"] (sp1 fun x Q _=>∃ q:Rat,x=rD q∧Q (.d (rD q))):=by
  refine fn1_of T.F__law_pair sc__law_pair (fun cdv A outer s H E hr hg=>(ds_one (ds_ret (de_ifE (dt_val (de_callB call_isi sem_isi (by rfl) T.n_isinstance (by decide +kernel) (da_cons (de_see (pv 0)) (da_cons (de_ty (T:="int") (by rfl) T.n_int (by decide +kernel)) da_nil)))) (de_tup (da_cons (de_var (pv 0)) (da_cons de_int da_nil))) (de_var (pv 0)))))) (fun x Q E h=>?_)
  replace h:∃ q:Rat,x=rD q∧Q (.d (rD q)):=h
  obtain ⟨q,rfl,h⟩:=h
  refine l_isi rfl (pl_rD q).kind (by decide) ?_
  exact l_truB (brF h)
abbrev n__law_text:List Str:=["_law_value","_law_top","_law_bottom"]
theorem sc__law_text:FnScope n__law_text ["_law_value"] (defScope s__law_text):=⟨rfl,rfl,rfl,by decide +kernel,rfl,by decide +kernel,by decide +kernel⟩
theorem ok__law_text (T:Tx P K mg base a d):FnG P w K mg base 2 (a i__law_text) (d i__law_text) ["_law_value"] (sp1 fun x Q _=>∃ q:Rat,x=rD q∧q.num.natAbs < 10 ^ 100∧q.den < 10 ^ 100∧Q (.d (.str (ratS q)))):=by
  have G__law_pair:FnG P w K mg base 1 (a i__law_pair) (d i__law_pair) ["_law_value"] (sp1 fun x Q _=>∃ q:Rat,x=rD q∧Q (.d (rD q))):=ok__law_pair T
  refine fn1_of T.F__law_text sc__law_text (fun cdv A outer s H E hr hg=>(ds_cons (ds_if (dt_val (de_callB call_isi sem_isi (by rfl) T.n_isinstance (by decide +kernel) (da_cons (de_see (pv 0)) (da_cons (de_ty (T:="str") (by rfl) T.n_str (by decide +kernel)) da_nil)))) (ds_one (ds_ret (de_var (pv 0)))) ds_nil)
      (ds_cons (ds_asg (de_call G__law_pair (hr.mono (by decide)) hg (tkOf rfl rfl rfl rfl) (B__law_pair_1 T) (by rfl) T.m__law_pair T.F__law_pair.kp (da_cons (de_var (pv 0)) da_nil)) (dg_tup (n:=2) (K:=K) rfl (dgs_cons (dg_name (i:=1) sc__law_text.nd rfl (Or.inl rfl)) (dgs_cons (dg_name (i:=2) sc__law_text.nd rfl (Or.inl rfl)) dgs_nil))))
      (ds_one (ds_ret (de_ifE (dt_cmp (op_eqAll hr.units) sem_eq (de_see (pv 2)) de_int (nomark _)) (de_callT call_str_int sem_str (by rfl) T.n_str (by decide +kernel) (da_cons (de_see (pv 1)) da_nil)) (de_add (de_add (de_callT call_str_int sem_str (by rfl) T.n_str (by decide +kernel) (da_cons (de_see (pv 1)) da_nil)) de_str) (de_callT call_str_int sem_str (by rfl) T.n_str (by decide +kernel) (da_cons (de_see (pv 2)) da_nil))))))))) (fun x Q E h=>?_)
  replace h:∃ q:Rat,x=rD q∧q.num.natAbs < 10 ^ 100∧q.den < 10 ^ 100∧Q (.d (.str (ratS q))):=h
  obtain ⟨q,rfl,b1,b2,h⟩:=h
  have hz:szl=16777216:=rfl
  refine seq_cutN True (fun N hN=>?_) (fun _=>?_)
  · refine l_isi rfl (pl_rD q).kind (by decide) ?_
    exact l_truB (brF (hN trivial))
  have b3:(q.den:Int).natAbs < 10 ^ 100:=by simpa using b2
  have l1:=num_len b1
  have l2:=num_len b3
  refine asg_cut ?_
  refine ⟨rfl,rfl,_,rfl,q,rfl,?_⟩
  refine ⟨rfl,g2 (s':=[some (.d (rD q)),some (.d (.int q.num)),some (.d (.int (q.den:Int)))]) rfl ?_⟩
  unfold ratS at h
  refine l_eqI ?_
  refine br (fun z=>?_) (fun z=>?_)
  · rw [if_pos (of_decide_eq_true z)] at h
    exact l_str (lg b1) h
  · rw [if_neg (of_decide_eq_false z)] at h
    have e1:("/":Str).length=1:=by decide
    refine l_str (lg b1) (l_addS ?_ (l_str (lg b3) (l_addS ?_ h)))
    · show (numS q.num).length + _≤szl;omega
    · rw [str_app_len];show (numS q.num).length + _ + (numS (q.den:Int)).length≤szl;omega
end
section
variable {P:Program} {w:World} {K:PySem.W.Frag} {mg:Str→Option Value} {base:Heap} {a:Nat→Addr} {d:Nat→FuncData}
abbrev rowP (n:Int):D:=.tup [.lst [.int 1],.int n,.bl false]
def prP (K:PySem.W.Frag) (n:Int):D:=prob K 1 [normR (rowP n)]
theorem rowP_ok (n:Int):Pl (rowP n)∧rowB 1 (rowP n)=true:=⟨pl_tup (pls_cons (pl_lst (pls_cons pl_int pls_nil)) (pls_cons pl_int (pls_cons pl_bl pls_nil))),rfl⟩
def DrOk (x:D):Prop:=x=.non∨x=.int 3∨x=.tup [.int 1,.int 2]∨x=.str "a"
def VlOk (x:D):Prop:=x=.non∨x=.int 3∨x=.str "ab"∨x=.bl true
theorem DrOk.sol {x:D} (h:DrOk x):x.sol=true:=by rcases h with rfl | rfl | rfl | rfl<;>rfl
abbrev kpD (dr:List D):D:=.lst (dr++[.lst [.int 1]])
theorem given_d (c b:Addr) (dr:List D):(FT.lst c (dr.map .leaf++[.lst b [.leaf (.int 1)]])).d=kpD dr:=by
  rw [d_lst,dL_map,List.map_append,← dL_map,dLF_leaves,List.map_cons,List.map_nil,d_lst,FT.dL,FT.d,FT.dL]
theorem given_sol (c b:Addr) {dr:List D} (h:∀ x∈dr,DrOk x):(FT.lst c (dr.map .leaf++[.lst b [.leaf (.int 1)]])).sol=true:=by
  rw [sol_lst,solL_all]
  intro t ht
  rcases List.mem_append.mp ht with ht | ht
  · obtain ⟨x,hx,rfl⟩:=List.mem_map.mp ht
    rw [FT.sol];exact (h x hx).sol
  · rw [List.mem_singleton.mp ht,sol_lst,FT.solL,FT.sol,FT.solL];rfl
theorem cut_last {α:Type} (xs:List α) (x:α):cut (xs++[x]) none (some (-1))=xs:=by
  unfold cut
  have e1:HT.sIx (xs++[x]).length 0 none=0:=rfl
  have e2:HT.sIx (xs++[x]).length (xs++[x]).length (some (-1))=xs.length:=by
    unfold HT.sIx
    simp
    omega
  rw [e1,e2,List.drop_zero,Nat.sub_zero,List.take_append_of_le_length (Nat.le_refl _),List.take_of_length_le (Nat.le_refl _)]
theorem i267 {i:Int} (h:i.natAbs < 100):Sm 267 0 268 (.int i):=sm_int (Nat.lt_of_lt_of_le h (Nat.le_trans (by decide:100≤10 ^ 2) (Nat.pow_le_pow_right (by decide) (by decide))))
theorem dr_sm {x:D} (h:DrOk x):Sm 267 1 2000 x∧nk x=true∧soT x=true:=by
  rcases h with rfl | rfl | rfl | rfl
  · exact ⟨sm_non.mono (by decide) (by decide),rfl,rfl⟩
  · exact ⟨(i267 (by decide)).mono (by decide) (by decide),rfl,rfl⟩
  · exact ⟨(sm_tup (sms_cons (i267 (by decide)) (sms_cons (i267 (by decide)) sms_nil))).mono (by decide) (by decide),rfl,rfl⟩
  · exact ⟨(sm_str (m:=1) (ok_of _) (by decide)).mono (by decide) (by decide),rfl,rfl⟩
theorem nks_all:∀ {xs:List D},(∀ x∈xs,nk x=true)→nks xs=true
  | [],_=>rfl
  | x::r,h=>by
    show (nk x && nks r)=true
    rw [Bool.and_eq_true]
    exact ⟨h x (List.mem_cons_self ..),nks_all fun y hy=>h y (List.mem_cons_of_mem _ hy)⟩
theorem soTs_all:∀ {xs:List D},(∀ x∈xs,soT x=true)→soTs xs=true
  | [],_=>by rw [soTs]
  | x::r,h=>by
    rw [soTs,Bool.and_eq_true]
    exact ⟨h x (List.mem_cons_self ..),soTs_all fun y hy=>h y (List.mem_cons_of_mem _ hy)⟩
theorem in1_sm:Sm 267 1 2000 (.lst [.int 1])∧nk (.lst [.int 1])=true∧soT (.lst [.int 1])=true:=⟨(sm_lst (sms_cons (i267 (by decide)) sms_nil)).mono (by decide) (by decide),rfl,by rw [soT,soTs,soTs,soT]<;>(intros;first | rfl | contradiction)⟩
theorem kp_each {dr:List D} (h:∀ x∈dr,DrOk x):∀ x∈dr++[.lst [.int 1]],Sm 267 1 2000 x∧nk x=true∧soT x=true:=fun x hx=>by
  rcases List.mem_append.mp hx with hx | hx
  · exact dr_sm (h x hx)
  · rw [List.mem_singleton.mp hx];exact in1_sm
theorem kp_sm {dr:List D} (h:∀ x∈dr,DrOk x) (l:dr.length≤2):Sm 267 2 7000 (kpD dr):=(sm_lst (sms_all (m:=3) (fun x hx=>(kp_each h x hx).1) (by rw [List.length_append];show dr.length + 1≤3;omega))).mono (by decide) (by decide)
theorem kp_ok {dr:List D} (h:∀ x∈dr,DrOk x) (l:dr.length≤2):AsOk (kpD dr):=
  ⟨(kp_sm h l).mono (by decide) (by decide),nks_all fun x hx=>(kp_each h x hx).2.1,by rw [soT];exact soTs_all fun x hx=>(kp_each h x hx).2.2⟩
theorem vl_sm {x:D} (h:VlOk x):Sm 267 0 300 x:=by
  rcases h with rfl | rfl | rfl | rfl
  · exact sm_non.mono (by decide) (by decide)
  · exact (i267 (by decide)).mono (by decide) (by decide)
  · exact (sm_str (m:=2) (ok_of _) (by decide)).mono (by decide) (by decide)
  · exact sm_bl.mono (by decide) (by decide)
theorem VlOk.as {x:D} (h:VlOk x):AsOk x∧asv x=x:=by
  have s:=(vl_sm h).mono (d':=7) (w':=1000000) (by decide) (by decide)
  rcases h with rfl | rfl | rfl | rfl<;>exact ⟨⟨s,rfl,rfl⟩,rfl⟩
abbrev someL (K:PySem.W.Frag) (pr kp v nu:D):List D:=[.ins (He.ga K "Answer") [("own_problem",pr)],.ins (He.ga K "Solved") [("own_problem",pr),("own_values",kp)],.ins (He.ga K "Barred") [("own_problem",pr),("own_weights",kp)],
  .ins (He.ga K "Top") [("own_problem",pr),("own_values",kp),("own_factors",kp),("number",nu),("own_weights",v)],.ins (He.ga K "Endless") [("own_problem",pr),("own_values",v),("own_factors",kp),("own_direction",kp)]]
abbrev someD (K:PySem.W.Frag) (pr kp v nu:D):D:=.lst (someL K pr kp v nu)
theorem xlend_cut {is:List (Nat × Nat)} {te:TDN} {sl:DSt} {fl:Fl} {Q:FT→DSt→Fl→Prop} {E:XP} {S:DSt} (c:lendC is fl sl) (nm:noMu sl=true) (e:lendSl is fl sl=S) (q:te S (fun x s1=>s1=S∧x.sol=true∧Q x sl fl) (fun cls fs s1=>s1=S∧D.solF fs=true∧E cls fs sl)):xLend is te sl fl Q E:=by
  subst e;exact ⟨c,nm,q⟩
theorem noMu_tl {x:Option DV} {r:DSt} (h:noMu (x::r)=true):noMu r=true:=by
  cases x with
  | none=>exact h
  | some v=>cases v<;>first | exact h | cases h
theorem noBl_tl {x:Option DV} {r:DSt} (h:noBl (x::r)=true):noBl r=true:=by
  cases x with
  | none=>exact h
  | some v=>
    cases v with
    | bor o=>cases o<;>first | exact h | cases h
    | _=>exact h
theorem ins_sol2 {a C:Addr} {u:V} {n1 n2:Str} {t:FT} (h:t.sol=true):(FT.ins a C [(n1,.leaf (.raw u)),(n2,t)]).sol=true:=by
  rw [FT.sol,FT.solF,FT.solF,FT.solF,h,FT.sol];rfl
theorem ins_sol4 {a C:Addr} {u:V} {n1 n2 n3 n4:Str} {t1 t2 t3:FT} (h1:t1.sol=true) (h2:t2.sol=true) (h3:t3.sol=true):(FT.ins a C [(n1,.leaf (.raw u)),(n2,t1),(n3,t2),(n4,t3)]).sol=true:=by
  rw [FT.sol,FT.solF,FT.solF,FT.solF,FT.solF,FT.solF,h1,h2,h3,FT.sol];rfl
theorem ins_sol5 {a C:Addr} {u:V} {n1 n2 n3 n4 n5:Str} {t1 t2 t3 t4:FT} (h1:t1.sol=true) (h2:t2.sol=true) (h3:t3.sol=true) (h4:t4.sol=true):(FT.ins a C [(n1,.leaf (.raw u)),(n2,t1),(n3,t2),(n4,t3),(n5,t4)]).sol=true:=by
  rw [FT.sol,FT.solF,FT.solF,FT.solF,FT.solF,FT.solF,FT.solF,h1,h2,h3,h4,FT.sol];rfl
theorem nu_ok {q:Rat} (h1:q.num.natAbs < 10 ^ 19) (h2:q.den < 10 ^ 19):Sm 267 7 1000000 (rD q)∧nk (rD q)=true∧soT (rD q)=true:=
  ⟨(sm_rat (Nat.lt_of_lt_of_le h1 (Nat.pow_le_pow_right (by decide) (by decide))) (Nat.lt_of_lt_of_le h2 (Nat.pow_le_pow_right (by decide) (by decide)))).mono (by decide) (by decide),rfl,rfl⟩
theorem nb_sgn (i:Int):32∉sgL i:=fun h=>by
  unfold sgL at h
  split at h
  · simp at h
  · cases h
theorem nb_rat (q:Rat):32∉TL.tl (ratS q):=fun h=>by
  rw [show TL.tl (ratS q)=_ from tl_ratS q] at h
  rcases List.mem_append.mp h with h | h
  · rcases List.mem_append.mp h with h | h
    · exact nb_sgn _ h
    · exact TL.numL_free (by omega) h
  · unfold denL at h
    split at h
    · cases h
    · rcases List.mem_cons.mp h with h | h
      · exact absurd h (by decide)
      · exact TL.numL_free (by omega) h
theorem spl_join:∀ {w:Str} {ws:List Str},32∉TL.tl w→(∀ z∈ws,32∉TL.tl z)→TL.spl [32] 0 [] (TL.tl (Str.join " " (w::ws)))=TL.tl w::ws.map TL.tl
  | w,[],h,_=>by
    show TL.spl [32] 0 [] (TL.tl w)=_
    rw [TL.spl_last1 h];rfl
  | w,v::r,h,hr=>by
    show TL.spl [32] 0 [] (TL.tl (w++(" ":Str)++Str.join " " (v::r)))=_
    rw [TL.tl_append,TL.tl_append,List.append_assoc,show TL.tl (" ":Str)=[32] by decide +kernel]
    have:=TL.spl_part1 (s:=32) (S:=[]) (p:=TL.tl w) (rest:=TL.tl (Str.join " " (v::r))) (acc:=[]) h
    rw [List.nil_append] at this
    rw [this,spl_join (hr v (List.mem_cons_self ..)) fun z hz=>hr z (List.mem_cons_of_mem _ hz)]
    rfl
theorem split_join {ws:List Str} (ne:ws≠[]) (h:∀ z∈ws,32∉TL.tl z):Txt.split (Txt.join " " ws) " "=ws:=by
  have ej:Txt.join " " ws=Str.join " " ws:=StrLaws.glued_eq_join " " ws
  have e:TL.tl (" ":Str)=[32]:=by decide +kernel
  have sp:=TL.split_spl (Txt.join " " ws) " " (by rw [e];simp) (TL.kind_ok (by decide +kernel))
  rw [e] at sp
  refine TL.map_tl_inj (sp.trans ?_)
  cases ws with
  | nil=>exact absurd rfl ne
  | cons w r=>
    rw [ej,spl_join (h w (List.mem_cons_self ..)) fun z hz=>h z (List.mem_cons_of_mem _ hz)]
    rfl
theorem split_top (q:Rat):Txt.split ("top "++ratS q) " "=[("top":Str),ratS q]:=by
  have e:("top ":Str)++ratS q=Txt.join " " [("top":Str),ratS q]:=by
    rw [show Txt.join " " [("top":Str),ratS q]=Str.join " " [("top":Str),ratS q] from StrLaws.glued_eq_join " " _]
    rfl
  rw [e]
  exact split_join (by simp) fun z hz=>by
    simp only [List.mem_cons,List.not_mem_nil,or_false] at hz
    rcases hz with rfl | rfl
    · decide +kernel
    · exact nb_rat q
abbrev wdL (q:Rat):List Str:=["open","solved","barred","top "++ratS q,"endless"]
abbrev rowG (c w:Str) (b:Bool):D:=.lst [.str c,.str w,.bl b,.str ("Answer("++w++")"),.bl true,.bl true,.bl b]
abbrev gotL (q:Rat):List D:=[rowG "open" "open" false,rowG "solved" "solved" true,rowG "barred" "barred" false,rowG "top" ("top "++ratS q) true,rowG "endless" "endless" true]
section
variable {g:TDG} {tt:TDT} {te:TD} {vs:List Nat} {Q:DV→DSt→Prop}
theorem lcL_five (d0 d1 d2 d3 d4:D) (ys:List D) (S:DSt) {y0 y1 y2 y3 y4:D} (ey:ys=[y0,y1,y2,y3,y4])
    (h0:∀ (M:D→DSt→Prop) (A:DSt→Prop),M y0 S→g d0 S fun s1=>tt s1 (fun b s2=>Br b (te s2 (fun x s3=>match pubV x with
      | .d y=>M y (wipeD s3 vs)
      | _=>False) fun _ _ _=>False) (A (wipeD s2 vs))) fun _ _ _=>False)
    (h1:∀ (M:D→DSt→Prop) (A:DSt→Prop),M y1 S→g d1 S fun s1=>tt s1 (fun b s2=>Br b (te s2 (fun x s3=>match pubV x with
      | .d y=>M y (wipeD s3 vs)
      | _=>False) fun _ _ _=>False) (A (wipeD s2 vs))) fun _ _ _=>False)
    (h2:∀ (M:D→DSt→Prop) (A:DSt→Prop),M y2 S→g d2 S fun s1=>tt s1 (fun b s2=>Br b (te s2 (fun x s3=>match pubV x with
      | .d y=>M y (wipeD s3 vs)
      | _=>False) fun _ _ _=>False) (A (wipeD s2 vs))) fun _ _ _=>False)
    (h3:∀ (M:D→DSt→Prop) (A:DSt→Prop),M y3 S→g d3 S fun s1=>tt s1 (fun b s2=>Br b (te s2 (fun x s3=>match pubV x with
      | .d y=>M y (wipeD s3 vs)
      | _=>False) fun _ _ _=>False) (A (wipeD s2 vs))) fun _ _ _=>False)
    (h4:∀ (M:D→DSt→Prop) (A:DSt→Prop),M y4 S→g d4 S fun s1=>tt s1 (fun b s2=>Br b (te s2 (fun x s3=>match pubV x with
      | .d y=>M y (wipeD s3 vs)
      | _=>False) fun _ _ _=>False) (A (wipeD s2 vs))) fun _ _ _=>False)
    (q:Q (.own (.lst ys)) S):dLcL g tt te vs Q [d0,d1,d2,d3,d4] [] S:=by
  have hz:szl=16777216:=rfl
  rw [lcL_cons]
  refine h0 (fun y s=>([]:List D).length < szl∧dLcL g tt te vs Q [d1,d2,d3,d4] ([]++[y]) s) (fun s=>dLcL g tt te vs Q [d1,d2,d3,d4] [] s) ⟨by show 0 < szl;omega,?_⟩
  rw [lcL_cons]
  refine h1 (fun y s=>([y0]:List D).length < szl∧dLcL g tt te vs Q [d2,d3,d4] ([y0]++[y]) s) (fun s=>dLcL g tt te vs Q [d2,d3,d4] [y0] s) ⟨by show 1 < szl;omega,?_⟩
  rw [lcL_cons]
  refine h2 (fun y s=>([y0,y1]:List D).length < szl∧dLcL g tt te vs Q [d3,d4] ([y0,y1]++[y]) s) (fun s=>dLcL g tt te vs Q [d3,d4] [y0,y1] s) ⟨by show 2 < szl;omega,?_⟩
  rw [lcL_cons]
  refine h3 (fun y s=>([y0,y1,y2]:List D).length < szl∧dLcL g tt te vs Q [d4] ([y0,y1,y2]++[y]) s) (fun s=>dLcL g tt te vs Q [d4] [y0,y1,y2] s) ⟨by show 3 < szl;omega,?_⟩
  rw [lcL_cons]
  refine h4 (fun y s=>([y0,y1,y2,y3]:List D).length < szl∧dLcL g tt te vs Q [] ([y0,y1,y2,y3]++[y]) s) (fun s=>dLcL g tt te vs Q [] [y0,y1,y2,y3] s) ⟨by show 4 < szl;omega,?_⟩
  rw [lcL_nil]
  subst ey
  exact q
end
theorem prP_shap {n:Int} (h0:0≤n) (h1:n < 9):shap (.lst [normR (rowP n)]):=by
  have e:normR (rowP n)=.tup [.tup [rD ((1:Int):Rat)],rD ((n:Int):Rat),.bl false]:=rfl
  rw [e]
  have r1:Sm 267 1 600 (rD ((1:Int):Rat)):=(sm_rat (b:=267) (by decide) (by decide)).mono (by decide) (by decide)
  have rn:Sm 267 1 600 (rD ((n:Int):Rat)):=(sm_rat (b:=267) (Nat.lt_of_lt_of_le (show (((n:Int):Rat).num).natAbs < 10 ^ 2 by show n.natAbs < 100;omega) (Nat.pow_le_pow_right (by decide) (by decide))) (Nat.lt_of_lt_of_le (show (((n:Int):Rat).den) < 10 ^ 2 by show 1 < 100;decide) (Nat.pow_le_pow_right (by decide) (by decide)))).mono (by decide) (by decide)
  exact (sm_lst (sms_cons (sm_tup (sms_cons (sm_tup (sms_cons r1 sms_nil)) (sms_cons rn (sms_cons sm_bl sms_nil)))) sms_nil)).sh
theorem got_sm {q:Rat} (h1:q.num.natAbs < 10 ^ 50) (h2:q.den < 10 ^ 50):Sms 267 1 100000 (gotL q):=by
  have row:∀ (c w:Str) (b:Bool),okS c→okS w→c.length≤10→w.length≤210→Sm 267 1 8000 (rowG c w b):=fun c w b oc ow lc lw=>
    (sm_lst (sms_cons (sm_str (m:=10) oc lc) (sms_cons (sm_str (m:=210) ow lw) (sms_cons sm_bl (sms_cons (sm_str (m:=220) (ok_app (ok_app (ok_of _) ow) (ok_of _)) (by rw [str_app_len,str_app_len];show 7 + w.length + 1≤220;omega)) (sms_cons sm_bl (sms_cons sm_bl (sms_cons sm_bl sms_nil)))))))).mono (by decide) (by decide)
  have tl:=ratS_short h1 h2
  exact (sms_cons (row _ _ _ (ok_of _) (ok_of _) (by decide) (by decide)) (sms_cons (row _ _ _ (ok_of _) (ok_of _) (by decide) (by decide)) (sms_cons (row _ _ _ (ok_of _) (ok_of _) (by decide) (by decide)) (sms_cons (row _ _ _ (ok_of _) (ok_app (ok_of _) (ratS_len h1 h2 (by decide) (by decide)).2) (by decide) (by rw [str_app_len];show 4 + (ratS q).length≤210;omega)) (sms_cons (row _ _ _ (ok_of _) (ok_of _) (by decide) (by decide)) sms_nil))))).mono (by decide) (by decide)
theorem prP_eq (n:Int):(decide ((1:Int)=1) && eqDs [normR (rowP n)] [normR (rowP n)])=true:=by
  rw [Bool.and_eq_true]
  exact ⟨by decide,eqDs_refl _ (pls_cons (norm_good (rowP_ok n).1 (rowP_ok n).2).1 pls_nil)⟩
theorem ifl_cut {is:List (Nat × Nat)} {c:TDT} {t u:TDF} {E:EndsF} {sl S:DSt} {fl:Fl} (lc:lendC is fl sl) (nm:noMu sl=true) (e:lendSl is fl sl=S) (q:c S (fun b s1=>s1=S∧Br b (t E sl fl) (u E sl fl)) (fun cls fs s1=>s1=S∧D.solF fs=true∧E.xc cls fs sl)):fIfL is c t u E sl fl:=by
  subst e;exact ⟨lc,nm,q⟩
theorem getP_mid (dn:Fl) (c:FT) (rm:Fl):getP (dn++c::rm) [dn.length]=some c:=by
  show (dn++c::rm)[dn.length]?=some c
  rw [List.getElem?_append_right (Nat.le_refl _),Nat.sub_self];rfl
theorem getP_mid2 (dn:Fl) (a:Addr) (xs:List FT) (rm:Fl) (m:Nat):getP (dn++.lst a xs::rm) [dn.length,m]=xs[m]?:=by
  show (match (dn++FT.lst a xs::rm)[dn.length]? with
    | some (.lst _ xs)=>getP xs [m]
    | some (.ins _ _ fs)=>getP (fs.map fun (p:Str × FT)=>p.2) [m]
    | _=>none)=_
  rw [List.getElem?_append_right (Nat.le_refl _),Nat.sub_self];rfl
theorem setP_mid (dn:Fl) (c t:FT) (rm:Fl):setP (dn++c::rm) [dn.length] t=dn++t::rm:=by
  show (dn++c::rm).set dn.length t=_
  rw [List.set_append_right _ _ (Nat.le_refl _),Nat.sub_self];rfl
theorem setP_mid2 (dn:Fl) (a:Addr) (xs:List FT) (rm:Fl) (m:Nat) (t:FT):setP (dn++.lst a xs::rm) [dn.length,m] t=dn++.lst a (xs.set m t)::rm:=by
  have e:(dn++FT.lst a xs::rm)[dn.length]?=some (.lst a xs):=by rw [List.getElem?_append_right (Nat.le_refl _),Nat.sub_self];rfl
  have e2:setP xs [m] t=xs.set m t:=by unfold setP;rfl
  unfold setP
  rw [e]
  show (dn++FT.lst a xs::rm).set dn.length (.lst a (setP xs [m] t))=_
  rw [List.set_append_right _ _ (Nat.le_refl _),Nat.sub_self,e2];rfl
theorem kp_float {t:FT} {dr:List D} (h:t.d=kpD dr) (s:t.sol=true):∃ a ys b zs,t=.lst a (ys++[.lst b zs])∧ys.length=dr.length∧zs.length=1:=by
  obtain ⟨a,xs,rfl,e,s1⟩:=FT.lst_of h s
  rw [dL_map] at e
  obtain ⟨ys,r,rfl,e1,e2⟩:=List.map_eq_append_iff.mp e
  cases r with
  | nil=>cases e2
  | cons y r=>
    rw [List.map_cons] at e2
    injection e2 with e2 e3
    have:r=[]:=by cases r with
      | nil=>rfl
      | cons _ _=>cases e3
    subst this
    have sy:y.sol=true:=(solL_all _).mp s1 y (by simp)
    obtain ⟨b,zs,rfl,e4,_⟩:=FT.lst_of e2 sy
    refine ⟨a,ys,b,zs,rfl,by rw [← e1,List.length_map],?_⟩
    have:=congrArg List.length e4
    rw [dL_map,List.length_map] at this
    exact this
theorem forF_each {g:TDG} {tb:TDF} {E:EndsF} (I:Option DV→DSt→Prop)
    (step:∀ (N:DSt→Fl→Prop) (dn:Fl) (a:Addr) (ys:List FT) (b:Addr) (zs:List FT) (rm:Fl) (s:DSt),ys.length≤2→zs.length≤1→(∃ x,I x s)→(∀ c x s',I x s'→N s' (dn++c::rm))→g (.raw (.ref a)) s fun s1=>tb { nx:=N,ct:=N,bk:=E.nx,rt:=E.rt,xc:=E.xc } s1 (dn++.lst a (ys++[.lst b zs])::rm))
    (fin:∀ x s fl,I x s→E.nx s fl):∀ (dn rm:Fl),(∀ t∈rm,∃ a ys b zs,t=.lst a (ys++[.lst b zs])∧ys.length≤2∧zs.length≤1)→∀ (x:Option DV) (s:DSt),I x s→fForL g tb E (rm.map FT.top) s (dn++rm)
  | dn,[],_,x,s,h=>by unfold fForL;exact fin x s _ h
  | dn,t::rm,hr,x,s,h=>by
    obtain ⟨a,ys,b,zs,rfl,l1,l2⟩:=hr t (List.mem_cons_self ..)
    rw [List.map_cons]
    unfold fForL
    refine step _ dn a ys b zs rm s l1 l2 ⟨x,h⟩ fun c x' s' h'=>?_
    have q:=forF_each I step fin (dn++[c]) rm (fun t ht=>hr t (List.mem_cons_of_mem _ ht)) x' s' h'
    rw [List.append_assoc] at q
    exact q
theorem at_last {α:Type} (xs:List α) (x:α):atI (xs++[x]) (-1)=some x:=by
  unfold atI
  have e:ixN (xs++[x]).length (-1)=some xs.length:=by
    unfold ixN
    simp
    omega
  rw [e]
  show (xs++[x])[xs.length]?=some x
  rw [List.getElem?_append_right (Nat.le_refl _),Nat.sub_self];rfl
theorem noMu_set {x:D}:∀ (i:Nat) {l:DSt},noMu l=true→noMu (l.set i (some (.d x)))=true
  | _,[],h=>h
  | 0,z::r,h=>by
    show noMu r=true
    exact noMu_tl h
  | i + 1,z::r,h=>by
    have q:=noMu_set (x:=x) i (noMu_tl h)
    cases z with
    | none=>exact q
    | some v=>cases v<;>first | exact q | cases h
theorem noBl_set {x:D}:∀ (i:Nat) {l:DSt},noBl l=true→noBl (l.set i (some (.d x)))=true
  | _,[],h=>h
  | 0,z::r,h=>by
    show noBl r=true
    exact noBl_tl h
  | i + 1,z::r,h=>by
    have q:=noBl_set (x:=x) i (noBl_tl h)
    cases z with
    | none=>exact q
    | some v=>
      cases v with
      | bor o=>cases o<;>first | exact q | cases h
      | _=>exact q
theorem od_ok {o:D} (h:o=.non∨o=.int 3∨o=.str "3/2"∨o=.lst [.int 1,.int 2]):(Sm 267 7 1000000 o∧nk o=true∧soT o=true)∧kindD o=true∧pairK o∧ratioD o=false:=by
  rcases h with rfl | rfl | rfl | rfl
  · exact ⟨⟨sm_non.mono (by decide) (by decide),rfl,rfl⟩,rfl,pl_non.pair,rfl⟩
  · exact ⟨⟨(i267 (by decide)).mono (by decide) (by decide),rfl,rfl⟩,rfl,pl_int.pair,rfl⟩
  · exact ⟨⟨(sm_str (m:=3) (ok_of _) (by decide)).mono (by decide) (by decide),rfl,rfl⟩,rfl,pl_str.pair,rfl⟩
  · exact ⟨⟨(sm_lst (sms_cons (i267 (by decide)) (sms_cons (i267 (by decide)) sms_nil))).mono (by decide) (by decide),rfl,rfl⟩,rfl,(pl_lst (pls_cons pl_int (pls_cons pl_int pls_nil))).pair,rfl⟩
theorem nil_ok:AsOk (.lst []):=⟨(sm_lst sms_nil).mono (by decide) (by decide),rfl,rfl⟩
theorem tup_ok:AsOk (.tup [.int 1,.non]):=⟨(sm_tup (sms_cons (i267 (by decide)) (sms_cons sm_non sms_nil))).mono (by decide) (by decide),rfl,rfl⟩
theorem lst_ok:AsOk (.lst [.int 1,.non]):=⟨(sm_lst (sms_cons (i267 (by decide)) (sms_cons sm_non sms_nil))).mono (by decide) (by decide),rfl,rfl⟩
abbrev n_law:List Str:=["_law_script","_law_src","_law_turn","_law_made","_law_number","_law_inner","_law_given","_law_kept","_law_value","_law_some","_law_words","_law_again","_law_got","_law_due","_law_lists","_law_row","_law_odd","_law_k","_law_one"]
theorem sc_law:FnScope n_law ["_law_script"] (defScope s_law):=⟨rfl,rfl,rfl,by decide +kernel,rfl,by decide +kernel,by decide +kernel⟩
theorem bi__law_source (T:Tx P K mg base a d):Binds K (d i__law_source) ["_law_script"] []:=binds_of T.F__law_source fun _ _ _ _ _ _ us hl=>match us,hl with | [_],_=>rfl
theorem ok_law (T:Tx P K mg base a d):FnR P w K mg base 22 (a i_law) (d i_law) ["_law_script"] (spLaw K):=by
  have G_Answer___bool__:FnG P w K mg base 1 (a i_Answer___bool__) (d i_Answer___bool__) ["self"] (sp1 fun me Q _=>Q (.d (.bl false))):=ok_Answer___bool__ T
  have G_Answer___init__:FnR P w K mg base 1 (a i_Answer___init__) (d i_Answer___init__) ["self","problem"] (upIN K (He.ga K "Answer") (fun args Q E=>∃ pr:D,args=[.d pr]∧(∀ a,Q (.ins a (He.ga K "Answer") [("own_problem",.leaf pr)])))):=ok_Answer___init__ T
  have G_Answer___repr__:FnG P w K mg base 6 (a i_Answer___repr__) (d i_Answer___repr__) ["self"] (sp1 fun me Q _=>∃ k:Str,ToldK K me k∧k.length < 1000∧Q (.d (.str ("Answer("++k++")")))):=ok_Answer___repr__ T
  have G_Answer_holds:FnG P w K mg base 1 (a i_Answer_holds) (d i_Answer_holds) ["self"] (sp1 fun me Q _=>Q (.d (.bl false))):=ok_Answer_holds T
  have G_Answer_problem:FnG P w K mg base 1 (a i_Answer_problem) (d i_Answer_problem) ["self"] (sp1 fun me Q _=>∃ (C:Addr) (fs:List (Str × D)) (d:D),me=.ins C fs∧Cls K C∧NoAttr K C "own_problem"∧fs.lookup ("own_problem":Str)=some d∧Q (.d d)):=ok_Answer_problem T
  have G_Answer_told:FnG P w K mg base 1 (a i_Answer_told) (d i_Answer_told) ["self"] (sp1 fun me Q _=>∃ (c k:Str) (fs:List (Str × D)),(c,k)∈kindsL∧me=.ins (He.ga K c) fs∧fs.lookup ("KIND":Str)=none∧Q (.d (.str k))):=ok_Answer_told T
  have G_Barred___init__:FnR P w K mg base 10 (a i_Barred___init__) (d i_Barred___init__) ["self","problem","weights"] (upIN K (He.ga K "Barred") (fun args Q E=>∃ pr:D,∃ vs:D,args=[.d pr,.d vs]∧(AsOk vs∧∀ t:FT,t.d=asv vs→t.sol=true→∀ a,Q (.ins a (He.ga K "Barred") [("own_problem",.leaf pr),("own_weights",t)])))):=ok_Barred___init__ T
  have G_Barred_weights:FnR P w K mg base 10 (a i_Barred_weights) (d i_Barred_weights) ["self"] (upSN K (fun args Q E=>∃ me:D,args=[.d me]∧(∃ (C:Addr) (fs:List (Str × D)) (d:D),me=.ins C fs∧Cls K C∧NoAttr K C "own_weights"∧fs.lookup ("own_weights":Str)=some d∧AsOk d∧∀ t:FT,t.d=asv d→t.sol=true→Q t))):=ok_Barred_weights T
  have G_Endless___init__:FnR P w K mg base 11 (a i_Endless___init__) (d i_Endless___init__) ["self","problem","factors","values","direction"] (upIN K (He.ga K "Endless") (fun args Q E=>∃ pr:D,∃ gs:D,∃ vs:D,∃ ws:D,args=[.d pr,.d gs,.d vs,.d ws]∧(AsOk gs∧AsOk vs∧AsOk ws∧∀ t1 t2 t3:FT,t1.d=asv vs→t1.sol=true→t2.d=asv gs→t2.sol=true→t3.d=asv ws→t3.sol=true→∀ a,Q (.ins a (He.ga K "Endless") [("own_problem",.leaf pr),("own_values",t1),("own_factors",t2),("own_direction",t3)])))):=ok_Endless___init__ T
  have G_Endless_direction:FnR P w K mg base 10 (a i_Endless_direction) (d i_Endless_direction) ["self"] (upSN K (fun args Q E=>∃ me:D,args=[.d me]∧(∃ (C:Addr) (fs:List (Str × D)) (d:D),me=.ins C fs∧Cls K C∧NoAttr K C "own_direction"∧fs.lookup ("own_direction":Str)=some d∧AsOk d∧∀ t:FT,t.d=asv d→t.sol=true→Q t))):=ok_Endless_direction T
  have G_Endless_factors:FnR P w K mg base 10 (a i_Endless_factors) (d i_Endless_factors) ["self"] (upSN K (fun args Q E=>∃ me:D,args=[.d me]∧(∃ (C:Addr) (fs:List (Str × D)) (d:D),me=.ins C fs∧Cls K C∧NoAttr K C "own_factors"∧fs.lookup ("own_factors":Str)=some d∧AsOk d∧∀ t:FT,t.d=asv d→t.sol=true→Q t))):=ok_Endless_factors T
  have G_Problem___eq__:FnG P w K mg base 1 (a i_Problem___eq__) (d i_Problem___eq__) ["self","other"] (sp2 fun me ot Q _=>∃ (n:Int) (rs:List D),me=prob K n rs∧shap (.lst rs)∧((∃ (m:Int) (ss:List D),ot=prob K m ss∧shap (.lst ss)∧Q (.d (.bl (decide (n=m) && eqDs rs ss))))∨((tyD ot).isSome=true∧Q (.d (.bl false))))):=ok_Problem___eq__ T
  have G_Problem___init__:FnR P w K mg base 5 (a i_Problem___init__) (d i_Problem___init__) ["self","size","rows"] (upIn K (He.ga K "Problem") fun args Q E=>∃ sz:D,∃ rs:DV,args=[.d sz,rs]∧Lent rs∧(Pl sz∧(numD 0 60 sz=false→E (.ref (He.ga K "InvalidNumber")) (xd_InvalidNumber sz))∧∀ n:Int,sz=.int n→numD 0 60 sz=true→∃ ds,itemsV rs=some ds∧Pls ds∧(∀ d∈ds,smallR d)∧ds.length≤100000∧(∀ a d b,ds=a++d::b→(∀ e∈a,rowB n e=true)→rowB n d=false→E (.ref (He.ga K "InvalidRow")) (xd_InvalidRow (.int (a.length:Int))))∧((∀ d∈ds,rowB n d=true)→Q [("own_size",.int n),("own_rows",.lst (ds.map normR))]))):=ok_Problem___init__ T
  have G_Solved___bool__:FnG P w K mg base 1 (a i_Solved___bool__) (d i_Solved___bool__) ["self"] (sp1 fun me Q _=>Q (.d (.bl true))):=ok_Solved___bool__ T
  have G_Solved___init__:FnR P w K mg base 10 (a i_Solved___init__) (d i_Solved___init__) ["self","problem","values"] (upIN K (He.ga K "Solved") (fun args Q E=>∃ pr:D,∃ vs:D,args=[.d pr,.d vs]∧(AsOk vs∧∀ t:FT,t.d=asv vs→t.sol=true→∀ a,Q (.ins a (He.ga K "Solved") [("own_problem",.leaf pr),("own_values",t)])))):=ok_Solved___init__ T
  have G_Solved_numbers:FnR P w K mg base 10 (a i_Solved_numbers) (d i_Solved_numbers) ["self"] (upSN K (fun args Q E=>∃ me:D,args=[.d me]∧(∃ (C:Addr) (fs:List (Str × D)) (d:D),me=.ins C fs∧Cls K C∧NoAttr K C "own_values"∧fs.lookup ("own_values":Str)=some d∧AsOk d∧∀ t:FT,t.d=asv d→t.sol=true→Q t))):=ok_Solved_numbers T
  have G_Top___init__:FnR P w K mg base 11 (a i_Top___init__) (d i_Top___init__) ["self","problem","factors","number","values","weights"] (upIN K (He.ga K "Top") (fun args Q E=>∃ pr:D,∃ gs:D,∃ nu:D,∃ vs:D,∃ ws:D,args=[.d pr,.d gs,.d nu,.d vs,.d ws]∧(AsOk gs∧AsOk vs∧AsOk ws∧(Sm 267 7 1000000 nu∧nk nu=true∧soT nu=true)∧∀ t1 t2 t3 t4:FT,t1.d=asv vs→t1.sol=true→t2.d=asv gs→t2.sol=true→t3.d=nu→t3.sol=true→t4.d=asv ws→t4.sol=true→∀ a,Q (.ins a (He.ga K "Top") [("own_problem",.leaf pr),("own_values",t1),("own_factors",t2),("number",t3),("own_weights",t4)])))):=ok_Top___init__ T
  have G_Top_factors:FnR P w K mg base 10 (a i_Top_factors) (d i_Top_factors) ["self"] (upSN K (fun args Q E=>∃ me:D,args=[.d me]∧(∃ (C:Addr) (fs:List (Str × D)) (d:D),me=.ins C fs∧Cls K C∧NoAttr K C "own_factors"∧fs.lookup ("own_factors":Str)=some d∧AsOk d∧∀ t:FT,t.d=asv d→t.sol=true→Q t))):=ok_Top_factors T
  have G_Top_told:FnG P w K mg base 5 (a i_Top_told) (d i_Top_told) ["self"] (sp1 fun me Q _=>∃ (fs:List (Str × D)) (d:D),me=.ins (He.ga K "Top") fs∧fs.lookup ("KIND":Str)=none∧fs.lookup ("number":Str)=some d∧((∃ q:Rat,d=rD q∧(q.num.natAbs < 10 ^ 50∧q.den < 10 ^ 50)∧Q (.d (.str ("top "++ratS q))))∨(kindD d=true∧pairK d∧ratioD d=false∧Q (.d (.str "top"))))):=ok_Top_told T
  have G_Top_weights:FnR P w K mg base 10 (a i_Top_weights) (d i_Top_weights) ["self"] (upSN K (fun args Q E=>∃ me:D,args=[.d me]∧(∃ (C:Addr) (fs:List (Str × D)) (d:D),me=.ins C fs∧Cls K C∧NoAttr K C "own_weights"∧fs.lookup ("own_weights":Str)=some d∧AsOk d∧∀ t:FT,t.d=asv d→t.sol=true→Q t))):=ok_Top_weights T
  have G__law_draw:FnG P w K mg base 1 (a i__law_draw) (d i__law_draw) ["_law_src","_law_many"] (spDraw):=ok__law_draw T
  have G__law_of:FnG P w K mg base 2 (a i__law_of) (d i__law_of) ["_law_src","_law_some"] (spOf):=ok__law_of T
  have G__law_same:FnG P w K mg base 1 (a i__law_same) (d i__law_same) ["_law_found","_law_due"] (spSame):=ok__law_same T
  have G__law_text:FnG P w K mg base 2 (a i__law_text) (d i__law_text) ["_law_value"] (sp1 fun x Q _=>∃ q:Rat,x=rD q∧q.num.natAbs < 10 ^ 100∧q.den < 10 ^ 100∧Q (.d (.str (ratS q)))):=ok__law_text T
  have G__law_wide:FnG P w K mg base 2 (a i__law_wide) (d i__law_wide) ["_law_src"] (sr0 fun Q _=>∀ q:Rat,q.num.natAbs < 10 ^ 19→q.den < 10 ^ 19→Q (.d (rD q))):=ok__law_wide T
  obtain ⟨cc,hcc,hmem⟩:=lam_mem T.F_law (by decide)
  refine fnRc_of T.F_law sc_law (fun vs H Q E h=>?_) (fun cdv hcd A outer s H vs Q E hr hg h=>?_)
  · obtain ⟨c,ns,rfl,_⟩:=h;rfl
  · obtain ⟨c,ns,rfl,hS,hlen,htb,huq,q⟩:=h
    have hcode:cdv=.ref cc:=hcd.symm.trans hcc
    refine ⟨_,pss_cons (ps_set (i:=1) sc_law.nd rfl (Or.inr rfl) (pe_callR (ok__law_source T) (hr.mono (by decide)) hg (by rfl) T.m__law_source T.F__law_source.kp (bi__law_source T) (pa_cons (pv 0) pa_nil)))
      (up_ss (fun cls d _ H=>E cls d H) (ds_cons (ds_for (passes_of rfl) rfl (di_rng1 (by rfl) T.n_range (da_cons de_int da_nil)) (dg_name (i:=2) sc_law.nd rfl (Or.inl rfl)) (ds_cons (ds_set (i:=3) sc_law.nd rfl (Or.inr rfl) (de_make T.mk_Problem G_Problem___init__ (hr.mono (by decide)) hg (tkOf rfl rfl rfl rfl) (B_Problem___init___3 T) rfl (by rfl) T.m_Problem (da_cons de_int (da_cons (de_lst (da_cons (de_tup (da_cons (de_lst (da_cons de_int da_nil)) (da_cons (de_call G__law_draw (hr.mono (by decide)) hg (tkOf rfl rfl rfl rfl) (B__law_draw_2 T) (by rfl) T.m__law_draw T.F__law_draw.kp (da_cons (de_var (pv 1)) (da_cons de_int da_nil))) (da_cons de_bl da_nil)))) da_nil)) da_nil))))
      (ds_cons (ds_set (i:=4) sc_law.nd rfl (Or.inl rfl) (de_call G__law_wide (hr.mono (by decide)) hg (tkOf rfl rfl rfl rfl) (B__law_wide_1 T) (by rfl) T.m__law_wide T.F__law_wide.kp (da_cons (de_var (pv 1)) da_nil)))
      (dss_reg (n:=6) (fss_cons (fs_set (i:=5) sc_law.nd rfl (Or.inl rfl) (fe_dn (dn_own (de_lst (da_cons de_int da_nil)))))
      (fss_cons (fs_set (i:=6) sc_law.nd rfl (Or.inl rfl) (fe_add (fe_dn (dn_own (de_lc (own:=[("_law_k",17)]) rfl sc_law.nd (di_rng1 (by rfl) T.n_range (da_cons (de_call G__law_draw (hr.mono (by decide)) hg (tkOf rfl rfl rfl rfl) (B__law_draw_2 T) (by rfl) T.m__law_draw T.F__law_draw.kp (da_cons (de_var (pv 1)) (da_cons de_int da_nil))) da_nil)) (blkOk_by (own:=[("_law_k",17)]) (N:=n_law) (sc:=(defScope s_law)) (by decide +kernel)) (fun _ _ _ _ _=>(dg_name (i:=17) sc_law.nd rfl (Or.inl rfl))) (fun _ _ _ _ _=>dts_nil) (fun _ _ _ _ _=>(de_call G__law_of (hr.mono (by decide)) hg takes0 (B__law_of_2 T) (by rfl) T.m__law_of T.F__law_of.kp (da_cons (de_var (pv 1)) (da_cons (de_lst (da_cons de_non (da_cons de_int (da_cons (de_tup (da_cons de_int (da_cons de_int da_nil))) (da_cons de_str da_nil))))) da_nil))))))) (fe_list (fa_cons (fe_var (pv 5)) fa_nil))))
      (fss_cons (fs_parP (i:=7) (j:=8) rfl sc_law.nd rfl rfl (by decide) rfl rfl (fa_cons (fe_add (fe_lend (dn_own (de_sl (de_see (pv 6)) do_none (do_some (de_neg de_int)))) [(6,0)]) (fe_list (fa_cons (fe_dn (dn_own (de_lst (da_cons de_int da_nil)))) fa_nil))) (fa_cons (fe_dn (dn_leaf (de_call G__law_of (hr.mono (by decide)) hg (tkOf rfl rfl rfl rfl) (B__law_of_2 T) (by rfl) T.m__law_of T.F__law_of.kp (da_cons (de_var (pv 1)) (da_cons (de_lst (da_cons de_non (da_cons de_int (da_cons de_str (da_cons de_bl da_nil))))) da_nil))))) fa_nil)) (by rfl))
      (fss_cons (fs_setP (i:=9) sc_law.nd rfl (Or.inl rfl) (fe_list (fa_cons (fe_dn (dn_make T.mk_Answer G_Answer___init__ (hr.mono (by decide)) hg (tkOf rfl rfl rfl rfl) (B_Answer___init___2 T) rfl (by rfl) T.m_Answer (da_cons (de_var (pv 3)) da_nil))) (fa_cons (fe_raw (i:=3) (fe_lend (dn_make T.mk_Solved G_Solved___init__ (hr.mono (by decide)) hg (tkOf rfl rfl rfl rfl) (B_Solved___init___3 T) rfl (by rfl) T.m_Solved (da_cons (de_var (pv 3)) (da_cons (de_var (pv 6)) da_nil))) [(6,0)])) (fa_cons (fe_raw (i:=3) (fe_lend (dn_make T.mk_Barred G_Barred___init__ (hr.mono (by decide)) hg (tkOf rfl rfl rfl rfl) (B_Barred___init___3 T) rfl (by rfl) T.m_Barred (da_cons (de_var (pv 3)) (da_cons (de_var (pv 6)) da_nil))) [(6,0)])) (fa_cons (fe_raw (i:=3) (fe_lend (dn_make T.mk_Top G_Top___init__ (hr.mono (by decide)) hg (tkOf rfl rfl rfl rfl) (B_Top___init___6 T) rfl (by rfl) T.m_Top (da_cons (de_var (pv 3)) (da_cons (de_var (pv 6)) (da_cons (de_var (pv 4)) (da_cons (de_var (pv 6)) (da_cons (de_var (pv 8)) da_nil)))))) [(6,0)])) (fa_cons (fe_raw (i:=3) (fe_lend (dn_makeK0 T.mk_Endless G_Endless___init__ (hr.mono (by decide)) hg (tkOf rfl rfl rfl rfl) (B_Endless___init___1_values_factors_problem_direction T) rfl (by rfl) T.m_Endless (dk_cons (de_var (pv 8)) (dk_cons (de_var (pv 6)) (dk_cons (de_var (pv 3)) (dk_cons (de_var (pv 6)) dk_nil))))) [(6,0)])) fa_nil)))))))
      (fss_cons (fs_app (fp_var (pv 6)) (fe_dn (dn_leaf de_str)))
      (fss_one (fs_app (fp_var (pv 5)) (fe_dn (dn_leaf de_str)))))))))
      (ds_cons (ds_set (i:=10) sc_law.nd rfl (Or.inr rfl) (de_lst (da_cons de_str (da_cons de_str (da_cons de_str (da_cons (de_add de_str (de_call G__law_text (hr.mono (by decide)) hg (tkOf rfl rfl rfl rfl) (B__law_text_1 T) (by rfl) T.m__law_text T.F__law_text.kp (da_cons (de_var (pv 4)) da_nil))) (da_cons de_str da_nil)))))))
      (ds_cons (ds_for (passes_of rfl) rfl (di_rng1 (by rfl) T.n_range (da_cons de_int da_nil)) (dg_name (i:=11) sc_law.nd rfl (Or.inl rfl)) (ds_cons (ds_setLc (i:=12) (own:=[("_law_one",18)]) rfl sc_law.nd rfl rfl (sw_true rfl rfl rfl (by decide +kernel)) (di_any (de_var (pv 9))) (blkOk_by (own:=[("_law_one",18)]) (N:=n_law) (sc:=(defScope s_law)) (by decide +kernel)) (fun _ _ _ _ _=>(dg_name (i:=18) sc_law.nd rfl (Or.inl rfl))) (fun _ _ _ _ _=>dts_nil) (fun _ _ _ _ _=>(de_lst (da_cons (de_alt (de_con (de_var (pv 18)) T.cl_Answer T.ic_Answer_KIND)
        (de_alt (de_con (de_var (pv 18)) T.cl_Solved T.ic_Solved_KIND)
        (de_alt (de_con (de_var (pv 18)) T.cl_Barred T.ic_Barred_KIND)
        (de_alt (de_con (de_var (pv 18)) T.cl_Top T.ic_Top_KIND)
        (de_con (de_var (pv 18)) T.cl_Endless T.ic_Endless_KIND))))) (da_cons (de_alt (de_meth0 (de_var (pv 18)) T.cl_Answer T.me_Answer_told G_Answer_told (hr.mono (by decide)) hg takes0 (B_Answer_told_1 T))
        (de_alt (de_meth0 (de_var (pv 18)) T.cl_Solved T.me_Solved_told G_Answer_told (hr.mono (by decide)) hg takes0 (B_Answer_told_1 T))
        (de_alt (de_meth0 (de_var (pv 18)) T.cl_Barred T.me_Barred_told G_Answer_told (hr.mono (by decide)) hg takes0 (B_Answer_told_1 T))
        (de_alt (de_meth0 (de_var (pv 18)) T.cl_Top T.me_Top_told G_Top_told (hr.mono (by decide)) hg takes0 (B_Top_told_1 T))
        (de_meth0 (de_var (pv 18)) T.cl_Endless T.me_Endless_told G_Answer_told (hr.mono (by decide)) hg takes0 (B_Answer_told_1 T)))))) (da_cons (de_alt (de_callT (call_boolI T.me_Answer___bool__ G_Answer___bool__ (hr.mono (by decide)) hg (bi_Answer___bool__ T)) sem_boolI (by rfl) T.n_bool (by decide +kernel) (da_cons (de_var (pv 18)) da_nil))
        (de_alt (de_callT (call_boolI T.me_Solved___bool__ G_Solved___bool__ (hr.mono (by decide)) hg (bi_Solved___bool__ T)) sem_boolI (by rfl) T.n_bool (by decide +kernel) (da_cons (de_var (pv 18)) da_nil))
        (de_alt (de_callT (call_boolI T.me_Barred___bool__ G_Answer___bool__ (hr.mono (by decide)) hg (bi_Answer___bool__ T)) sem_boolI (by rfl) T.n_bool (by decide +kernel) (da_cons (de_var (pv 18)) da_nil))
        (de_alt (de_callT (call_boolI T.me_Top___bool__ G_Solved___bool__ (hr.mono (by decide)) hg (bi_Solved___bool__ T)) sem_boolI (by rfl) T.n_bool (by decide +kernel) (da_cons (de_var (pv 18)) da_nil))
        (de_callT (call_boolI T.me_Endless___bool__ G_Solved___bool__ (hr.mono (by decide)) hg (bi_Solved___bool__ T)) sem_boolI (by rfl) T.n_bool (by decide +kernel) (da_cons (de_var (pv 18)) da_nil)))))) (da_cons (de_alt (de_callB (call_reprI T.me_Answer___repr__ G_Answer___repr__ (hr.mono (by decide)) hg (bi_Answer___repr__ T)) sem_reprI (by rfl) T.n_repr (by decide +kernel) (da_cons (de_var (pv 18)) da_nil))
        (de_alt (de_callB (call_reprI T.me_Solved___repr__ G_Answer___repr__ (hr.mono (by decide)) hg (bi_Answer___repr__ T)) sem_reprI (by rfl) T.n_repr (by decide +kernel) (da_cons (de_var (pv 18)) da_nil))
        (de_alt (de_callB (call_reprI T.me_Barred___repr__ G_Answer___repr__ (hr.mono (by decide)) hg (bi_Answer___repr__ T)) sem_reprI (by rfl) T.n_repr (by decide +kernel) (da_cons (de_var (pv 18)) da_nil))
        (de_alt (de_callB (call_reprI T.me_Top___repr__ G_Answer___repr__ (hr.mono (by decide)) hg (bi_Answer___repr__ T)) sem_reprI (by rfl) T.n_repr (by decide +kernel) (da_cons (de_var (pv 18)) da_nil))
        (de_callB (call_reprI T.me_Endless___repr__ G_Answer___repr__ (hr.mono (by decide)) hg (bi_Answer___repr__ T)) sem_reprI (by rfl) T.n_repr (by decide +kernel) (da_cons (de_var (pv 18)) da_nil)))))) (da_cons (de_cmp (op_eqI T.me_Problem___eq__ G_Problem___eq__ (hr.mono (by decide)) hg (bi_Problem___eq__ T)) (sem_cmpI (K:=K) (n:=false)) (de_alt (de_prop (de_var (pv 18)) T.cl_Answer T.pr_Answer_problem G_Answer_problem (hr.mono (by decide)) hg (bi_Answer_problem T))
        (de_alt (de_prop (de_var (pv 18)) T.cl_Solved T.pr_Solved_problem G_Answer_problem (hr.mono (by decide)) hg (bi_Answer_problem T))
        (de_alt (de_prop (de_var (pv 18)) T.cl_Barred T.pr_Barred_problem G_Answer_problem (hr.mono (by decide)) hg (bi_Answer_problem T))
        (de_alt (de_prop (de_var (pv 18)) T.cl_Top T.pr_Top_problem G_Answer_problem (hr.mono (by decide)) hg (bi_Answer_problem T))
        (de_prop (de_var (pv 18)) T.cl_Endless T.pr_Endless_problem G_Answer_problem (hr.mono (by decide)) hg (bi_Answer_problem T)))))) (de_var (pv 3)) (nomark _)) (da_cons (de_callB call_isi (sem_isiS (K:=K) (C:=He.ga K "Answer")) (by rfl) T.n_isinstance (by decide +kernel) (da_cons (de_see (pv 18)) (da_cons (de_glob (v:=.ref (He.ga K "Answer")) (d:=.raw (.ref (He.ga K "Answer"))) (by rfl) T.m_Answer rfl (fun _=>.raw _)) da_nil))) (da_cons (de_callB call_isi (sem_isiS (K:=K) (C:=He.ga K "Solved")) (by rfl) T.n_isinstance (by decide +kernel) (da_cons (de_see (pv 18)) (da_cons (de_glob (v:=.ref (He.ga K "Solved")) (d:=.raw (.ref (He.ga K "Solved"))) (by rfl) T.m_Solved rfl (fun _=>.raw _)) da_nil))) da_nil))))))))))
      (ds_cons (ds_setLc (i:=13) (own:=[("_law_k",17)]) rfl sc_law.nd rfl rfl (sw_true rfl rfl rfl (by decide +kernel)) (di_rng1 (by rfl) T.n_range (da_cons de_int da_nil)) (blkOk_by (own:=[("_law_k",17)]) (N:=n_law) (sc:=(defScope s_law)) (by decide +kernel)) (fun _ _ _ _ _=>(dg_name (i:=17) sc_law.nd rfl (Or.inl rfl))) (fun _ _ _ _ _=>dts_nil) (fun _ _ _ _ _=>(de_lst (da_cons (de_ix ix_seq sem_ix (de_m1 F.slot_str_split F.type_str_split mt_split sem_split (de_ix ix_seq sem_ix (de_see (pv 10)) (de_var (pv 17)) (fun _ _=>rfl)) de_str) de_int (fun _ _=>rfl)) (da_cons (de_ix ix_seq sem_ix (de_see (pv 10)) (de_var (pv 17)) (fun _ _=>rfl)) (da_cons (de_cmp op_inAll sem_in (de_see (pv 17)) (de_tup (da_cons de_int (da_cons de_int (da_cons de_int da_nil)))) (by rfl)) (da_cons (de_add (de_add de_str (de_ix ix_seq sem_ix (de_see (pv 10)) (de_var (pv 17)) (fun _ _=>rfl))) de_str) (da_cons de_bl (da_cons de_bl (da_cons (de_cmp op_inAll sem_in (de_see (pv 17)) (de_tup (da_cons de_int (da_cons de_int (da_cons de_int da_nil)))) (by rfl)) da_nil))))))))))
      (ds_cons (ds_if (DW.dt (dw_or (dt_not (dt_val (de_call G__law_same (hr.mono (by decide)) hg (tkOf rfl rfl rfl rfl) (B__law_same_2 T) (by rfl) T.m__law_same T.F__law_same.kp (da_cons (de_var (pv 12)) (da_cons (de_var (pv 13)) da_nil))))) (dw_or1 (dt_cmp op_isnot_bl sem_isnotB (de_meth0 (de_ix ix_seq sem_ix (de_see (pv 9)) de_int (fun _ _=>rfl)) T.cl_Answer T.me_Answer_holds G_Answer_holds (hr.mono (by decide)) hg (tkOf rfl rfl rfl rfl) (B_Answer_holds_1 T)) de_bl (nomark _))))) (ds_one (ds_ret de_bl)) ds_nil)
      (dss_reg (n:=3) (fss_cons (fs_set (i:=14) sc_law.nd rfl (Or.inl rfl) (fe_list (fa_cons (fe_dn (dn_meth0 (de_ix ix_seq sem_ix (de_see (pv 9)) de_int (fun _ _=>rfl)) T.cl_Solved T.me_Solved_numbers G_Solved_numbers (hr.mono (by decide)) hg (tkOf rfl rfl rfl rfl) (B_Solved_numbers_1 T))) (fa_cons (fe_dn (dn_meth0 (de_ix ix_seq sem_ix (de_see (pv 9)) de_int (fun _ _=>rfl)) T.cl_Barred T.me_Barred_weights G_Barred_weights (hr.mono (by decide)) hg (tkOf rfl rfl rfl rfl) (B_Barred_weights_1 T))) (fa_cons (fe_dn (dn_meth0 (de_ix ix_seq sem_ix (de_see (pv 9)) de_int (fun _ _=>rfl)) T.cl_Top T.me_Top_factors G_Top_factors (hr.mono (by decide)) hg (tkOf rfl rfl rfl rfl) (B_Top_factors_1 T))) (fa_cons (fe_dn (dn_meth0 (de_ix ix_seq sem_ix (de_see (pv 9)) de_int (fun _ _=>rfl)) T.cl_Top T.me_Top_numbers G_Solved_numbers (hr.mono (by decide)) hg (tkOf rfl rfl rfl rfl) (B_Solved_numbers_1 T))) (fa_cons (fe_dn (dn_meth0 (de_ix ix_seq sem_ix (de_see (pv 9)) de_int (fun _ _=>rfl)) T.cl_Endless T.me_Endless_factors G_Endless_factors (hr.mono (by decide)) hg (tkOf rfl rfl rfl rfl) (B_Endless_factors_1 T))) (fa_cons (fe_dn (dn_meth0 (de_ix ix_seq sem_ix (de_see (pv 9)) de_int (fun _ _=>rfl)) T.cl_Endless T.me_Endless_direction G_Endless_direction (hr.mono (by decide)) hg (tkOf rfl rfl rfl rfl) (B_Endless_direction_1 T))) fa_nil))))))))
      (fss_cons (fs_ifL (DW.dt (dw_or (dt_not (dt_val (de_call G__law_same (hr.mono (by decide)) hg (tkOf rfl rfl rfl rfl) (B__law_same_2 T) (by rfl) T.m__law_same T.F__law_same.kp (da_cons (de_var (pv 14)) (da_cons (de_mul (de_lst (da_cons (de_var (pv 7)) da_nil)) de_int) da_nil))))) (dw_or1 (dt_not (dt_val (de_call G__law_same (hr.mono (by decide)) hg (tkOf rfl rfl rfl rfl) (B__law_same_2 T) (by rfl) T.m__law_same T.F__law_same.kp (da_cons (de_lst (da_cons (de_dn (dn_meth0 (de_ix ix_seq sem_ix (de_see (pv 9)) de_int (fun _ _=>rfl)) T.cl_Top T.me_Top_weights G_Top_weights (hr.mono (by decide)) hg (tkOf rfl rfl rfl rfl) (B_Top_weights_1 T))) (da_cons (de_dn (dn_meth0 (de_ix ix_seq sem_ix (de_see (pv 9)) de_int (fun _ _=>rfl)) T.cl_Endless T.me_Endless_numbers G_Solved_numbers (hr.mono (by decide)) hg (tkOf rfl rfl rfl rfl) (B_Solved_numbers_1 T))) (da_cons (de_fld (K:=K) (de_ix ix_seq sem_ix (de_see (pv 9)) de_int (fun _ _=>rfl))) da_nil)))) (da_cons (de_lst (da_cons (de_var (pv 8)) (da_cons (de_var (pv 8)) (da_cons (de_var (pv 4)) da_nil)))) da_nil)))))))) (fss_one (fs_lift (ds_ret de_bl))) fss_nil [(14,0)])
      (fss_one (fs_forF (passes_of rfl) rfl (pv 14) (dg_name (i:=15) sc_law.nd rfl (Or.inl rfl)) (fss_cons (fs_app (fp_ix (fp_var (pv 15)) (pe_neg (n:=1)) (fun _ _=>rfl)) (fe_dn (dn_leaf de_str)))
      (fss_one (fs_app (fp_var (pv 15)) (fe_dn (dn_leaf de_str)))))))))
      ds_nil)))))
      (ds_cons (ds_set (i:=16) sc_law.nd rfl (Or.inl rfl) (de_call G__law_of (hr.mono (by decide)) hg (tkOf rfl rfl rfl rfl) (B__law_of_2 T) (by rfl) T.m__law_of T.F__law_of.kp (da_cons (de_var (pv 1)) (da_cons (de_lst (da_cons de_non (da_cons de_int (da_cons de_str (da_cons (de_lst (da_cons de_int (da_cons de_int da_nil))) da_nil))))) da_nil))))
      (ds_one (ds_if (DW.dt (dw_or (dt_cmp (op_neAll hr.units) sem_ne (de_meth0 (de_dn (dn_make T.mk_Top G_Top___init__ (hr.mono (by decide)) hg (tkOf rfl rfl rfl rfl) (B_Top___init___6 T) rfl (by rfl) T.m_Top (da_cons (de_var (pv 3)) (da_cons (de_lst da_nil) (da_cons (de_var (pv 16)) (da_cons (de_lst da_nil) (da_cons (de_lst da_nil) da_nil))))))) T.cl_Top T.me_Top_told G_Top_told (hr.mono (by decide)) hg (tkOf rfl rfl rfl rfl) (B_Top_told_1 T)) de_str (nomark _)) (dw_or1 (dt_cmp (op_neAll hr.units) sem_ne (de_dn (dn_meth0 (de_dn (dn_make T.mk_Solved G_Solved___init__ (hr.mono (by decide)) hg (tkOf rfl rfl rfl rfl) (B_Solved___init___3 T) rfl (by rfl) T.m_Solved (da_cons (de_var (pv 3)) (da_cons (de_tup (da_cons de_int (da_cons de_non da_nil))) da_nil)))) T.cl_Solved T.me_Solved_numbers G_Solved_numbers (hr.mono (by decide)) hg (tkOf rfl rfl rfl rfl) (B_Solved_numbers_1 T))) (de_lst (da_cons de_int (da_cons de_non da_nil))) (nomark _))))) (ds_one (ds_ret de_bl)) ds_nil)))))))))
      (ds_one (ds_ret (de_and (de_cmp (op_eqAll hr.units) sem_eq (de_lst (da_cons (de_cval T.cc_Answer_KIND (pe_glob (by rfl) T.m_Answer rfl)) (da_cons (de_cval T.cc_Barred_KIND (pe_glob (by rfl) T.m_Barred rfl)) (da_cons (de_cval T.cc_Endless_KIND (pe_glob (by rfl) T.m_Endless rfl)) da_nil)))) (de_lst (da_cons de_str (da_cons de_str (da_cons de_str da_nil)))) (nomark _)) (de_one (de_not (de_callB call_isi (sem_isiS (K:=K) (C:=He.ga K "Top")) (by rfl) T.n_isinstance (by decide +kernel) (da_cons (de_ix ix_seq sem_ix (de_see (pv 9)) de_int (fun _ _=>rfl)) (da_cons (de_glob (v:=.ref (He.ga K "Top")) (d:=.raw (.ref (He.ga K "Top"))) (by rfl) T.m_Top rfl (fun _=>.raw _)) da_nil)))))))))),?_⟩
    refine ⟨.ref c,rfl,c,ns,rfl,hS,hlen,fun H' p c' ms sd ex cp hp hc hm h0 h1=>?_⟩
    refine law_up 19 1 rfl rfl q cp hp hc hm h0 h1 (fun q hq=>ex _ _ (htb q hq)) huq ?_
    clear G_Answer___bool__ G_Answer___init__ G_Answer___repr__ G_Answer_holds G_Answer_problem G_Answer_told G_Barred___init__ G_Barred_weights G_Endless___init__ G_Endless_direction G_Endless_factors G_Problem___eq__ G_Problem___init__ G_Solved___bool__ G_Solved___init__ G_Solved_numbers G_Top___init__ G_Top_factors G_Top_told G_Top_weights G__law_draw G__law_of G__law_same G__law_text G__law_wide
    have hz:szl=16777216:=rfl
    refine seq_cut (fun s=>∃ a2 a3 a4 a5 a6 a7 a8 x0 x1 fB x3 x4 a10 a11 a12 a13 a14 a15 a16,s=[none,some .src,a2,a3,a4,a5,a6,a7,a8,some (.d (.lst [x0,x1,.ins (He.ga K "Barred") fB,x3,x4])),a10,a11,a12,a13,a14,a15,a16,none,none]) (fun N0 hN0=>?_) (fun s hs=>?_)
    · refine l_rng1 (by decide) (by decide) ?_
      refine forL_ind (fun r s=>∃ a2 a3 a4 a5 a6 a7 a8 a9 a10 a11 a12 a13 a14 a15 a16,(r.length=3∨∃ x0 x1 fB x3 x4,a9=some (.d (.lst [x0,x1,.ins (He.ga K "Barred") fB,x3,x4])))∧noMu [a7,a8,a9,a10,a11,a12,a13,a14,a15,a16,none,none]=true∧noBl [a7,a8,a9,a10,a11,a12,a13,a14,a15,a16,none,none]=true∧s=[none,some .src,a2,a3,a4,a5,a6,a7,a8,a9,a10,a11,a12,a13,a14,a15,a16,none,none]) (fun N dt r s hN hs=>?_) (fun s hs=>?_) _ _ ⟨_,_,_,_,_,_,_,_,_,_,_,_,_,_,_,.inl rfl,rfl,rfl,rfl⟩
      · obtain ⟨a2,a3,a4,a5,a6,a7,a8,a9,a10,a11,a12,a13,a14,a15,a16,_,nmu,nbl,rfl⟩:=hs
        refine set_st ?_
        refine l_lst rfl rfl ?_
        refine ⟨rfl,rfl,_,rfl,by decide,by decide,fun n n0 n1=>?_⟩
        refine l_tup rfl rfl ?_
        refine l_lst rfl rfl ?_
        refine ⟨rfl,rfl,_,_,rfl,(by first | exact .inl ⟨_,rfl⟩ | exact .inr ⟨_,rfl⟩),pl_int,fun z=>absurd z (by decide),fun m em _=>?_⟩
        cases em
        refine ⟨[rowP n],rfl,pls_cons (rowP_ok n).1 pls_nil,fun d hd=>by rw [List.mem_singleton.mp hd];show 1≤100000;decide,by show 1≤100000;decide,fun a d b ed _ hb=>?_,fun _=>?_⟩
        · exfalso
          have hd:d∈[rowP n]:=by rw [ed];simp
          rw [List.mem_singleton.mp hd,(rowP_ok n).2] at hb;cases hb
        refine set_go (s':=[none,some .src,some (.d (dt)),some (.d (prP K n)),a4,a5,a6,a7,a8,a9,a10,a11,a12,a13,a14,a15,a16,none,none]) rfl ?_
        refine set_st ?_
        refine ⟨rfl,rfl,rfl,fun q q1 q2=>?_⟩
        refine set_go (s':=[none,some .src,some (.d (dt)),some (.d (prP K n)),some (.d (rD q)),a5,a6,a7,a8,a9,a10,a11,a12,a13,a14,a15,a16,none,none]) rfl ?_
        refine seq_cut (fun s=>∃ (dr:List D) (v:D) (r5 r6:Addr),VlOk v∧dr.length≤2∧(∀ x∈dr,DrOk x)∧s=[none,some .src,some (.d (dt)),some (.d (prP K n)),some (.d (rD q)),some (.d (.raw (.ref r5))),some (.d (.raw (.ref r6))),some (.d (kpD dr)),some (.d (v)),some (.d (someD K (prP K n) (kpD dr) v (rD q))),a10,a11,a12,a13,a14,a15,a16,none,none]) (fun N9 hN9=>?_) (fun s hs=>?_)
        · refine fseq_cut (fun s fl=>∃ b:Addr,s=[none,some .src,some (.d (dt)),some (.d (prP K n)),some (.d (rD q)),some (.d (.raw (.ref b))),a6,a7,a8,a9,a10,a11,a12,a13,a14,a15,a16,none,none]∧fl=[.lst b [.leaf (.int 1)]]) (fun M hM=>?_) (fun s fl hs=>?_)
          · exact l_lst rfl rfl ⟨_,rfl,fun b=>hM _ _ ⟨b,rfl,rfl⟩⟩
          obtain ⟨b,rfl,rfl⟩:=hs
          refine fseq_cut (fun s fl=>∃ (c:Addr) (dr:List D),dr.length≤2∧(∀ x∈dr,DrOk x)∧s=[none,some .src,some (.d (dt)),some (.d (prP K n)),some (.d (rD q)),some (.d (.raw (.ref b))),some (.d (.raw (.ref c))),a7,a8,a9,a10,a11,a12,a13,a14,a15,a16,none,none]∧fl=[.lst c (dr.map .leaf++[.lst b [.leaf (.int 1)]])]) (fun M hM=>?_) (fun s fl hs=>?_)
          · refine ⟨rfl,rfl,_,rfl,by decide,by decide,fun k k0 k1=>?_⟩
            refine l_rng1 (by omega) (by omega) ?_
            refine lcL_some DrOk [none,some .src,some (.d (dt)),some (.d (prP K n)),some (.d (rD q)),some (.d (.raw (.ref b))),a6,a7,a8,a9,a10,a11,a12,a13,a14,a15,a16,none,none] (by rw [intsFrom_len];omega) (fun d hd M' A hM' _=>?_) (fun xs lx hx=>?_)
            · refine brT ?_
              refine l_tup rfl rfl ?_
              refine l_lst rfl rfl ?_
              refine ⟨rfl,rfl,_,rfl,(fun _ z=>by cases z),by decide,by decide,fun d hd=>?_⟩
              simp only [List.mem_cons,List.not_mem_nil,or_false] at hd
              rcases hd with rfl | rfl | rfl | rfl
              · exact hM' _ (.inl rfl)
              · exact hM' _ (.inr (.inl rfl))
              · exact hM' _ (.inr (.inr (.inl rfl)))
              · exact hM' _ (.inr (.inr (.inr rfl)))
            · refine ⟨_,rfl,fun a=>?_⟩
              refine ⟨0,b,_,rfl,rfl,rfl,?_⟩
              rw [intsFrom_len] at lx
              refine ⟨by show 1≤szl;omega,fun a2=>?_⟩
              refine ⟨a,a2,_,_,rfl,rfl,by rw [List.length_map];show xs.length + 1≤szl;omega,fun c=>hM _ _ ⟨c,xs,by omega,hx,rfl,rfl⟩⟩
          obtain ⟨c,dr,ld,hdr,rfl,rfl⟩:=hs
          have gd:(FT.lst c (dr.map .leaf++[.lst b [.leaf (.int 1)]])).d=kpD dr:=given_d c b dr
          have gs:(FT.lst c (dr.map .leaf++[.lst b [.leaf (.int 1)]])).sol=true:=given_sol c b hdr
          refine fseq_cut (fun s fl=>∃ v,VlOk v∧s=[none,some .src,some (.d (dt)),some (.d (prP K n)),some (.d (rD q)),some (.d (.raw (.ref b))),some (.d (.raw (.ref c))),some (.d (kpD dr)),some (.d (v)),a9,a10,a11,a12,a13,a14,a15,a16,none,none]∧fl=[.lst c (dr.map .leaf++[.lst b [.leaf (.int 1)]])]) (fun M hM=>?_) (fun s fl hs=>?_)
          · unfold fParP xaCons xAdd
            refine xlend_cut (S:=[none,some .src,some (.d (dt)),some (.d (prP K n)),some (.d (rD q)),some (.d (.raw (.ref b))),some (.d (kpD dr)),a7,a8,a9,a10,a11,a12,a13,a14,a15,a16,none,none]) ⟨⟨_,_,rfl,rfl,rfl⟩,trivial⟩ nmu (by show List.set _ 6 (some (DV.d (FT.d _)))=_;rw [gd];rfl) ?_
            refine l_neg ?_
            refine l_slL (ds:=dr++[.lst [.int 1]]) rfl ?_
            rw [cut_last]
            refine ⟨_,rfl,fun a=>⟨rfl,sol_leaves ((dsolL_all dr).mpr fun x hx=>(hdr x hx).sol),?_⟩⟩
            refine l_lst rfl rfl ⟨_,rfl,fun a2=>?_⟩
            refine ⟨by show 1≤szl;omega,fun a3=>?_⟩
            refine ⟨a,a3,_,_,rfl,rfl,by rw [List.length_map];show dr.length + 1≤szl;omega,fun a4=>?_⟩
            refine l_lst rfl rfl ?_
            refine ⟨rfl,rfl,_,rfl,(fun _ z=>by cases z),by decide,by decide,fun v hv=>⟨v,rfl,hM _ _ ⟨v,?_,?_,rfl⟩⟩⟩
            · simp only [List.mem_cons,List.not_mem_nil,or_false] at hv
              exact hv
            · show [none,some .src,some (.d (dt)),some (.d (prP K n)),some (.d (rD q)),some (.d (.raw (.ref b))),some (.d (.raw (.ref c))),some (.d (FT.d (.lst a4 (dr.map .leaf++[.lst a2 [.leaf (.int 1)]])))),some (.d v),a9,a10,a11,a12,a13,a14,a15,a16,none,none]=_
              rw [given_d a4 a2 dr]
          obtain ⟨v,hv,rfl,rfl⟩:=hs
          have kok:=kp_ok hdr ld
          have vok:=hv.as
          have nmu9:=noMu_tl (noMu_tl nmu)
          have nbl10:=noBl_tl (noBl_tl (noBl_tl nbl))
          refine fseq_cut (fun s fl=>s=[none,some .src,some (.d (dt)),some (.d (prP K n)),some (.d (rD q)),some (.d (.raw (.ref b))),some (.d (.raw (.ref c))),some (.d (kpD dr)),some (.d (v)),some (.d (someD K (prP K n) (kpD dr) v (rD q))),a10,a11,a12,a13,a14,a15,a16,none,none]∧fl=[.lst c (dr.map .leaf++[.lst b [.leaf (.int 1)]])]) (fun M hM=>?_) (fun s fl hs=>?_)
          · refine ⟨rfl,rfl,_,rfl,fun x0=>?_⟩
            refine ⟨_,rfl,fun u=>?_⟩
            refine xlend_cut (S:=[none,some .src,some (.d (dt)),some (.d (.raw u)),some (.d (rD q)),some (.d (.raw (.ref b))),some (.d (kpD dr)),some (.d (kpD dr)),some (.d (v)),a9,a10,a11,a12,a13,a14,a15,a16,none,none]) ⟨⟨_,_,rfl,rfl,rfl⟩,trivial⟩ nmu9 (by show List.set _ 6 (some (DV.d (FT.d _)))=_;rw [gd];rfl) ?_
            refine ⟨rfl,rfl,.raw u,kpD dr,rfl,kok,fun t1 h1 g1 x1=>⟨rfl,ins_sol2 g1,rfl,x1,_,[],_,_,rfl,?_⟩⟩
            refine ⟨_,rfl,fun u2=>?_⟩
            refine xlend_cut (S:=[none,some .src,some (.d (dt)),some (.d (.raw u2)),some (.d (rD q)),some (.d (.raw (.ref b))),some (.d (kpD dr)),some (.d (kpD dr)),some (.d (v)),a9,a10,a11,a12,a13,a14,a15,a16,none,none]) ⟨⟨_,_,rfl,rfl,rfl⟩,trivial⟩ nmu9 (by show List.set _ 6 (some (DV.d (FT.d _)))=_;rw [gd];rfl) ?_
            refine ⟨rfl,rfl,.raw u2,kpD dr,rfl,kok,fun t2 h2 g2 x2=>⟨rfl,ins_sol2 g2,rfl,x2,_,[],_,_,rfl,?_⟩⟩
            refine ⟨_,rfl,fun u3=>?_⟩
            refine xlend_cut (S:=[none,some .src,some (.d (dt)),some (.d (.raw u3)),some (.d (rD q)),some (.d (.raw (.ref b))),some (.d (kpD dr)),some (.d (kpD dr)),some (.d (v)),a9,a10,a11,a12,a13,a14,a15,a16,none,none]) ⟨⟨_,_,rfl,rfl,rfl⟩,trivial⟩ nmu9 (by show List.set _ 6 (some (DV.d (FT.d _)))=_;rw [gd];rfl) ?_
            refine ⟨rfl,rfl,.raw u3,kpD dr,rD q,kpD dr,v,rfl,kok,kok,vok.1,nu_ok q1 q2,fun t3 t4 t5 t6 h3 g3 h4 g4 h5 g5 h6 g6 x3=>⟨rfl,ins_sol5 g3 g4 g5 g6,rfl,x3,_,[],_,_,rfl,?_⟩⟩
            refine ⟨_,rfl,fun u4=>?_⟩
            refine xlend_cut (S:=[none,some .src,some (.d (dt)),some (.d (.raw u4)),some (.d (rD q)),some (.d (.raw (.ref b))),some (.d (kpD dr)),some (.d (kpD dr)),some (.d (v)),a9,a10,a11,a12,a13,a14,a15,a16,none,none]) ⟨⟨_,_,rfl,rfl,rfl⟩,trivial⟩ nmu9 (by show List.set _ 6 (some (DV.d (FT.d _)))=_;rw [gd];rfl) ?_
            refine ⟨rfl,rfl,.raw u4,kpD dr,v,kpD dr,rfl,kok,vok.1,kok,fun t7 t8 t9 h7 g7 h8 g8 h9 g9 x4=>⟨rfl,ins_sol4 g7 g8 g9,rfl,x4,_,[],_,_,rfl,?_⟩⟩
            refine ⟨by show 5≤szl;omega,fun x5=>hM _ _ ⟨?_,rfl⟩⟩
            rw [vok.2] at h6 h7
            refine congrArg (fun z=>[none,some .src,some (.d (dt)),some (.d (prP K n)),some (.d (rD q)),some (.d (.raw (.ref b))),some (.d (.raw (.ref c))),some (.d (kpD dr)),some (.d (v)),some (.d z),a10,a11,a12,a13,a14,a15,a16,none,none]) ?_
            simp only [FT.d,FT.dL,FT.dF,List.nil_append,h1,h2,h3,h4,h5,h6,h7,h8,h9]
            rfl
          obtain ⟨rfl,rfl⟩:=hs
          refine fseq_cut (fun s fl=>s=[none,some .src,some (.d (dt)),some (.d (prP K n)),some (.d (rD q)),some (.d (.raw (.ref b))),some (.d (.raw (.ref c))),some (.d (kpD dr)),some (.d (v)),some (.d (someD K (prP K n) (kpD dr) v (rD q))),a10,a11,a12,a13,a14,a15,a16,none,none]∧fl=[.lst c (dr.map .leaf++[.lst b [.leaf (.int 1)]]++[.leaf (.str "zz")])]) (fun M hM=>?_) (fun s fl hs=>?_)
          · exact ⟨c,rfl,⟨[0],_,rfl⟩,_,rfl,[0],_,rfl,nbl10,by rw [List.length_append,List.length_map];show dr.length + 1 < szl;omega,hM _ _ ⟨rfl,rfl⟩⟩
          obtain ⟨rfl,rfl⟩:=hs
          have at5:getP [FT.lst c (dr.map .leaf++[.lst b [.leaf (.int 1)]]++[.leaf (.str "zz")])] [0,dr.length]=some (.lst b [.leaf (.int 1)]):=by
            show (dr.map FT.leaf++[.lst b [.leaf (.int 1)]]++[.leaf (.str "zz")])[dr.length]?=_
            rw [List.append_assoc,List.getElem?_append_right (by rw [List.length_map];exact Nat.le_refl _),List.length_map,Nat.sub_self];rfl
          exact ⟨b,rfl,⟨_,_,at5⟩,_,rfl,_,_,at5,nbl10,by show 1 < szl;omega,hN9 _ ⟨dr,v,b,c,hv,ld,hdr,rfl⟩⟩
        obtain ⟨dr,v,r5,r6,hv,ld,hdr,rfl⟩:=hs
        have kok:=kp_ok hdr ld
        have vok:=hv.as
        have b1:q.num.natAbs < 10 ^ 50:=Nat.lt_of_lt_of_le q1 (Nat.pow_le_pow_right (by decide) (by decide))
        have b2:q.den < 10 ^ 50:=Nat.lt_of_lt_of_le q2 (Nat.pow_le_pow_right (by decide) (by decide))
        have rl:(ratS q).length≤200:=ratS_short b1 b2
        have nmu11:=noMu_tl (noMu_tl (noMu_tl (noMu_tl nmu)))
        have nbl11:=noBl_tl (noBl_tl (noBl_tl (noBl_tl nbl)))
        refine set_st ?_
        refine ⟨rfl,rfl,_,rfl,q,rfl,Nat.lt_of_lt_of_le b1 (Nat.pow_le_pow_right (by decide) (by decide)),Nat.lt_of_lt_of_le b2 (Nat.pow_le_pow_right (by decide) (by decide)),?_⟩
        refine l_addS (by show 4 + (ratS q).length≤szl;omega) ?_
        refine l_lst rfl rfl ?_
        refine set_goO (s':=[none,some .src,some (.d (dt)),some (.d (prP K n)),some (.d (rD q)),some (.d (.raw (.ref r5))),some (.d (.raw (.ref r6))),some (.d (kpD dr)),some (.d (v)),some (.d (someD K (prP K n) (kpD dr) v (rD q))),some (.own (.lst ((wdL q).map .str))),a11,a12,a13,a14,a15,a16,none,none]) rfl ?_
        refine seq_cut (fun s=>∃ a11 a12 a13 a14 a15,noMu [a11,a12,a13,a14,a15,a16,none,none]=true∧noBl [a11,a12,a13,a14,a15,a16,none,none]=true∧s=[none,some .src,some (.d (dt)),some (.d (prP K n)),some (.d (rD q)),some (.d (.raw (.ref r5))),some (.d (.raw (.ref r6))),some (.d (kpD dr)),some (.d (v)),some (.d (someD K (prP K n) (kpD dr) v (rD q))),some (.own (.lst ((wdL q).map .str))),a11,a12,a13,a14,a15,a16,none,none]) (fun N2 hN2=>?_) (fun s hs=>?_)
        · refine l_rng1 (by decide) (by decide) ?_
          refine forL_ind (fun r s=>∃ a11 a12 a13 a14 a15,noMu [a11,a12,a13,a14,a15,a16,none,none]=true∧noBl [a11,a12,a13,a14,a15,a16,none,none]=true∧s=[none,some .src,some (.d (dt)),some (.d (prP K n)),some (.d (rD q)),some (.d (.raw (.ref r5))),some (.d (.raw (.ref r6))),some (.d (kpD dr)),some (.d (v)),some (.d (someD K (prP K n) (kpD dr) v (rD q))),some (.own (.lst ((wdL q).map .str))),a11,a12,a13,a14,a15,a16,none,none]) (fun N3 d r s hN3 hs=>?_) (fun s hs=>?_) _ _ ⟨_,_,_,_,_,nmu11,nbl11,rfl⟩
          · obtain ⟨a11,a12,a13,a14,a15,nmu,nbl,rfl⟩:=hs
            refine set_st ?_
            refine l_iterL ?_
            refine lcL_five _ _ _ _ _ (gotL q) [none,some .src,some (.d (dt)),some (.d (prP K n)),some (.d (rD q)),some (.d (.raw (.ref r5))),some (.d (.raw (.ref r6))),some (.d (kpD dr)),some (.d (v)),some (.d (someD K (prP K n) (kpD dr) v (rD q))),some (.own (.lst ((wdL q).map .str))),some (.d (d)),a12,a13,a14,a15,a16,none,none] rfl (fun M A m=>?_) (fun M A m=>?_) (fun M A m=>?_) (fun M A m=>?_) (fun M A m=>?_) ?_
            · refine brT ?_
              refine altL ⟨rfl,rfl,?_⟩
              refine altL ⟨rfl,rfl,rfl,rfl,_,rfl,"Answer","open",_,by simp [kindsL],rfl,rfl,?_⟩
              refine altL (l_boolI ⟨_,rfl,?_⟩)
              refine altL (l_reprI ⟨_,rfl,"open",.inl ⟨"Answer",_,by simp [kindsL],rfl,rfl,rfl⟩,by decide,?_⟩)
              refine altL ⟨rfl,_,rfl,_,_,_,rfl,T.cl_Answer,T.na_Answer_own_problem,rfl,?_⟩
              refine l_cmpI T.ci_Problem (.inl ⟨_,rfl⟩) ?_
              refine ⟨_,_,rfl,1,_,rfl,prP_shap n0 n1,.inl ⟨1,_,rfl,prP_shap n0 n1,?_⟩⟩
              rw [prP_eq n]
              refine l_isiS T.ci_Answer T.kt_Answer_Answer rfl ?_
              refine l_isiS T.ci_Answer T.kt_Answer_Solved rfl ?_
              exact l_lst rfl rfl m
            · refine brT ?_
              refine altR (altL ⟨rfl,rfl,?_⟩)
              refine altR (altL ⟨rfl,rfl,rfl,rfl,_,rfl,"Solved","solved",_,by simp [kindsL],rfl,rfl,?_⟩)
              refine altR (altL (l_boolI ⟨_,rfl,?_⟩))
              refine altR (altL (l_reprI ⟨_,rfl,"solved",.inl ⟨"Solved",_,by simp [kindsL],rfl,rfl,rfl⟩,by decide,?_⟩))
              refine altR (altL ⟨rfl,_,rfl,_,_,_,rfl,T.cl_Solved,T.na_Solved_own_problem,rfl,?_⟩)
              refine l_cmpI T.ci_Problem (.inl ⟨_,rfl⟩) ?_
              refine ⟨_,_,rfl,1,_,rfl,prP_shap n0 n1,.inl ⟨1,_,rfl,prP_shap n0 n1,?_⟩⟩
              rw [prP_eq n]
              refine l_isiS T.ci_Solved T.kt_Solved_Answer rfl ?_
              refine l_isiS T.ci_Solved T.kt_Solved_Solved rfl ?_
              exact l_lst rfl rfl m
            · refine brT ?_
              refine altR (altR (altL ⟨rfl,rfl,?_⟩))
              refine altR (altR (altL ⟨rfl,rfl,rfl,rfl,_,rfl,"Barred","barred",_,by simp [kindsL],rfl,rfl,?_⟩))
              refine altR (altR (altL (l_boolI ⟨_,rfl,?_⟩)))
              refine altR (altR (altL (l_reprI ⟨_,rfl,"barred",.inl ⟨"Barred",_,by simp [kindsL],rfl,rfl,rfl⟩,by decide,?_⟩)))
              refine altR (altR (altL ⟨rfl,_,rfl,_,_,_,rfl,T.cl_Barred,T.na_Barred_own_problem,rfl,?_⟩))
              refine l_cmpI T.ci_Problem (.inl ⟨_,rfl⟩) ?_
              refine ⟨_,_,rfl,1,_,rfl,prP_shap n0 n1,.inl ⟨1,_,rfl,prP_shap n0 n1,?_⟩⟩
              rw [prP_eq n]
              refine l_isiS T.ci_Barred T.kt_Barred_Answer rfl ?_
              refine l_isiS T.ci_Barred T.kt_Barred_Solved rfl ?_
              exact l_lst rfl rfl m
            · refine brT ?_
              refine altR (altR (altR (altL ⟨rfl,rfl,?_⟩)))
              refine altR (altR (altR (altL ⟨rfl,rfl,rfl,rfl,_,rfl,_,rD q,rfl,rfl,rfl,.inl ⟨q,rfl,⟨b1,b2⟩,?_⟩⟩)))
              refine altR (altR (altR (altL (l_boolI ⟨_,rfl,?_⟩))))
              refine altR (altR (altR (altL (l_reprI ⟨_,rfl,"top "++ratS q,.inr ⟨_,q,rfl,rfl,rfl,rfl,⟨b1,b2⟩,rfl⟩,by rw [str_app_len];show 4 + (ratS q).length < 1000;omega,?_⟩))))
              refine altR (altR (altR (altL ⟨rfl,_,rfl,_,_,_,rfl,T.cl_Top,T.na_Top_own_problem,rfl,?_⟩)))
              refine l_cmpI T.ci_Problem (.inl ⟨_,rfl⟩) ?_
              refine ⟨_,_,rfl,1,_,rfl,prP_shap n0 n1,.inl ⟨1,_,rfl,prP_shap n0 n1,?_⟩⟩
              rw [prP_eq n]
              refine l_isiS T.ci_Top T.kt_Top_Answer rfl ?_
              refine l_isiS T.ci_Top T.kt_Top_Solved rfl ?_
              exact l_lst rfl rfl m
            · refine brT ?_
              refine altR (altR (altR (altR (⟨rfl,rfl,?_⟩))))
              refine altR (altR (altR (altR (⟨rfl,rfl,rfl,rfl,_,rfl,"Endless","endless",_,by simp [kindsL],rfl,rfl,?_⟩))))
              refine altR (altR (altR (altR ((l_boolI ⟨_,rfl,?_⟩)))))
              refine altR (altR (altR (altR ((l_reprI ⟨_,rfl,"endless",.inl ⟨"Endless",_,by simp [kindsL],rfl,rfl,rfl⟩,by decide,?_⟩)))))
              refine altR (altR (altR (altR (⟨rfl,_,rfl,_,_,_,rfl,T.cl_Endless,T.na_Endless_own_problem,rfl,?_⟩))))
              refine l_cmpI T.ci_Problem (.inl ⟨_,rfl⟩) ?_
              refine ⟨_,_,rfl,1,_,rfl,prP_shap n0 n1,.inl ⟨1,_,rfl,prP_shap n0 n1,?_⟩⟩
              rw [prP_eq n]
              refine l_isiS T.ci_Endless T.kt_Endless_Answer rfl ?_
              refine l_isiS T.ci_Endless T.kt_Endless_Solved rfl ?_
              exact l_lst rfl rfl m
            refine set_goO (s':=[none,some .src,some (.d (dt)),some (.d (prP K n)),some (.d (rD q)),some (.d (.raw (.ref r5))),some (.d (.raw (.ref r6))),some (.d (kpD dr)),some (.d (v)),some (.d (someD K (prP K n) (kpD dr) v (rD q))),some (.own (.lst ((wdL q).map .str))),some (.d (d)),some (.own (.lst (gotL q))),a13,a14,a15,a16,none,none]) rfl ?_
            refine set_st ?_
            refine l_rng1 (by decide) (by decide) ?_
            refine lcL_five (.int 0) (.int 1) (.int 2) (.int 3) (.int 4) (gotL q) [none,some .src,some (.d (dt)),some (.d (prP K n)),some (.d (rD q)),some (.d (.raw (.ref r5))),some (.d (.raw (.ref r6))),some (.d (kpD dr)),some (.d (v)),some (.d (someD K (prP K n) (kpD dr) v (rD q))),some (.own (.lst ((wdL q).map .str))),some (.d (d)),some (.own (.lst (gotL q))),a13,a14,a15,a16,none,none] rfl (fun M A m=>?_) (fun M A m=>?_) (fun M A m=>?_) (fun M A m=>?_) (fun M A m=>?_) ?_
            · refine brT ?_
              refine l_ixL (d:=.str "open") rfl rfl ?_
              refine l_split (by decide) (by show 4 + 2≤szl;omega) ?_
              rw [show Txt.split ("open":Str) " "=[("open":Str)] by decide +kernel]
              refine l_ixL (d:=.str "open") rfl rfl ?_
              refine l_ixL (d:=.str "open") rfl rfl ?_
              refine l_tup rfl rfl ?_
              refine l_inT rfl rfl ?_
              refine l_ixL (d:=.str "open") rfl rfl ?_
              refine l_addS (by show 7 + 4≤szl;omega) ?_
              refine l_addS (by rw [str_app_len];show 7 + 4 + 1≤szl;omega) ?_
              refine l_tup rfl rfl ?_
              refine l_inT rfl rfl ?_
              exact l_lst rfl rfl m
            · refine brT ?_
              refine l_ixL (d:=.str "solved") rfl rfl ?_
              refine l_split (by decide) (by show 6 + 2≤szl;omega) ?_
              rw [show Txt.split ("solved":Str) " "=[("solved":Str)] by decide +kernel]
              refine l_ixL (d:=.str "solved") rfl rfl ?_
              refine l_ixL (d:=.str "solved") rfl rfl ?_
              refine l_tup rfl rfl ?_
              refine l_inT rfl rfl ?_
              refine l_ixL (d:=.str "solved") rfl rfl ?_
              refine l_addS (by show 7 + 6≤szl;omega) ?_
              refine l_addS (by rw [str_app_len];show 7 + 6 + 1≤szl;omega) ?_
              refine l_tup rfl rfl ?_
              refine l_inT rfl rfl ?_
              exact l_lst rfl rfl m
            · refine brT ?_
              refine l_ixL (d:=.str "barred") rfl rfl ?_
              refine l_split (by decide) (by show 6 + 2≤szl;omega) ?_
              rw [show Txt.split ("barred":Str) " "=[("barred":Str)] by decide +kernel]
              refine l_ixL (d:=.str "barred") rfl rfl ?_
              refine l_ixL (d:=.str "barred") rfl rfl ?_
              refine l_tup rfl rfl ?_
              refine l_inT rfl rfl ?_
              refine l_ixL (d:=.str "barred") rfl rfl ?_
              refine l_addS (by show 7 + 6≤szl;omega) ?_
              refine l_addS (by rw [str_app_len];show 7 + 6 + 1≤szl;omega) ?_
              refine l_tup rfl rfl ?_
              refine l_inT rfl rfl ?_
              exact l_lst rfl rfl m
            · refine brT ?_
              refine l_ixL (d:=.str ("top "++ratS q)) rfl rfl ?_
              refine l_split (by decide) (by rw [str_app_len];show 4 + (ratS q).length + 2≤szl;omega) ?_
              rw [split_top q]
              refine l_ixL (d:=.str "top") rfl rfl ?_
              refine l_ixL (d:=.str ("top "++ratS q)) rfl rfl ?_
              refine l_tup rfl rfl ?_
              refine l_inT rfl rfl ?_
              refine l_ixL (d:=.str ("top "++ratS q)) rfl rfl ?_
              refine l_addS (by rw [str_app_len];show 7 + (4 + (ratS q).length)≤szl;omega) ?_
              refine l_addS (by rw [str_app_len,str_app_len];show 7 + (4 + (ratS q).length) + 1≤szl;omega) ?_
              refine l_tup rfl rfl ?_
              refine l_inT rfl rfl ?_
              exact l_lst rfl rfl m
            · refine brT ?_
              refine l_ixL (d:=.str "endless") rfl rfl ?_
              refine l_split (by decide) (by show 7 + 2≤szl;omega) ?_
              rw [show Txt.split ("endless":Str) " "=[("endless":Str)] by decide +kernel]
              refine l_ixL (d:=.str "endless") rfl rfl ?_
              refine l_ixL (d:=.str "endless") rfl rfl ?_
              refine l_tup rfl rfl ?_
              refine l_inT rfl rfl ?_
              refine l_ixL (d:=.str "endless") rfl rfl ?_
              refine l_addS (by show 7 + 7≤szl;omega) ?_
              refine l_addS (by rw [str_app_len];show 7 + 7 + 1≤szl;omega) ?_
              refine l_tup rfl rfl ?_
              refine l_inT rfl rfl ?_
              exact l_lst rfl rfl m
            refine set_goO (s':=[none,some .src,some (.d (dt)),some (.d (prP K n)),some (.d (rD q)),some (.d (.raw (.ref r5))),some (.d (.raw (.ref r6))),some (.d (kpD dr)),some (.d (v)),some (.d (someD K (prP K n) (kpD dr) v (rD q))),some (.own (.lst ((wdL q).map .str))),some (.d (d)),some (.own (.lst (gotL q))),some (.own (.lst (gotL q))),a14,a15,a16,none,none]) rfl ?_
            refine seq_cut (fun s=>s=[none,some .src,some (.d (dt)),some (.d (prP K n)),some (.d (rD q)),some (.d (.raw (.ref r5))),some (.d (.raw (.ref r6))),some (.d (kpD dr)),some (.d (v)),some (.d (someD K (prP K n) (kpD dr) v (rD q))),some (.own (.lst ((wdL q).map .str))),some (.d (d)),some (.d (.lst (gotL q))),some (.d (.lst (gotL q))),a14,a15,a16,none,none]) (fun N4 hN4=>?_) (fun s hs=>?_)
            · refine ⟨rfl,rfl,same_lstS rfl (got_sm b1 b2) ?_⟩
              refine l_truB (brF ?_)
              refine l_ixL rfl rfl ?_
              refine ⟨rfl,rfl,rfl,rfl,_,rfl,?_⟩
              refine l_isB ?_
              show Br false _ _
              refine brF ?_
              exact hN4 _ rfl
            obtain rfl:=hs
            have nmu14:=noMu_tl (noMu_tl (noMu_tl (noMu_tl nmu)))
            have nbl14:=noBl_tl (noBl_tl (noBl_tl (noBl_tl nbl)))
            refine seq_cut (fun s=>∃ (z:Addr) (x15:Option DV),noMu [x15,a16,none,none]=true∧noBl [x15,a16,none,none]=true∧s=[none,some .src,some (.d (dt)),some (.d (prP K n)),some (.d (rD q)),some (.d (.raw (.ref r5))),some (.d (.raw (.ref r6))),some (.d (kpD dr)),some (.d (v)),some (.d (someD K (prP K n) (kpD dr) v (rD q))),some (.own (.lst ((wdL q).map .str))),some (.d (d)),some (.d (.lst (gotL q))),some (.d (.lst (gotL q))),some (.d (.raw (.ref z))),x15,a16,none,none]) (fun N5 hN5=>?_) (fun s hs=>?_)
            · refine fseq_cut (fun s fl=>∃ (z:Addr) (t1 t2 t3 t4 t5 t6:FT),(∀ t∈[t1,t2,t3,t4,t5,t6],t.d=kpD dr∧t.sol=true)∧s=[none,some .src,some (.d (dt)),some (.d (prP K n)),some (.d (rD q)),some (.d (.raw (.ref r5))),some (.d (.raw (.ref r6))),some (.d (kpD dr)),some (.d (v)),some (.d (someD K (prP K n) (kpD dr) v (rD q))),some (.own (.lst ((wdL q).map .str))),some (.d (d)),some (.d (.lst (gotL q))),some (.d (.lst (gotL q))),some (.d (.raw (.ref z))),a15,a16,none,none]∧fl=[.lst z [t1,t2,t3,t4,t5,t6]]) (fun M hM=>?_) (fun s fl hs=>?_)
              · refine l_ixL rfl rfl ?_
                refine ⟨rfl,rfl,rfl,rfl,_,rfl,_,_,_,rfl,T.cl_Solved,T.na_Solved_own_values,rfl,kok,fun t1 h1 g1=>?_⟩
                refine l_ixL rfl rfl ?_
                refine ⟨rfl,rfl,rfl,rfl,_,rfl,_,_,_,rfl,T.cl_Barred,T.na_Barred_own_weights,rfl,kok,fun t2 h2 g2=>?_⟩
                refine l_ixL rfl rfl ?_
                refine ⟨rfl,rfl,rfl,rfl,_,rfl,_,_,_,rfl,T.cl_Top,T.na_Top_own_factors,rfl,kok,fun t3 h3 g3=>?_⟩
                refine l_ixL rfl rfl ?_
                refine ⟨rfl,rfl,rfl,rfl,_,rfl,_,_,_,rfl,T.cl_Top,T.na_Top_own_values,rfl,kok,fun t4 h4 g4=>?_⟩
                refine l_ixL rfl rfl ?_
                refine ⟨rfl,rfl,rfl,rfl,_,rfl,_,_,_,rfl,T.cl_Endless,T.na_Endless_own_factors,rfl,kok,fun t5 h5 g5=>?_⟩
                refine l_ixL rfl rfl ?_
                refine ⟨rfl,rfl,rfl,rfl,_,rfl,_,_,_,rfl,T.cl_Endless,T.na_Endless_own_direction,rfl,kok,fun t6 h6 g6=>?_⟩
                refine ⟨by show 6≤szl;omega,fun z=>hM _ _ ⟨z,t1,t2,t3,t4,t5,t6,fun t ht=>?_,rfl,rfl⟩⟩
                simp only [List.mem_cons,List.not_mem_nil,or_false] at ht
                rcases ht with rfl | rfl | rfl | rfl | rfl | rfl<;>exact ⟨by assumption,by assumption⟩
              obtain ⟨z,t1,t2,t3,t4,t5,t6,ht,rfl,rfl⟩:=hs
              have ez:(FT.lst z [t1,t2,t3,t4,t5,t6]).d=.lst [kpD dr,kpD dr,kpD dr,kpD dr,kpD dr,kpD dr]:=by
                rw [d_lst,FT.dL,FT.dL,FT.dL,FT.dL,FT.dL,FT.dL,FT.dL,(ht t1 (by simp)).1,(ht t2 (by simp)).1,(ht t3 (by simp)).1,(ht t4 (by simp)).1,(ht t5 (by simp)).1,(ht t6 (by simp)).1]
              refine fseq_cut (fun s fl=>s=[none,some .src,some (.d (dt)),some (.d (prP K n)),some (.d (rD q)),some (.d (.raw (.ref r5))),some (.d (.raw (.ref r6))),some (.d (kpD dr)),some (.d (v)),some (.d (someD K (prP K n) (kpD dr) v (rD q))),some (.own (.lst ((wdL q).map .str))),some (.d (d)),some (.d (.lst (gotL q))),some (.d (.lst (gotL q))),some (.d (.raw (.ref z))),a15,a16,none,none]∧fl=[.lst z [t1,t2,t3,t4,t5,t6]]) (fun M hM=>?_) (fun s fl hs=>?_)
              · refine ifl_cut (S:=[none,some .src,some (.d (dt)),some (.d (prP K n)),some (.d (rD q)),some (.d (.raw (.ref r5))),some (.d (.raw (.ref r6))),some (.d (kpD dr)),some (.d (v)),some (.d (someD K (prP K n) (kpD dr) v (rD q))),some (.own (.lst ((wdL q).map .str))),some (.d (d)),some (.d (.lst (gotL q))),some (.d (.lst (gotL q))),some (.d (.lst [kpD dr,kpD dr,kpD dr,kpD dr,kpD dr,kpD dr])),a15,a16,none,none]) ⟨⟨_,_,rfl,rfl,rfl⟩,trivial⟩ nmu14 (by show List.set _ 14 (some (DV.d (FT.d _)))=_;rw [ez];rfl) ?_
                refine l_lst rfl rfl ?_
                refine l_mulL rfl (by decide) (by decide) (by show 1 * 6≤szl;omega) ?_
                refine ⟨rfl,rfl,same_lstS (es:=[kpD dr,kpD dr,kpD dr,kpD dr,kpD dr,kpD dr]) rfl (sms_cons (kp_sm hdr ld) (sms_cons (kp_sm hdr ld) (sms_cons (kp_sm hdr ld) (sms_cons (kp_sm hdr ld) (sms_cons (kp_sm hdr ld) (sms_cons (kp_sm hdr ld) sms_nil)))))) ?_⟩
                refine l_truB (brF ?_)
                refine l_ixL rfl rfl ?_
                refine ⟨rfl,rfl,rfl,rfl,_,rfl,_,_,_,rfl,T.cl_Top,T.na_Top_own_weights,rfl,vok.1,fun u1 h1 _=>?_⟩
                refine l_ixL rfl rfl ?_
                refine ⟨rfl,rfl,rfl,rfl,_,rfl,_,_,_,rfl,T.cl_Endless,T.na_Endless_own_values,rfl,vok.1,fun u2 h2 _=>?_⟩
                refine l_ixL rfl rfl ?_
                refine l_own T.cl_Top T.na_Top_number rfl ?_
                refine l_lst rfl rfl ?_
                refine l_lst rfl rfl ?_
                refine ⟨rfl,rfl,same_lstS (ds:=[u1.d,u2.d,rD q]) (es:=[v,v,rD q]) (by rw [h1,h2,vok.2]) (sms_cons (vl_sm hv) (sms_cons (vl_sm hv) (sms_cons (nu_ok q1 q2).1 sms_nil))) ?_⟩
                refine l_truB ⟨rfl,brF ?_⟩
                exact hM _ _ ⟨rfl,rfl⟩
              obtain ⟨rfl,rfl⟩:=hs
              refine ⟨0,z,_,rfl,rfl,?_⟩
              refine forF_each (fun x s=>noMu [x,a16,none,none]=true∧noBl [x,a16,none,none]=true∧s=[none,some .src,some (.d (dt)),some (.d (prP K n)),some (.d (rD q)),some (.d (.raw (.ref r5))),some (.d (.raw (.ref r6))),some (.d (kpD dr)),some (.d (v)),some (.d (someD K (prP K n) (kpD dr) v (rD q))),some (.own (.lst ((wdL q).map .str))),some (.d (d)),some (.d (.lst (gotL q))),some (.d (.lst (gotL q))),some (.d (.raw (.ref z))),x,a16,none,none]) (fun N6 dn a ys b zs rm s hl1 hl2 hx hN6=>?_) (fun x s fl hs=>?_) [] [t1,t2,t3,t4,t5,t6] (fun t h=>?_) a15 _ ⟨nmu14,nbl14,rfl⟩
              · obtain ⟨x,nmx,nbx,rfl⟩:=hx
                have nm2:noMu [a16,none,none]=true:=noMu_tl nmx
                have nb2:noBl [a16,none,none]=true:=noBl_tl nbx
                refine fseq_cut (fun s fl=>s=[none,some .src,some (.d (dt)),some (.d (prP K n)),some (.d (rD q)),some (.d (.raw (.ref r5))),some (.d (.raw (.ref r6))),some (.d (kpD dr)),some (.d (v)),some (.d (someD K (prP K n) (kpD dr) v (rD q))),some (.own (.lst ((wdL q).map .str))),some (.d (d)),some (.d (.lst (gotL q))),some (.d (.lst (gotL q))),some (.d (.raw (.ref z))),some (.d (.raw (.ref a))),a16,none,none]∧fl=dn++.lst a (ys++[.lst b (zs++[.leaf (.str "zz")])])::rm) (fun M hM=>?_) (fun s fl hs=>?_)
                · have at2:getP (dn++.lst a (ys++[.lst b zs])::rm) [dn.length,ys.length]=some (.lst b zs):=by rw [getP_mid2,List.getElem?_append_right (Nat.le_refl _),Nat.sub_self];rfl
                  refine ⟨a,rfl,[dn.length],_,_,b,getP_mid _ _ _,at_last _ _,rfl,⟨[dn.length,ys.length],zs,at2⟩,_,rfl,[dn.length,ys.length],zs,at2,nb2,by omega,hM _ _ ⟨rfl,?_⟩⟩
                  rw [setP_mid2,List.set_append_right _ _ (Nat.le_refl _),Nat.sub_self];rfl
                obtain ⟨rfl,rfl⟩:=hs
                refine ⟨a,rfl,⟨[dn.length],_,getP_mid _ _ _⟩,_,rfl,[dn.length],_,getP_mid _ _ _,nb2,by rw [List.length_append];show ys.length + 1 < szl;omega,?_⟩
                rw [setP_mid]
                exact hN6 _ _ _ ⟨nm2,nb2,rfl⟩
              · obtain ⟨nmx,nbx,rfl⟩:=hs
                exact hN5 _ ⟨z,x,nmx,nbx,rfl⟩
              · obtain ⟨a,ys,b,zs,e,l1,l2⟩:=kp_float (ht t h).1 (ht t h).2
                exact ⟨a,ys,b,zs,e,by omega,by omega⟩
            obtain ⟨z,x15,nmu15,nbl15,rfl⟩:=hs
            exact hN3 _ ⟨_,_,_,_,_,nmu15,nbl15,rfl⟩
          · obtain ⟨a11,a12,a13,a14,a15,nmu,nbl,rfl⟩:=hs
            exact hN2 _ ⟨a11,a12,a13,a14,a15,nmu,nbl,rfl⟩
        obtain ⟨a11,a12,a13,a14,a15,nmu,nbl,rfl⟩:=hs
        refine set_st ?_
        refine l_lst rfl rfl ?_
        refine l_lst rfl rfl ?_
        refine ⟨rfl,rfl,_,rfl,(fun _ z=>by cases z),by decide,by decide,fun o ho=>?_⟩
        refine set_go (s':=[none,some .src,some (.d (dt)),some (.d (prP K n)),some (.d (rD q)),some (.d (.raw (.ref r5))),some (.d (.raw (.ref r6))),some (.d (kpD dr)),some (.d (v)),some (.d (someD K (prP K n) (kpD dr) v (rD q))),some (.own (.lst ((wdL q).map .str))),a11,a12,a13,a14,a15,some (.d (o)),none,none]) rfl ?_
        simp only [List.mem_cons,List.not_mem_nil,or_false] at ho
        obtain ⟨oo1,oo2,oo3,oo4⟩:=od_ok ho
        refine l_lst rfl rfl ?_
        refine l_lst rfl rfl ?_
        refine l_lst rfl rfl ?_
        refine ⟨rfl,rfl,prP K n,.lst [],o,.lst [],.lst [],rfl,nil_ok,nil_ok,nil_ok,oo1,fun t1 t2 t3 t4 h1 _ h2 _ h3 _ h4 _ a=>?_⟩
        have e1:(FT.ins a (He.ga K "Top") [("own_problem",.leaf (prP K n)),("own_values",t1),("own_factors",t2),("number",t3),("own_weights",t4)]).d=.ins (He.ga K "Top") [("own_problem",prP K n),("own_values",.lst []),("own_factors",.lst []),("number",o),("own_weights",.lst [])]:=by
          simp only [FT.d,FT.dF,h1,h2,h3,h4];rfl
        try dsimp only
        rw [e1]
        refine ⟨rfl,rfl,rfl,rfl,_,rfl,_,o,rfl,rfl,rfl,.inr ⟨oo2,oo3,oo4,?_⟩⟩
        refine l_eqS ?_
        rw [show (if true=true then !decide (("top":Str)="top") else decide (("top":Str)="top"))=false from by decide]
        refine brF ?_
        refine l_tup rfl rfl ?_
        refine ⟨rfl,rfl,prP K n,.tup [.int 1,.non],rfl,tup_ok,fun t h _ a=>?_⟩
        have e2:(FT.ins a (He.ga K "Solved") [("own_problem",.leaf (prP K n)),("own_values",t)]).d=.ins (He.ga K "Solved") [("own_problem",prP K n),("own_values",.lst [.int 1,.non])]:=by
          simp only [FT.d,FT.dF,h];rfl
        try dsimp only
        rw [e2]
        refine ⟨rfl,rfl,rfl,rfl,_,rfl,_,_,_,rfl,T.cl_Solved,T.na_Solved_own_values,rfl,lst_ok,fun t2 h2 _=>?_⟩
        try dsimp only
        rw [show t2.d=.lst [.int 1,.non] from h2]
        refine l_lst rfl rfl ?_
        refine l_eqE rfl rfl ⟨_,rfl,by decide +kernel⟩ ⟨_,rfl,by decide +kernel⟩ ?_
        show Br (!eqD (.lst [.int 1,.non]) (.lst [.int 1,.non])) _ _
        rw [show eqD (.lst [.int 1,.non]) (.lst [.int 1,.non])=true from by decide +kernel]
        refine brF ?_
        refine hN _ ⟨_,_,_,_,_,_,_,_,_,_,_,_,_,_,_,.inr ⟨_,_,_,_,_,rfl⟩,?_,?_,rfl⟩
        · exact noMu_set (x:=o) 5 nmu
        · exact noBl_set (x:=o) 5 nbl
      · obtain ⟨a2,a3,a4,a5,a6,a7,a8,a9,a10,a11,a12,a13,a14,a15,a16,h9,nmu,nbl,rfl⟩:=hs
        rcases h9 with h9 | ⟨x0,x1,fB,x3,x4,rfl⟩
        · cases h9
        · exact hN0 _ ⟨_,_,_,_,_,_,_,_,_,_,_,_,_,_,_,_,_,_,_,rfl⟩
    · obtain ⟨a2,a3,a4,a5,a6,a7,a8,x0,x1,fB,x3,x4,a10,a11,a12,a13,a14,a15,a16,rfl⟩:=hs
      refine l_lst rfl rfl ?_
      refine l_lst rfl rfl ?_
      refine l_eqE rfl rfl ⟨_,rfl,by decide +kernel⟩ ⟨_,rfl,by decide +kernel⟩ ?_
      rw [if_neg (by decide)]
      show Br (eqD (.lst [.str "open",.str "barred",.str "endless"]) (.lst [.str "open",.str "barred",.str "endless"])) _ _
      rw [show eqD (.lst [.str "open",.str "barred",.str "endless"]) (.lst [.str "open",.str "barred",.str "endless"])=true by decide +kernel]
      refine brT ?_
      refine l_ixL rfl rfl ?_
      refine l_isiS T.ci_Barred T.kt_Barred_Top rfl ?_
      refine l_truB ?_
      rfl
end
section
variable {P:Program} {w:World} {K:PySem.W.Frag} {mg:Str→Option Value} {base:Heap} {a:Nat→Addr} {d:Nat→FuncData}
theorem xt_InvalidRatio:ExT (defBody sx_InvalidRatio) (defArgs sx_InvalidRatio) (defScope sx_InvalidRatio) "self" ["given"] xf_InvalidRatio where
  shape:=⟨_,_,_,_,_,_,_,_,_,rfl,(.con (fun _=>rfl) (.var (fun _=>rfl) (by decide) .nil)),fun _=>⟨_,rfl⟩,fun env h=>by unfold interactive;simp [Env.blockKind,h]<;>rfl,fun _=>rfl⟩
  head:=⟨_,rfl,rfl⟩
  ks:=by decide +kernel
  kc:=by decide +kernel
  loc:=by decide +kernel
  kind:=rfl
  co:=rfl
  gen:=rfl
  cell:=by decide +kernel
  flds:=by intro f hf x hx;simp at hf;first | (subst hf;cases hx;simp) | (rcases hf with rfl | rfl<;>cases hx<;>simp) | (rcases hf with rfl | rfl | rfl<;>cases hx<;>simp) | (rcases hf with rfl | rfl | rfl | rfl<;>cases hx<;>simp)
  nod:=by decide +kernel
  sd:=by decide
  len:=by decide
theorem xb_InvalidRatio (e:Addr) (us:List Value) (hl:us.length=(["given"]:List Str).length) (name qual:Str) (doc pm:Value) (an:Option Addr) (cda ct:Value) (cc:Addr):bindArgs (PySem.W.ksFn name qual (defArgs sx_InvalidRatio) (defBody sx_InvalidRatio) (defScope sx_InvalidRatio) .none .none doc pm an cda ct cc) ⟨.ref e::us,[]⟩=pure (((("self":Str)::(["given"]:List Str))).zip (.ref e::us)):=
  match us,hl with
  | [u0],_=>rfl
theorem xt_InvalidNumber:ExT (defBody sx_InvalidNumber) (defArgs sx_InvalidNumber) (defScope sx_InvalidNumber) "self" ["given"] xf_InvalidNumber where
  shape:=⟨_,_,_,_,_,_,_,_,_,rfl,(.con (fun _=>rfl) (.var (fun _=>rfl) (by decide) .nil)),fun _=>⟨_,rfl⟩,fun env h=>by unfold interactive;simp [Env.blockKind,h]<;>rfl,fun _=>rfl⟩
  head:=⟨_,rfl,rfl⟩
  ks:=by decide +kernel
  kc:=by decide +kernel
  loc:=by decide +kernel
  kind:=rfl
  co:=rfl
  gen:=rfl
  cell:=by decide +kernel
  flds:=by intro f hf x hx;simp at hf;first | (subst hf;cases hx;simp) | (rcases hf with rfl | rfl<;>cases hx<;>simp) | (rcases hf with rfl | rfl | rfl<;>cases hx<;>simp) | (rcases hf with rfl | rfl | rfl | rfl<;>cases hx<;>simp)
  nod:=by decide +kernel
  sd:=by decide
  len:=by decide
theorem xb_InvalidNumber (e:Addr) (us:List Value) (hl:us.length=(["given"]:List Str).length) (name qual:Str) (doc pm:Value) (an:Option Addr) (cda ct:Value) (cc:Addr):bindArgs (PySem.W.ksFn name qual (defArgs sx_InvalidNumber) (defBody sx_InvalidNumber) (defScope sx_InvalidNumber) .none .none doc pm an cda ct cc) ⟨.ref e::us,[]⟩=pure (((("self":Str)::(["given"]:List Str))).zip (.ref e::us)):=
  match us,hl with
  | [u0],_=>rfl
theorem xt_InvalidRow:ExT (defBody sx_InvalidRow) (defArgs sx_InvalidRow) (defScope sx_InvalidRow) "self" ["at"] xf_InvalidRow where
  shape:=⟨_,_,_,_,_,_,_,_,_,rfl,(.con (fun _=>rfl) (.var (fun _=>rfl) (by decide) .nil)),fun _=>⟨_,rfl⟩,fun env h=>by unfold interactive;simp [Env.blockKind,h]<;>rfl,fun _=>rfl⟩
  head:=⟨_,rfl,rfl⟩
  ks:=by decide +kernel
  kc:=by decide +kernel
  loc:=by decide +kernel
  kind:=rfl
  co:=rfl
  gen:=rfl
  cell:=by decide +kernel
  flds:=by intro f hf x hx;simp at hf;first | (subst hf;cases hx;simp) | (rcases hf with rfl | rfl<;>cases hx<;>simp) | (rcases hf with rfl | rfl | rfl<;>cases hx<;>simp) | (rcases hf with rfl | rfl | rfl | rfl<;>cases hx<;>simp)
  nod:=by decide +kernel
  sd:=by decide
  len:=by decide
theorem xb_InvalidRow (e:Addr) (us:List Value) (hl:us.length=(["at"]:List Str).length) (name qual:Str) (doc pm:Value) (an:Option Addr) (cda ct:Value) (cc:Addr):bindArgs (PySem.W.ksFn name qual (defArgs sx_InvalidRow) (defBody sx_InvalidRow) (defScope sx_InvalidRow) .none .none doc pm an cda ct cc) ⟨.ref e::us,[]⟩=pure (((("self":Str)::(["at"]:List Str))).zip (.ref e::us)):=
  match us,hl with
  | [u0],_=>rfl
theorem facts {w:World} {K:PySem.W.Frag} {h:Heap} {mg:Str→Option Value} {f:Addr} (X:K.In h) (G:h.Ns mainGlobals mg) (hfa:mg ("law":Str)=some (.ref f)) (c:SaysZ lyL faL fnL h K) (ck:∀ q∈kdL,q.chk K (He.ga K q.name)=true∧kdH K (He.ga K q.name)=q.keys.map fun kv=>PyData.keyHash w.params kv) (cs:∀ d∈ssL,fnWs K d.at_=d.val) :
    ∃ fd:FuncData,(∀ (s:Shared) (v:Value),BindsTo s fd ⟨[v],[]⟩ [("_law_script",v)])∧∀ base:Heap,K.In base→base.Ns mainGlobals mg→(∀ q∈lamFns K,LamX.TabB base mg q.1 q.2.1)→FnR PySem.Challenge.rw_missingmiles_k12_answers_told.prog w K mg base 22 f fd ["_law_script"] (spLaw K):=by
  obtain ⟨fd0,F0⟩:=c.s.def_ 0 (d:=df0) rfl
  obtain ⟨fd1,F1⟩:=c.s.def_ 1 (d:=df1) rfl
  obtain ⟨fd2,F2⟩:=c.s.def_ 2 (d:=df2) rfl
  obtain ⟨fd3,F3⟩:=c.s.def_ 3 (d:=df3) rfl
  obtain ⟨fd4,F4⟩:=c.s.def_ 4 (d:=df4) rfl
  obtain ⟨fd5,F5⟩:=c.s.def_ 5 (d:=df5) rfl
  obtain ⟨fd6,F6⟩:=c.s.def_ 6 (d:=df6) rfl
  obtain ⟨fd7,F7⟩:=c.s.def_ 7 (d:=df7) rfl
  obtain ⟨fd8,F8⟩:=c.s.def_ 8 (d:=df8) rfl
  obtain ⟨fd9,F9⟩:=c.s.def_ 9 (d:=df9) rfl
  obtain ⟨fd10,F10⟩:=c.s.def_ 10 (d:=df10) rfl
  obtain ⟨fd11,F11⟩:=c.s.def_ 11 (d:=df11) rfl
  obtain ⟨fd12,F12⟩:=c.s.def_ 12 (d:=df12) rfl
  obtain ⟨fd14,F14⟩:=c.s.def_ 13 (d:=df14) rfl
  obtain ⟨fd15,F15⟩:=c.s.def_ 14 (d:=df15) rfl
  obtain ⟨fd17,F17⟩:=c.s.def_ 15 (d:=df17) rfl
  obtain ⟨fd18,F18⟩:=c.s.def_ 16 (d:=df18) rfl
  obtain ⟨fd20,F20⟩:=c.s.def_ 17 (d:=df20) rfl
  obtain ⟨fd22,F22⟩:=c.s.def_ 18 (d:=df22) rfl
  obtain ⟨fd23,F23⟩:=c.s.def_ 19 (d:=df23) rfl
  obtain ⟨fd24,F24⟩:=c.s.def_ 20 (d:=df24) rfl
  obtain ⟨fd25,F25⟩:=c.s.def_ 21 (d:=df25) rfl
  obtain ⟨fd27,F27⟩:=c.s.def_ 22 (d:=df27) rfl
  obtain ⟨fd28,F28⟩:=c.s.def_ 23 (d:=df28) rfl
  obtain ⟨fd29,F29⟩:=c.s.def_ 24 (d:=df29) rfl
  obtain ⟨fd30,F30⟩:=c.s.def_ 25 (d:=df30) rfl
  obtain ⟨fd31,F31⟩:=c.s.def_ 26 (d:=df31) rfl
  obtain ⟨fd32,F32⟩:=c.s.def_ 27 (d:=df32) rfl
  obtain ⟨fd33,F33⟩:=c.s.def_ 28 (d:=df33) rfl
  obtain ⟨fd34,F34⟩:=c.s.def_ 29 (d:=df34) rfl
  obtain ⟨fd35,F35⟩:=c.s.def_ 30 (d:=df35) rfl
  obtain ⟨fd36,F36⟩:=c.s.def_ 31 (d:=df36) rfl
  obtain ⟨fd37,F37⟩:=c.s.def_ 32 (d:=df37) rfl
  obtain ⟨fd38,F38⟩:=c.s.def_ 33 (d:=df38) rfl
  have Pp13:=c.pr ps13 (List.mem_of_getElem? (i:=0) rfl)
  obtain ⟨fd13,F13⟩:=Pp13.f
  obtain ⟨fd16,F16⟩:=funK_ok (C:="Solved") (q:=df16) (xs_ok c.toSaysY.toSaysX (i:=46) rfl) (cs df16 (List.mem_of_getElem? (i:=0) rfl))
  obtain ⟨fd19,F19⟩:=funK_ok (C:="Barred") (q:=df19) (xs_ok c.toSaysY.toSaysX (i:=47) rfl) (cs df19 (List.mem_of_getElem? (i:=1) rfl))
  obtain ⟨fd21,F21⟩:=funK_ok (C:="Top") (q:=df21) (xs_ok c.toSaysY.toSaysX (i:=48) rfl) (cs df21 (List.mem_of_getElem? (i:=2) rfl))
  obtain ⟨fd26,F26⟩:=funK_ok (C:="Endless") (q:=df26) (xs_ok c.toSaysY.toSaysX (i:=49) rfl) (cs df26 (List.mem_of_getElem? (i:=3) rfl))
  have e:=hfa.symm.trans (He.glo_ok X G (c.s.fact 37 (f:=.glo "law") rfl))
  cases e
  have su:=He.free_ok X G (c.s.fact 80 (f:=.free "super") rfl)
  have X0:=c.x xs_InvalidRatio (List.mem_of_getElem? (i:=0) rfl)
  have X1:=c.x xs_InvalidNumber (List.mem_of_getElem? (i:=1) rfl)
  have X2:=c.x xs_InvalidRow (List.mem_of_getElem? (i:=2) rfl)
  have T:∀ base:Heap,(∀ q∈lamFns K,LamX.TabB base mg q.1 q.2.1)→Tx PySem.Challenge.rw_missingmiles_k12_answers_told.prog K mg base (fun i=>match i with | 0=>He.ga K "is_whole" | 1=>He.ga K "is_number" | 2=>He.ga K "is_ratio" | 3=>He.ga K "is_valued" | 4=>He.ga K "lowest" | 5=>He.ga K "ratio_of" | 6=>He.ga K "ratio_text" | 7=>He.ga K "is_row" | 8=>He.ma K (He.ga K "Problem") "__init__" | 9=>He.ma K (He.ga K "Problem") "__eq__" | 10=>He.ga K "own_copy" | 11=>He.ga K "as_list" | 12=>He.ma K (He.ga K "Answer") "__init__" | 13=>gAt K (He.ga K "Answer") "problem" | 14=>He.ma K (He.ga K "Answer") "holds" | 15=>He.ma K (He.ga K "Answer") "__bool__" | 16=>He.ma K (He.ga K "Solved") "__init__" | 17=>He.ma K (He.ga K "Solved") "numbers" | 18=>He.ma K (He.ga K "Solved") "__bool__" | 19=>He.ma K (He.ga K "Barred") "__init__" | 20=>He.ma K (He.ga K "Barred") "weights" | 21=>He.ma K (He.ga K "Top") "__init__" | 22=>He.ma K (He.ga K "Top") "factors" | 23=>He.ma K (He.ga K "Top") "weights" | 24=>He.ma K (He.ga K "Top") "told" | 25=>He.ma K (He.ga K "Answer") "told" | 26=>He.ma K (He.ga K "Endless") "__init__" | 27=>He.ma K (He.ga K "Endless") "factors" | 28=>He.ma K (He.ga K "Endless") "direction" | 29=>He.ma K (He.ga K "Answer") "__repr__" | 30=>He.ga K "_law_source" | 31=>He.ga K "_law_draw" | 32=>He.ga K "_law_of" | 33=>He.ga K "_law_same" | 34=>He.ga K "_law_low" | 35=>He.ga K "_law_wide" | 36=>He.ga K "_law_pair" | 37=>He.ga K "_law_text" | 38=>He.ga K "law" | _=>0) (fun i=>match i with | 0=>fd0 | 1=>fd1 | 2=>fd2 | 3=>fd3 | 4=>fd4 | 5=>fd5 | 6=>fd6 | 7=>fd7 | 8=>fd8 | 9=>fd9 | 10=>fd10 | 11=>fd11 | 12=>fd12 | 13=>fd13 | 14=>fd14 | 15=>fd15 | 16=>fd16 | 17=>fd17 | 18=>fd18 | 19=>fd19 | 20=>fd20 | 21=>fd21 | 22=>fd22 | 23=>fd23 | 24=>fd24 | 25=>fd25 | 26=>fd26 | 27=>fd27 | 28=>fd28 | 29=>fd29 | 30=>fd30 | 31=>fd31 | 32=>fd32 | 33=>fd33 | 34=>fd34 | 35=>fd35 | 36=>fd36 | 37=>fd37 | 38=>fd38 | _=>fd0):=fun base tb=>
    { tb:=tb
      F_is_whole:=F0
      m_is_whole:=He.glo_ok X G (c.s.fact 0 (f:=.glo "is_whole") rfl)
      F_is_number:=F1
      m_is_number:=He.glo_ok X G (c.s.fact 1 (f:=.glo "is_number") rfl)
      F_is_ratio:=F2
      m_is_ratio:=He.glo_ok X G (c.s.fact 2 (f:=.glo "is_ratio") rfl)
      F_is_valued:=F3
      m_is_valued:=He.glo_ok X G (c.s.fact 3 (f:=.glo "is_valued") rfl)
      F_lowest:=F4
      m_lowest:=He.glo_ok X G (c.s.fact 4 (f:=.glo "lowest") rfl)
      F_ratio_of:=F5
      m_ratio_of:=He.glo_ok X G (c.s.fact 5 (f:=.glo "ratio_of") rfl)
      F_ratio_text:=F6
      m_ratio_text:=He.glo_ok X G (c.s.fact 6 (f:=.glo "ratio_text") rfl)
      F_is_row:=F7
      m_is_row:=He.glo_ok X G (c.s.fact 7 (f:=.glo "is_row") rfl)
      F_Problem___init__:=F8
      dt_Problem___init___0:=fun G=>dt_ok c.toSaysY.toSaysX (i:=0) rfl G
      mk_Problem:=He.mkr_ok (c.s.fact 8 (f:=.mkr "Problem") rfl)
      F_Problem___eq__:=F9
      me_Problem___eq__:=He.meth_ok (c.s.fact 9 (f:=.meth "Problem" "__eq__") rfl)
      F_own_copy:=F10
      m_own_copy:=He.glo_ok X G (c.s.fact 10 (f:=.glo "own_copy") rfl)
      F_as_list:=F11
      m_as_list:=He.glo_ok X G (c.s.fact 11 (f:=.glo "as_list") rfl)
      F_Answer___init__:=F12
      mk_Answer:=He.mkr_ok (c.s.fact 12 (f:=.mkr "Answer") rfl)
      F_Answer_problem:=F13
      pr_Answer_problem:=Pp13.p rfl
      F_Answer_holds:=F14
      me_Answer_holds:=He.meth_ok (c.s.fact 13 (f:=.meth "Answer" "holds") rfl)
      F_Answer___bool__:=F15
      me_Answer___bool__:=He.meth_ok (c.s.fact 14 (f:=.meth "Answer" "__bool__") rfl)
      F_Solved___init__:=F16
      mk_Solved:=He.mkr_ok (c.s.fact 15 (f:=.mkr "Solved") rfl)
      F_Solved_numbers:=F17
      me_Solved_numbers:=He.meth_ok (c.s.fact 16 (f:=.meth "Solved" "numbers") rfl)
      F_Solved___bool__:=F18
      me_Solved___bool__:=He.meth_ok (c.s.fact 17 (f:=.meth "Solved" "__bool__") rfl)
      F_Barred___init__:=F19
      mk_Barred:=He.mkr_ok (c.s.fact 18 (f:=.mkr "Barred") rfl)
      F_Barred_weights:=F20
      me_Barred_weights:=He.meth_ok (c.s.fact 19 (f:=.meth "Barred" "weights") rfl)
      F_Top___init__:=F21
      mk_Top:=He.mkr_ok (c.s.fact 20 (f:=.mkr "Top") rfl)
      F_Top_factors:=F22
      me_Top_factors:=He.meth_ok (c.s.fact 21 (f:=.meth "Top" "factors") rfl)
      F_Top_weights:=F23
      me_Top_weights:=He.meth_ok (c.s.fact 22 (f:=.meth "Top" "weights") rfl)
      F_Top_told:=F24
      me_Top_told:=He.meth_ok (c.s.fact 23 (f:=.meth "Top" "told") rfl)
      F_Answer_told:=F25
      me_Answer_told:=He.meth_ok (c.s.fact 24 (f:=.meth "Answer" "told") rfl)
      F_Endless___init__:=F26
      mk_Endless:=He.mkr_ok (c.s.fact 25 (f:=.mkr "Endless") rfl)
      F_Endless_factors:=F27
      me_Endless_factors:=He.meth_ok (c.s.fact 26 (f:=.meth "Endless" "factors") rfl)
      F_Endless_direction:=F28
      me_Endless_direction:=He.meth_ok (c.s.fact 27 (f:=.meth "Endless" "direction") rfl)
      F_Answer___repr__:=F29
      me_Answer___repr__:=He.meth_ok (c.s.fact 28 (f:=.meth "Answer" "__repr__") rfl)
      F__law_source:=F30
      m__law_source:=He.glo_ok X G (c.s.fact 29 (f:=.glo "_law_source") rfl)
      F__law_draw:=F31
      m__law_draw:=He.glo_ok X G (c.s.fact 30 (f:=.glo "_law_draw") rfl)
      F__law_of:=F32
      m__law_of:=He.glo_ok X G (c.s.fact 31 (f:=.glo "_law_of") rfl)
      F__law_same:=F33
      m__law_same:=He.glo_ok X G (c.s.fact 32 (f:=.glo "_law_same") rfl)
      F__law_low:=F34
      m__law_low:=He.glo_ok X G (c.s.fact 33 (f:=.glo "_law_low") rfl)
      F__law_wide:=F35
      m__law_wide:=He.glo_ok X G (c.s.fact 34 (f:=.glo "_law_wide") rfl)
      F__law_pair:=F36
      m__law_pair:=He.glo_ok X G (c.s.fact 35 (f:=.glo "_law_pair") rfl)
      F__law_text:=F37
      m__law_text:=He.glo_ok X G (c.s.fact 36 (f:=.glo "_law_text") rfl)
      F_law:=F38
      me_Barred___bool__:=meB_ok (xs_ok c.toSaysY.toSaysX (i:=4) rfl)
      me_Barred___repr__:=meB_ok (xs_ok c.toSaysY.toSaysX (i:=5) rfl)
      me_Barred_told:=meB_ok (xs_ok c.toSaysY.toSaysX (i:=6) rfl)
      me_Endless___bool__:=meB_ok (xs_ok c.toSaysY.toSaysX (i:=7) rfl)
      me_Endless___repr__:=meB_ok (xs_ok c.toSaysY.toSaysX (i:=8) rfl)
      me_Endless_numbers:=meB_ok (xs_ok c.toSaysY.toSaysX (i:=9) rfl)
      me_Endless_told:=meB_ok (xs_ok c.toSaysY.toSaysX (i:=10) rfl)
      me_Solved___repr__:=meB_ok (xs_ok c.toSaysY.toSaysX (i:=11) rfl)
      me_Solved_told:=meB_ok (xs_ok c.toSaysY.toSaysX (i:=12) rfl)
      me_Top___bool__:=meB_ok (xs_ok c.toSaysY.toSaysX (i:=13) rfl)
      me_Top___repr__:=meB_ok (xs_ok c.toSaysY.toSaysX (i:=14) rfl)
      me_Top_numbers:=meB_ok (xs_ok c.toSaysY.toSaysX (i:=15) rfl)
      pr_Barred_problem:=prB_ok (xs_ok c.toSaysY.toSaysX (i:=16) rfl) (Pp13.p rfl)
      pr_Endless_problem:=prB_ok (xs_ok c.toSaysY.toSaysX (i:=17) rfl) (Pp13.p rfl)
      pr_Solved_problem:=prB_ok (xs_ok c.toSaysY.toSaysX (i:=18) rfl) (Pp13.p rfl)
      pr_Top_problem:=prB_ok (xs_ok c.toSaysY.toSaysX (i:=19) rfl) (Pp13.p rfl)
      ic_Answer_KIND:=icB_ok (xs_ok c.toSaysY.toSaysX (i:=20) rfl)
      ic_Barred_KIND:=icB_ok (xs_ok c.toSaysY.toSaysX (i:=21) rfl)
      ic_Endless_KIND:=icB_ok (xs_ok c.toSaysY.toSaysX (i:=22) rfl)
      ic_Solved_KIND:=icB_ok (xs_ok c.toSaysY.toSaysX (i:=23) rfl)
      ic_Top_KIND:=icB_ok (xs_ok c.toSaysY.toSaysX (i:=24) rfl)
      kt_Answer_Answer:=ktB_ok (xs_ok c.toSaysY.toSaysX (i:=25) rfl)
      kt_Solved_Answer:=ktB_ok (xs_ok c.toSaysY.toSaysX (i:=26) rfl)
      kt_Barred_Answer:=ktB_ok (xs_ok c.toSaysY.toSaysX (i:=27) rfl)
      kt_Top_Answer:=ktB_ok (xs_ok c.toSaysY.toSaysX (i:=28) rfl)
      kt_Endless_Answer:=ktB_ok (xs_ok c.toSaysY.toSaysX (i:=29) rfl)
      kt_Answer_Solved:=ktB_ok (xs_ok c.toSaysY.toSaysX (i:=30) rfl)
      kt_Solved_Solved:=ktB_ok (xs_ok c.toSaysY.toSaysX (i:=31) rfl)
      kt_Barred_Solved:=ktB_ok (xs_ok c.toSaysY.toSaysX (i:=32) rfl)
      kt_Top_Solved:=ktB_ok (xs_ok c.toSaysY.toSaysX (i:=33) rfl)
      kt_Endless_Solved:=ktB_ok (xs_ok c.toSaysY.toSaysX (i:=34) rfl)
      kt_Answer_Top:=ktB_ok (xs_ok c.toSaysY.toSaysX (i:=35) rfl)
      kt_Solved_Top:=ktB_ok (xs_ok c.toSaysY.toSaysX (i:=36) rfl)
      kt_Barred_Top:=ktB_ok (xs_ok c.toSaysY.toSaysX (i:=37) rfl)
      kt_Top_Top:=ktB_ok (xs_ok c.toSaysY.toSaysX (i:=38) rfl)
      kt_Endless_Top:=ktB_ok (xs_ok c.toSaysY.toSaysX (i:=39) rfl)
      su_Barred_Barred:=supB_ok (xs_ok c.toSaysY.toSaysX (i:=40) rfl)
      su_Endless_Endless:=supB_ok (xs_ok c.toSaysY.toSaysX (i:=41) rfl)
      su_Endless_Solved:=supB_ok (xs_ok c.toSaysY.toSaysX (i:=42) rfl)
      su_Solved_Solved:=supB_ok (xs_ok c.toSaysY.toSaysX (i:=43) rfl)
      su_Top_Solved:=supB_ok (xs_ok c.toSaysY.toSaysX (i:=44) rfl)
      su_Top_Top:=supB_ok (xs_ok c.toSaysY.toSaysX (i:=45) rfl)
      su_file:=beq_self_eq_true _
      su_top:=by kernel_rfl
      m_Problem:=He.glo_ok X G (c.s.fact 38 (f:=.glo "Problem") rfl)
      cl_Problem:=He.cls_ok (c.s.fact 39 (f:=.cls "Problem") rfl)
      na_Problem_own_size:=He.noat_ok (c.s.fact 40 (f:=.noat "Problem" "own_size") rfl)
      na_Problem_own_rows:=He.noat_ok (c.s.fact 41 (f:=.noat "Problem" "own_rows") rfl)
      m_Answer:=He.glo_ok X G (c.s.fact 42 (f:=.glo "Answer") rfl)
      cl_Answer:=He.cls_ok (c.s.fact 43 (f:=.cls "Answer") rfl)
      na_Answer_own_problem:=He.noat_ok (c.s.fact 44 (f:=.noat "Answer" "own_problem") rfl)
      m_Solved:=He.glo_ok X G (c.s.fact 45 (f:=.glo "Solved") rfl)
      cl_Solved:=He.cls_ok (c.s.fact 46 (f:=.cls "Solved") rfl)
      na_Solved_own_values:=He.noat_ok (c.s.fact 47 (f:=.noat "Solved" "own_values") rfl)
      na_Solved_own_problem:=He.noat_ok (c.s.fact 48 (f:=.noat "Solved" "own_problem") rfl)
      m_Barred:=He.glo_ok X G (c.s.fact 49 (f:=.glo "Barred") rfl)
      cl_Barred:=He.cls_ok (c.s.fact 50 (f:=.cls "Barred") rfl)
      na_Barred_own_weights:=He.noat_ok (c.s.fact 51 (f:=.noat "Barred" "own_weights") rfl)
      na_Barred_own_problem:=He.noat_ok (c.s.fact 52 (f:=.noat "Barred" "own_problem") rfl)
      m_Top:=He.glo_ok X G (c.s.fact 53 (f:=.glo "Top") rfl)
      cl_Top:=He.cls_ok (c.s.fact 54 (f:=.cls "Top") rfl)
      na_Top_own_factors:=He.noat_ok (c.s.fact 55 (f:=.noat "Top" "own_factors") rfl)
      na_Top_number:=He.noat_ok (c.s.fact 56 (f:=.noat "Top" "number") rfl)
      na_Top_own_weights:=He.noat_ok (c.s.fact 57 (f:=.noat "Top" "own_weights") rfl)
      na_Top_own_values:=He.noat_ok (c.s.fact 58 (f:=.noat "Top" "own_values") rfl)
      na_Top_own_problem:=He.noat_ok (c.s.fact 59 (f:=.noat "Top" "own_problem") rfl)
      m_Endless:=He.glo_ok X G (c.s.fact 60 (f:=.glo "Endless") rfl)
      cl_Endless:=He.cls_ok (c.s.fact 61 (f:=.cls "Endless") rfl)
      na_Endless_own_factors:=He.noat_ok (c.s.fact 62 (f:=.noat "Endless" "own_factors") rfl)
      na_Endless_own_direction:=He.noat_ok (c.s.fact 63 (f:=.noat "Endless" "own_direction") rfl)
      na_Endless_own_values:=He.noat_ok (c.s.fact 64 (f:=.noat "Endless" "own_values") rfl)
      na_Endless_own_problem:=He.noat_ok (c.s.fact 65 (f:=.noat "Endless" "own_problem") rfl)
      cc_Answer_KIND:=cv_ok c.toSaysY.toSaysX (i:=1) rfl
      cc_Barred_KIND:=cv_ok c.toSaysY.toSaysX (i:=2) rfl
      cc_Endless_KIND:=cv_ok c.toSaysY.toSaysX (i:=3) rfl
      ci_Answer:=c.ci "Answer" (by decide)
      ci_Barred:=c.ci "Barred" (by decide)
      ci_Endless:=c.ci "Endless" (by decide)
      ci_Problem:=c.ci "Problem" (by decide)
      ci_Solved:=c.ci "Solved" (by decide)
      ci_Top:=c.ci "Top" (by decide)
      x_InvalidRatio:=X0.cls xt_InvalidRatio (by decide +kernel) (by decide +kernel) xb_InvalidRatio (by intro f hf;simp at hf;rcases hf with rfl | rfl<;>decide) (fun vs z=>by cases z) su (by decide)
      x_InvalidNumber:=X1.cls xt_InvalidNumber (by decide +kernel) (by decide +kernel) xb_InvalidNumber (by intro f hf;simp at hf;rcases hf with rfl | rfl<;>decide) (fun vs z=>by cases z) su (by decide)
      x_InvalidRow:=X2.cls xt_InvalidRow (by decide +kernel) (by decide +kernel) xb_InvalidRow (by intro f hf;simp at hf;rcases hf with rfl | rfl<;>decide) (fun vs z=>by cases z) su (by decide)
      m_InvalidRatio:=He.glo_ok X G (c.s.fact 66 (f:=.glo "InvalidRatio") rfl)
      m_InvalidNumber:=He.glo_ok X G (c.s.fact 67 (f:=.glo "InvalidNumber") rfl)
      m_InvalidRow:=He.glo_ok X G (c.s.fact 68 (f:=.glo "InvalidRow") rfl)
      n_abs:=He.free_ok X G (c.s.fact 69 (f:=.free "abs") rfl)
      n_all:=He.free_ok X G (c.s.fact 70 (f:=.free "all") rfl)
      n_bool:=He.free_ok X G (c.s.fact 71 (f:=.free "bool") rfl)
      n_enumerate:=He.free_ok X G (c.s.fact 72 (f:=.free "enumerate") rfl)
      n_int:=He.free_ok X G (c.s.fact 73 (f:=.free "int") rfl)
      n_isinstance:=He.free_ok X G (c.s.fact 74 (f:=.free "isinstance") rfl)
      n_len:=He.free_ok X G (c.s.fact 75 (f:=.free "len") rfl)
      n_list:=He.free_ok X G (c.s.fact 76 (f:=.free "list") rfl)
      n_range:=He.free_ok X G (c.s.fact 77 (f:=.free "range") rfl)
      n_repr:=He.free_ok X G (c.s.fact 78 (f:=.free "repr") rfl)
      n_str:=He.free_ok X G (c.s.fact 79 (f:=.free "str") rfl)
      n_super:=He.free_ok X G (c.s.fact 80 (f:=.free "super") rfl)
      n_tuple:=He.free_ok X G (c.s.fact 81 (f:=.free "tuple") rfl)
      b_gcd:=c.blt X G 0 rfl
      c_MOST_UNKNOWNS:=c.glob X G 0 rfl }
  exact ⟨fd38,binds1_of F38 fun _ _ _ _ _ _ u=>rfl,fun base _ _ tb=>ok_law (T base tb)⟩
end
end K12
open PySem PySem.W PySem.Calls PyProof.Rows in
set_option maxRecDepth 100000 in
set_option maxHeartbeats 0 in
theorem PySem.Challenge.cw_missingmiles_k12_answers_told_holds : PySem.Challenge.rw_missingmiles_k12_answers_told.Holds := by
  w_on;o_law
  refine HandSHeadRun.head_imp (r:=OpenLaw.row PySem.Challenge.rw_missingmiles_k12_answers_told) (q:=K12.qv) (H:=K12.hk) (ob:=K12.ob) (M:=9000) (loose:=K12.names) (d:=HandSHeadRun.topDef (OpenLaw.row PySem.Challenge.rw_missingmiles_k12_answers_told).prog 48) (kwd:=[]) K12.ob_eq
    K12.run (by kernel_rfl) (by kernel_rfl) (by kernel_rfl) (by rfl) (by first | assumption | decide +kernel) (by decide +kernel) ⟨rfl,rfl,rfl,rfl,rfl,by decide +kernel⟩ ?hw ?hc
  case hw=>w_witness2
  case hc=>
    refine DL.walk_ofX (l:=PySem.Challenge.rw_missingmiles_k12_answers_told) (n:=63) (k:=22) (x:="_law_script") rfl (by decide) (by kernel_rfl) ⟨rfl,by decide,by decide⟩ ?F
    intro w mg fa h Y G hmg0
    obtain ⟨K,KX,c,ck,cs⟩:=Y
    have hmg:mg ("law":PySem.Str)=some (.ref fa):=by
      have e:(HandSHeadRun.topDef (OpenLaw.row PySem.Challenge.rw_missingmiles_k12_answers_told).prog 48).name=("law":PySem.Str):=by kernel_rfl
      rw [← e]
      exact hmg0
    obtain ⟨fd,hb,hF⟩:=K12.facts (w:=w) KX G hmg c ck cs
    exact ⟨K,fd,DL.spLaw K,KX,hb,c.te,c.tn,c.tc,fun H a ns hl hT hS=>⟨a,ns,rfl,hS,hl,hT,c.tu,fun _=>rfl⟩,hF⟩
